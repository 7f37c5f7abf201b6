import PyProof.Rows.All
import Wide.All
import OpenK.AllK
import Wide.FinOn
import KE.KOpsOwn
import KE.RegKIsAll
import HandS.ForMost
import HandS.ForExc
import HandS.Wide
import HandS.IsInst
import HandS.Property
import HandS.Star
import HandS.SlotsOwn
import HandS.MakeKw
import HandS.Evl
import HandS.Style
import HandS.MakeKwOnly
import HandS.TupSets
import HandS.Small
import PyProof.MeetsIn
import PyProof.CallType
import PyProof.Conv_bool
import PyProof.ReprRoads
import HandS.Defaults
import KE.DataFind
import HandS.TryOnly
import KE.KSuper
import KE.KExcSuper
import KE.KExcIs
import HandS.Exc
import HandS.ExcOwn
import HandS.ExcInit
import HandS.ExcValue
import HandS.ExcField
import HandS.WordsExc
import HandS.OwnEq
import HandS.Zip
import PySem.Challenge.RW_whatspeed_k07_stretches_of_any_value
set_option Elab.async false
set_option linter.all false
set_option maxRecDepth 100000
set_option maxHeartbeats 2000000
namespace WL
open PySem PySem.Spec PyProof.Rows L2

/-! ### operators that the bundles lack -/
def CPowW (i j : Int) : Prop := 0 ≤ j ∧ (Builtin.Int.intBits i : Int) * j ≤ 2 ^ 27
def CDivG (i j : Int) : Prop := j ≠ 0 ∧ j.natAbs.log2 < 9000
section
variable {X : Cx}
theorem op_powW : OpR X (binaryOp .Pow) (rI CPowW fun i j => .int (i ^ j.toNat)) := opI fun _ _ _ _ _ _ _ hc q => pow_int hc.1 hc.2 q
theorem op_fdivG : OpR X (binaryOp .FloorDiv) (rI CDivG fun i j => .int (i.fdiv j)) := opI fun _ _ _ _ _ _ _ hc q =>
  floordiv_int hc.1 q (.inl (PyProof.noPylong_of_log2 hc.2))
end

/-! ### an own class's operators: x op y, both instances of the class at C -/
def rOwn2 (C : Addr) (sp : Sp) (E : XK) : R2 := fun x y H Q => ∃ a dx fs b dy gs, x = .ref a ∧ y = .ref b ∧ H a = some (.ins C dx fs) ∧ H b = some (.ins C dy gs) ∧ sp [x, y] H Q E
/-- x == y, x an instance of the class at C, y of a type that is not below it -/
def rOwnEq (K : PySem.W.Frag) (C : Addr) (sp : Sp) (E : XK) : R2 := fun x y H Q => ∃ a dx fs t, x = .ref a ∧ H a = some (.ins C dx fs) ∧ TyX K H y t ∧ PySem.W.notFirst K C t = true ∧ sp [x, y] H Q E
section
variable {X : Cx} {CX : CXT} {n : Nat} {C g : Addr} {fd : FuncData} {ps : List Str} {sp : Sp} {E : XK}
theorem op_own2 {op : Operator} (F : FnOk X.prog X.w X.K X.mg X.base CX n g fd ps sp) (hb : Binds X.K fd ps []) (hs : PySem.W.findIn X.K (.ref C) (PySem.dunder op.info.2) = some (some (.ref g)))
    (hf : PySem.W.isFn X.K (.ref g) = true) (hc : PySem.W.selfFirst X.K C = true) (hr : Room n X.A) (hx : Passes CX X E) : OpR X (binaryOp op) (rOwn2 C sp E) := by
  intro pins s σ H x y v u Q I rx ry h
  obtain ⟨a, dx, fs, b, dy, gs, rfl, rfl, ha, hb', q⟩ := h
  cases (show v = Value.ref a from rx)
  cases (show u = Value.ref b from ry)
  obtain ⟨mA, J, _⟩ := ins_get I.hok ha
  obtain ⟨mB, J', _⟩ := ins_get I.hok hb'
  obtain ⟨od, J, _⟩ := J.look
  obtain ⟨od', J', _⟩ := J'.look
  obtain ⟨m, hF⟩ := I.fr
  refine PySem.W.binop_K hF I.ok.mod.kin J J'.type hc hs hf ?_
  refine wpAny_mono (run_fn (us := [.ref a, .ref b]) (vs := [.ref a, .ref b]) (dvs := []) (ds := []) F hr hb .nil hx I (.cons rfl (.cons rfl .nil)) q) (fun w s' z => ?_) fun _ _ x => x
  obtain ⟨z', H', I', rz, qz⟩ := z
  exact SlX.cmpback rz ⟨z', H', I', rz, qz⟩
theorem op_ownEq (F : FnOk X.prog X.w X.K X.mg X.base CX n g fd ps sp) (hb : Binds X.K fd ps []) (hs : PySem.W.findIn X.K (.ref C) "__eq__" = some (some (.ref g)))
    (hf : PySem.W.isFn X.K (.ref g) = true) (hr : Room n X.A) (hx : Passes CX X E) : OpR X (compareOp .Eq) (rOwnEq X.K C sp E) := by
  intro pins s σ H x y v u Q I rx ry h
  obtain ⟨a, dx, fs, t, rfl, ha, ty, hn, q⟩ := h
  cases (show v = Value.ref a from rx)
  obtain ⟨mA, J, _⟩ := ins_get I.hok ha
  obtain ⟨od, J, _⟩ := J.look
  obtain ⟨m, hF⟩ := I.fr
  obtain ⟨P, Z, p, _⟩ := kit_of I ry ty
  show wpAny (model X.prog X.w) X.A (richCompare .Eq (.ref a) u) (EP X pins σ Q) X.xe s
  refine PySem.W.cmp_K (op := .Eq) hr.units0 hF I.ok.mod.kin J (Z.ty _ _ I.kIn p) hn hs hf ?_
  refine wpAny_mono (run_fn (us := [.ref a, u]) (vs := [.ref a, y]) (dvs := []) (ds := []) F hr hb .nil hx I (.cons rfl (.cons ry .nil)) q) (fun w s' z => ?_) fun _ _ x => x
  obtain ⟨z', H', I', rz, qz⟩ := z
  exact SlX.cmpback rz ⟨z', H', I', rz, qz⟩
/-- -x -/
def rOwn1 (C : Addr) (sp : Sp) (E : XK) : V → Hp → VK → Prop := fun x H Q => ∃ a dx fs, x = .ref a ∧ H a = some (.ins C dx fs) ∧ sp [x] H Q E
theorem un_ownNeg (F : FnOk X.prog X.w X.K X.mg X.base CX n g fd ps sp) (hb : Binds X.K fd ps []) (hs : PySem.W.findIn X.K (.ref C) "__neg__" = some (some (.ref g)))
    (hf : PySem.W.isFn X.K (.ref g) = true) (hr : Room n X.A) (hx : Passes CX X E) : UnR X (unaryOp .USub) (rOwn1 C sp E) := by
  intro pins s σ H x v Q I rx h
  obtain ⟨a, dx, fs, rfl, ha, q⟩ := h
  cases (show v = Value.ref a from rx)
  obtain ⟨mA, J, _⟩ := ins_get I.hok ha
  obtain ⟨od, J, _⟩ := J.look
  obtain ⟨m, hF⟩ := I.fr
  exact PySem.W.ksp_neg hF I.ok.mod.kin J hs hf (run_fn (us := [.ref a]) (vs := [.ref a]) (dvs := []) (ds := []) F hr hb .nil hx I (.cons rfl .nil) q)
end

/-! ### x != y by an own __eq__ and object's __ne__ -/
section
variable {prog : Program} {w : World} {A : Around} {E : Value → Shared → Prop} {s : Shared} {K : PySem.W.Frag} {x C f L : Addr} {h₀ : Heap} {m : Str → Option Value} {ox : Obj} {od : Option Obj} {b tb : Value}
theorem ne_entry (X : K.In s.heap) (I : PySem.W.InstAt s.heap x ox C od) (hu : A.units < cLine) (hs : PySem.W.findIn K (.ref C) "__eq__" = some (some (.ref f))) (hf : PySem.W.isFn K (.ref f) = true) {Q : Fin → Shared → Prop}
    (h : wpAny (model prog w) A (call (.ref f) [.ref x, b]) (fun v s' => ∃ r, v = .bool r ∧ Q (.done (.ret (.bool (!r)))) s') E s) :
    wpAny (model prog w) A (Builtin.«object.__ne__» ⟨[.ref x, b], []⟩) Q E s := by
  unfold Builtin.«object.__ne__»
  repeat (first
    | with_reducible refine wpAny_cRoomFor hu ?_
    | (refine wpAny_bind (m := callSpecialIfBound? (.ref x) (Str.ofString "__eq__") [b])
        (PySem.W.ifBound_K X I hs hf (wpAny_mono h (fun r s' hr => by
          obtain ⟨b, rfl, hq⟩ := hr
          repeat (first | exact hq | exact wpAny_pure hq | exact wpAny_truthy_bool hq | (refine wpAny_bind (m := truthy (.bool _)) (wpAny_truthy_bool ?_)) | wp_step)) fun _ _ e => e)))
    | wp_step)
theorem try_ne (X : K.In s.heap) (I : PySem.W.InstAt s.heap x ox C od) (hu : A.units + 1 < cLine) (hne : PySem.W.findIn K (.ref C) "__ne__" = some (some (.builtin "object.__ne__"))) (hm : PySem.W.mroIn K C (.type "object") = some true)
    (hs : PySem.W.findIn K (.ref C) "__eq__" = some (some (.ref f))) (hf : PySem.W.isFn K (.ref f) = true) {Q : Option Value → Shared → Prop}
    (h : wpAny (model prog w) A.in1 (call (.ref f) [.ref x, b]) (fun v s' => ∃ r, v = .bool r ∧ Q (some (.bool (!r))) s') E s) :
    wpAny (model prog w) A (tryCompare (.ref x) "__ne__" b) Q E s := by
  unfold tryCompare
  simp only [callSpecialIfBound?, bindSpecialIfBound?]
  refine wpAny_bind (wpAny_holding (wpAny_bind (wpAny_bind (wpAny_bind (I.type.here ((PySem.W.looks_findIn X hne).here ?_))))))
  have call_it : ∀ {Q' : Value → Shared → Prop}, (∀ r s', Q (some (.bool (!r))) s' → Q' (.bool (!r)) s') → wpAny (model prog w) A (call (.builtin "object.__ne__") [.ref x, b]) Q' E s := fun hq =>
    wpAny_call (codeAny_call_builtin F.cmp_object.ne.plain F.cmpEntry_ne (PySem.W.check_slot F.cmpKind_ne F.cmpSplit_ne (I.type.andThen (PySem.W.looks_mroIn X hm)) (F.cmpArgs_ne _ _)
      (ne_entry (A := A.in1) X I hu hs hf (wpAny_mono h (fun v s' hv => by
        obtain ⟨r, rfl, hq'⟩ := hv
        first | exact ⟨r, rfl, hq _ _ hq'⟩ | exact ⟨r, rfl, wpAny_pure (hq _ _ hq')⟩) fun _ _ e => e))))
  simp only [F.cmp_object.ne.bind]
  refine wpAny_bind (wpAny_askSetting (wpAny_ite ?_))
  have fin : wpAny (model prog w) A (call (.builtin "object.__ne__") ([.ref x] ++ [b]) >>= fun v => pure (some v)) (fun r s' => wpAny (model prog w) A (match r with | some .notImplemented => pure none | none => pure none | some v => pure (some v)) Q E s') E s :=
    wpAny_bind (call_it fun r s' q => wpAny_pure (wpAny_pure q))
  split
  · exact wpAny_bind (wpAny_pure (wpAny_pure (by first | exact fin | exact wpAny_mono fin (fun _ _ z => z) fun _ _ z => z)))
  · exact wpAny_tryCatch (wpAny_bind (wpAny_pure (wpAny_pure (by first | exact fin | exact wpAny_mono fin (fun _ _ z => z) fun _ _ z => z))))
theorem ne_K {Q : Value → Shared → Prop} (hu : A.units + 1 < cLine) (X : K.In s.heap) (I : PySem.W.InstAt s.heap x ox C od) (hb : PySem.W.Looks (model prog w) s.heap (typeOf b) tb) (hn : PySem.W.notFirst K C tb = true)
    (hne : PySem.W.findIn K (.ref C) "__ne__" = some (some (.builtin "object.__ne__"))) (hm : PySem.W.mroIn K C (.type "object") = some true) (hs : PySem.W.findIn K (.ref C) "__eq__" = some (some (.ref f))) (hf : PySem.W.isFn K (.ref f) = true)
    (h : wpAny (model prog w) A.in1 (call (.ref f) [.ref x, b]) (fun v s' => ∃ r, v = .bool r ∧ Q (.bool (!r)) s') E s) : wpAny (model prog w) A (richCompare .NotEq (.ref x) b) Q E s := by
  have one : wpAny (model prog w) A (tryCompare (.ref x) "__ne__" b) (fun r s' => ∃ v, r = some v ∧ Q v s') E s := try_ne X I hu hne hm hs hf (wpAny_mono h (fun v s' hv => by
    obtain ⟨r, rfl, q⟩ := hv
    exact ⟨r, rfl, _, rfl, q⟩) fun _ _ e => e)
  unfold richCompare
  simp only [oneThing_ref]
  refine wpAny_holding (wpAny_bind (wpAny_cRoomFor (by omega) ?_))
  refine wpAny_bind (I.type.here (wpAny_bind (hb.here ?_)))
  split
  · rename_i q
    have e : PySem.W.subIn K tb (.ref C) = some false := by
      rcases Bool.or_eq_true_iff.mp hn with e | e
      · rw [beq_iff_eq.mp e] at q; simp at q
      · exact beq_iff_eq.mp e
    refine wpAny_bind ((PySem.W.looks_subIn X e).here ?_)
    simp only [Bool.false_eq_true, if_false]
    refine wpAny_bind (wpAny_mono one (fun r s' z => ?_) fun _ _ e => e)
    obtain ⟨v, rfl, hq⟩ := z
    exact wpAny_pure hq
  · refine wpAny_bind (wpAny_pure ?_)
    simp only [Bool.false_eq_true, if_false]
    refine wpAny_bind (wpAny_mono one (fun r s' z => ?_) fun _ _ e => e)
    obtain ⟨v, rfl, hq⟩ := z
    exact wpAny_pure hq
end
/-- x != y -/
def rOwnNe (K : PySem.W.Frag) (C : Addr) (sp : Sp) (E : XK) : R2 := fun x y H Q => ∃ a dx fs t, x = .ref a ∧ H a = some (.ins C dx fs) ∧ TyX K H y t ∧ PySem.W.notFirst K C t = true ∧ sp [x, y] H (fun z H' => ∃ r, z = .bl r ∧ Q (.bl (!r)) H') E
theorem op_ownNe {X : Cx} (K : PySem.W.Frag) {CX : CXT} {n : Nat} {C g : Addr} {fd : FuncData} {ps : List Str} {sp : Sp} {E : XK} (F : FnOk X.prog X.w X.K X.mg X.base CX n g fd ps sp) (hb : Binds X.K fd ps []) (hne : PySem.W.findIn X.K (.ref C) "__ne__" = some (some (.builtin "object.__ne__"))) (hm : PySem.W.mroIn X.K C (.type "object") = some true)
    (hs : PySem.W.findIn X.K (.ref C) "__eq__" = some (some (.ref g))) (hf : PySem.W.isFn X.K (.ref g) = true) (hr : Room (n + 1) X.A) (hx : Passes CX X E) (hK : X.K = K := by rfl) : OpR X (compareOp .NotEq) (rOwnNe K C sp E) := by
  subst hK
  intro pins s σ H x y v u Q I rx ry h
  obtain ⟨a, dx, fs, t, rfl, ha, ty, hn, q⟩ := h
  cases (show v = Value.ref a from rx)
  obtain ⟨mA, J, _⟩ := ins_get I.hok ha
  obtain ⟨od, J, _⟩ := J.look
  obtain ⟨P, Z, p, _⟩ := kit_of I ry ty
  show wpAny (model X.prog X.w) X.A (richCompare .NotEq (.ref a) u) (EP X pins σ Q) X.xe s
  refine ne_K (by have := hr.un; omega) I.kIn J (Z.ty _ _ I.kIn p) hn hne hm hs hf ?_
  have hl := F.len _ _ _ _ q
  refine wpAny_call (codeAny_mono (F.run X.A.in1 X.stack s H ⟨[.ref a, u], []⟩ [.ref a, u] [.ref a, y] _ E hr.in1 I.env0.in1 (by
    have := hb s [.ref a, u] I.kIn (by simpa using hl)
    simpa using this) (.cons rfl (.cons ry .nil)) q) fun r s' hq => ?_)
  cases r with
  | error e => exact hx pins σ H s e s' I hq
  | ok fl =>
    cases fl with
    | ret u =>
      obtain ⟨z, H', I', rz, r, ez, q'⟩ := I.after hq
      subst ez
      cases (show u = Value.bool r from rz)
      exact ⟨r, rfl, .bl (!r), H', I', rfl, q'⟩
    | next => exact False.elim hq
    | brk => exact False.elim hq
    | cont => exact False.elim hq
/-! ### calls by keywords: f(e, .., k = v), o.m(e, .., k = v) -/
def tMethK (C : Addr) (m : Str) (n mm : Nat) (sp : Sp) (gV : List V → List V → List V) (E : XK) (ta : TE) (t tk : TA) : TE := fun σ H Q => ta σ H fun x H1 => ∃ a dx fs, x = .ref a ∧ H1 a = some (.ins C dx fs) ∧ fs.lookup m = none ∧
  t σ H1 fun vs H2 => tk σ H2 fun zs H3 => vs.length = n ∧ zs.length = mm ∧ sp (gV (x :: vs) zs) H3 Q E
def tCallKN (n mm : Nat) (sp : Sp) (gV : List V → List V → List V) (E : XK) (t tk : TA) : TE := fun σ H Q => t σ H fun vs H2 => tk σ H2 fun zs H3 => vs.length = n ∧ zs.length = mm ∧ sp (gV vs zs) H3 Q E
theorem kbn_of {K : PySem.W.Frag} {x qual : Str} {st : Stmt} {f : Addr} {fd : FuncData} {ps : List Str} (F : Fun K x qual st f fd) (n : Nat) (ks : List Str) (g : {α : Type} → List α → List α → List α)
    (hrel : ∀ {vs zs : List V} {us ws : List Value}, Vals vs us → Vals zs ws → Vals (g vs zs) (g us ws))
    (h : ∀ (kV doc pm : Value) (an : Option Addr) (cdv ct : Value) (us ws : List Value), us.length = n → ws.length = ks.length →
      bindArgs (PySem.W.fnOf x qual (defArgs st) (defBody st) (defScope st) .none kV doc pm an cdv ct) ⟨us, ks.zip ws⟩ = pure (ps.zip (g us ws))) : KBn K fd ps n ks (fun us ws => g us ws) (fun vs zs => g vs zs) := by
  obtain ⟨oc, od, kV, doc, pm, an, cdv, ct, osl, rfl, lk, hcd⟩ := F.ex
  exact ⟨fun s us ws X l1 l2 => .of_eq (h kV doc pm an cdv ct us ws l1 l2), fun r1 r2 => hrel r1 r2⟩
section
variable {X : Cx} {CX : CXT} {k n : Nat} {f C : Addr} {fd : FuncData} {ps ks : List Str} {sp : Sp} {E : XK} {x m : Str} {p pos apos : Pos} {o e : Expr} {es : List Expr} {kws : List Keyword} {ta : TE} {t tk : TA} {g : List Value → List Value → List Value} {gV : List V → List V → List V}
theorem run_fnN {pins : List (Addr × Obj)} {σ : L2.St} {H : Hp} {s : Shared} {Q : VK} {us ws : List Value} {vs zs : List V} (F : FnOk X.prog X.w X.K X.mg X.base CX k f fd ps sp) (hr : Room k X.A) (hb : KBn X.K fd ps n ks g gV) (hx : Passes CX X E)
    (I : Inv X pins σ H s) (r : Vals vs us) (rz : Vals zs ws) (l1 : vs.length = n) (l2 : zs.length = ks.length) (h : sp (gV vs zs) H Q E) : wpAny (model X.prog X.w) X.A (call (.ref f) us (ks.zip ws)) (EP X pins σ Q) X.xe s := by
  have r2 := hb.rel r rz
  refine wpAny_call (codeAny_mono (F.run X.A X.stack s H ⟨us, ks.zip ws⟩ (g us ws) (gV vs zs) Q E hr I.env0 (hb.to s us ws I.kIn (r.length.symm.trans l1) (rz.length.symm.trans l2)) r2 h) fun r s' hq => ?_)
  cases r with
  | error e => exact hx pins σ H s e s' I hq
  | ok fl =>
    cases fl with
    | ret u => exact I.after hq
    | next => exact False.elim hq
    | brk => exact False.elim hq
    | cont => exact False.elim hq
/-- f(k = v, ..) -/
theorem pe_callK0 (F : FnOk X.prog X.w X.K X.mg X.base CX k f fd ps sp) (hr : Room k X.A) (hg : Gl X x) (hm : X.mg x = some (.ref f)) (hk : PySem.W.keepIn X.K (.ref f) = true) (hb : KBn X.K fd ps 0 ks g gV) (hx : Passes CX X E) (hkw : PK X kws tk)
    (hall : (backToKw pos (keywordEach kws X.env)).all (·.1.isSome) = true := by rfl) (hks : (backToKw pos (keywordEach kws X.env)).filterMap (·.1) = ks := by rfl) (hdb : (x == ("__debug__" : Str)) = false := by decide)
    (hpl : ((backTo pos (starEach [] X.env)).any (·.1) || (backToKw pos (keywordEach kws X.env)).any (·.1.isNone)) = false := by rfl) :
    PE X (.Call (.Name x p) [] kws pos) (tCallKN 0 ks.length sp gV E tNil tk) := by
  refine ⟨fun pins s σ H Q I h => ?_⟩
  refine wpAny_Call_Name_kw (ld_glob I hg hm ?_ hdb)
  refine PySem.W.callWith_KW0 (h₀ := X.base) I.ok.mod.kin hk hall ?_ hpl
  refine thn (hkw.run pos pins s σ H _ I h) fun ws s2 ⟨zs, H2, I2, rz, l1, l2, q2⟩ => ⟨I2.kIn, ?_⟩
  rw [hks]
  exact run_fnN (us := []) (vs := []) F hr hb hx I2 .nil rz rfl l2 q2
/-- o.m(k = v, ..) -/
theorem pe_methK0 {pl : Sem Bool} (he : PE X o ta) (c : Cls X.K C) (hm : Meth X.K C m f) (F : FnOk X.prog X.w X.K X.mg X.base CX k f fd ps sp) (hr : Room k X.A) (hb : KBn X.K fd ps 1 ks g gV) (hx : Passes CX X E) (hkw : PK X kws tk)
    (hall : (backToKw pos (keywordEach kws X.env)).all (·.1.isSome) = true := by rfl) (hks : (backToKw pos (keywordEach kws X.env)).filterMap (·.1) = ks := by rfl)
    (hpl : ((backTo pos (starEach [] X.env)).any (·.1) || (backToKw pos (keywordEach kws X.env)).any (·.1.isNone)) = false := by rfl)
    (ht : eval (.Call (.Attribute o m apos) [] kws pos) X.env = (do
      let ov ← eval o X.env
      standAt apos.atName
      let (f, first) ← holding [ov] (getMethod ov m pl)
      callWith pos f first (backTo pos (starEach [] X.env)) (backToKw pos (keywordEach kws X.env))) := by rfl) :
    PE X (.Call (.Attribute o m apos) [] kws pos) (tMethK C m 0 ks.length sp gV E ta tNil tk) := by
  refine ⟨fun pins s σ H Q I h => ?_⟩
  refine PySem.W.methodCall_KW (pl := pl) (thn (he.run pins s σ H _ I h) fun u s1 ⟨x, H1, I1, rx, a, dx, fs, ex, ea, l, q⟩ => ?_) ht
  subst ex
  obtain rfl : u = Value.ref a := rx
  refine getmeth_ok I1 ea c hm l ?_
  refine PySem.W.callWith_KW0 (first := [.ref a]) (h₀ := X.base) I.ok.mod.kin hm.kp hall ?_ hpl
  refine thn (hkw.run pos pins s1 σ H1 _ I1 q) fun ws s2 ⟨zs, H2, I2, rz, l1, l2, q2⟩ => ⟨I2.kIn, ?_⟩
  rw [hks]
  exact run_fnN (us := [.ref a]) (vs := [.ref a]) F hr hb hx I2 (.cons rfl .nil) rz rfl l2 q2
/-- f(e, ..), f an instance of the class at C -/
def tCallI (C : Addr) (sp : Sp) (dvs : List V) (E : XK) (tf : TE) (t : TA) : TE := fun σ H Q => tf σ H fun y H1 => ∃ a, y = V.ref a ∧ t σ H1 fun vs H2 => ∃ dx fs, H2 a = some (.ins C dx fs) ∧ sp (V.ref a :: (vs ++ dvs)) H2 Q E
theorem pe_callI {fe : Expr} {tf : TE} {dvs : List V} {ds : List Value} (hf : PE X fe tf) (c : StX.CallO X.K C f) (F : FnOk X.prog X.w X.K X.mg X.base CX k f fd ps sp) (hr : Room k X.A) (hb : Binds X.K fd ps ds) (hd : Vals dvs ds) (hx : Passes CX X E) (ha : PA X (e :: es) t)
    (ht : eval (.Call fe (e :: es) [] pos) X.env = (do callWith pos (← eval fe X.env) [] (backTo pos (starEach (e :: es) X.env)) (backToKw pos (keywordEach [] X.env))) := by rfl)
    (he : starEach (e :: es) X.env = (false, eval e X.env) :: starEach es X.env := by rfl) (hpl : (backTo pos (starEach es X.env)).any (·.1) = false := by rfl) : PE X (.Call fe (e :: es) [] pos) (tCallI C sp dvs E tf t) := by
  refine ⟨fun pins s σ H Q I h => ?_⟩
  refine Call_ (thn (hf.run pins s σ H _ I h) fun u s1 ⟨y, H1, I1, ry, a, ey, q⟩ => ?_) ht
  subst ey
  obtain rfl : u = Value.ref a := ry
  refine StX.callO_with (thn (ha.run pos pins s1 σ H1 _ I1 q) fun us s2 ⟨vs, H2, I2, r, dx, fs, hi, q2⟩ => ?_) he hpl
  obtain ⟨ox, od, J, hdt⟩ := StX.insC_at I2 (.inr ⟨dx, fs, hi⟩)
  exact ⟨⟨C, ox, od, J, hdt⟩, StX.run_callO c (F.raw hb hd) hr hx I2 (.inr ⟨dx, fs, hi⟩) r q2⟩
end
/-! ### the rules whose readings name the written part, with it told (for a comprehension's block) -/
section
variable {X : Cx} (K : PySem.W.Frag)
theorem ixT (h : X.K = K := by rfl) : IxR X (rIxT K) := h ▸ ix_tup
theorem ixL (h : X.K = K := by rfl) : IxR X (rIxL K) := h ▸ ix_list
theorem cIsi (h : X.K = K := by rfl) : CallR X (.builtin "isinstance") (rIsi K) := h ▸ call_isi
theorem opEqD (hu : X.A.units + 64 < cLine) (h : X.K = K := by rfl) : OpR X (compareOp .Eq) (rEqD K) := h ▸ op_eqD hu
theorem opNeD (hu : X.A.units + 64 < cLine) (h : X.K = K := by rfl) : OpR X (compareOp .NotEq) (rNeD K) := h ▸ op_neD hu
theorem peFld {e : Expr} {f : Str} {pos : Pos} {ta : TE} (he : PE X e ta) (hb : attributeBase e f X.env (eval e X.env) = eval e X.env := by rfl) (h : X.K = K := by rfl) : PE X (.Attribute e f pos) (tFld K ta f) := h ▸ pe_fld he hb
theorem opOwnEq {CX : CXT} {n : Nat} {C g : Addr} {fd : FuncData} {ps : List Str} {sp : Sp} {E : XK} (F : FnOk X.prog X.w X.K X.mg X.base CX n g fd ps sp) (hb : Binds X.K fd ps []) (hs : PySem.W.findIn X.K (.ref C) "__eq__" = some (some (.ref g)))
    (hf : PySem.W.isFn X.K (.ref g) = true) (hr : Room n X.A) (hx : Passes CX X E) (h : X.K = K := by rfl) : OpR X (compareOp .Eq) (rOwnEq K C sp E) := h ▸ op_ownEq F hb hs hf hr hx
theorem piList {tg l : Expr} {tl : TE} (hl : PE X l tl) (h : X.K = K := by rfl) : PI X tg l (iList K tl) := h ▸ pi_list hl
theorem piTup {tg l : Expr} {tl : TE} (hl : PE X l tl) (h : X.K = K := by rfl) : PI X tg l (iTup K tl) := h ▸ pi_tup hl
theorem pgTup (n : Nat) {es : List Expr} {k : Nat} {t : TGs} {pos : Pos} (hc : X.calm = true) (hh : PGs X es t)
    (hn : (assignEach es X.env).length = n := by rfl) (hst : (assignEach es X.env).findIdx? (·.1) = none := by rfl) (h : X.K = K := by rfl) : PG X (.Tuple es k pos) (gTup K n t) := h ▸ pg_tup hc hh hn hst
end
theorem stT {σ σ' : L2.St} {ta tb : TS} {D : Ends} {H : Hp} (e : σ = σ') (h : tSeq ta tb D σ' H) : tSeq ta tb D σ H := e ▸ h
end WL
namespace WM
/-! ### fractions: core Rat -/
theorem gcd_pos {t b : Int} (hb : b ≠ 0) : 0 < b.gcd t := Int.gcd_pos_of_ne_zero_left _ hb
theorem fdiv_pos' {a : Int} {g : Nat} (hg : 0 < g) : a.fdiv (g : Int) = a / (g : Int) := Int.fdiv_eq_ediv_of_nonneg _ (by omega)
theorem fdiv_dvd {a k g : Int} (hg : g ≠ 0) (h : a = g * k) : a.fdiv g = k := by
  subst h
  rw [Int.mul_comm]
  exact Int.mul_fdiv_cancel _ hg
theorem ediv_dvd {a k g : Int} (hg : g ≠ 0) (h : a = g * k) : a / g = k := by
  subst h
  exact Int.mul_ediv_cancel_left _ hg
/-- what Number keeps above the stroke -/
theorem make_num {t b : Int} {g : Nat} (hb : b ≠ 0) (e : g = Nat.gcd t.natAbs b.natAbs) : t.fdiv (if b < 0 then -(g : Int) else (g : Int)) = (Rat.divInt t b).num := by
  have eg : b.gcd t = g := by rw [e, Int.gcd, Nat.gcd_comm]
  have hg : 0 < g := eg ▸ gcd_pos hb
  rw [Rat.num_divInt, eg]
  have hd : (g : Int) ∣ t := by rw [← eg]; exact Int.gcd_dvd_right ..
  obtain ⟨k, hk⟩ := hd
  have hg' : (g : Int) ≠ 0 := by omega
  by_cases hn : b < 0
  · rw [if_pos hn, Int.sign_eq_neg_one_of_neg hn, fdiv_dvd (k := -k) (by omega) (by rw [hk, Int.neg_mul_neg]), ediv_dvd (k := -k) hg' (by rw [hk, Int.neg_one_mul, Int.mul_neg])]
  · rw [if_neg hn, Int.sign_eq_one_of_pos (by omega), fdiv_dvd hg' hk, ediv_dvd (k := k) hg' (by rw [hk, Int.one_mul])]
theorem make_den {t b : Int} {g : Nat} (hb : b ≠ 0) (e : g = Nat.gcd t.natAbs b.natAbs) : b.fdiv (if b < 0 then -(g : Int) else (g : Int)) = ((Rat.divInt t b).den : Int) := by
  have eg : b.gcd t = g := by rw [e, Int.gcd, Nat.gcd_comm]
  have hg : 0 < g := eg ▸ gcd_pos hb
  rw [Rat.den_divInt, if_neg hb, eg]
  have hd : (g : Int) ∣ b := by rw [← eg]; exact Int.gcd_dvd_left ..
  obtain ⟨k, hk⟩ := hd
  have hg' : (g : Int) ≠ 0 := by omega
  have h2 : b.natAbs / g = k.natAbs := by
    rw [hk, Int.natAbs_mul, Int.natAbs_natCast]
    exact Nat.mul_div_cancel_left _ hg
  have hp : 0 < (g : Int) := by omega
  rw [h2]
  by_cases hn : b < 0
  · rw [if_pos hn, fdiv_dvd (k := -k) (by omega) (by rw [hk, Int.neg_mul_neg])]
    have : k < 0 := by
      rcases Int.lt_or_le k 0 with h | h
      · exact h
      · have := Int.mul_nonneg (Int.le_of_lt hp) h
        omega
    omega
  · rw [if_neg hn, fdiv_dvd hg' hk]
    have : 0 ≤ k := by
      rcases Int.lt_or_le k 0 with h | h
      · have := Int.mul_neg_of_pos_of_neg hp h
        omega
      · exact h
    omega
/-- what a law's own reduction gives: sign * t // g, |b| // g -/
theorem least_num {t b : Int} {g : Nat} (hb : b ≠ 0) (e : g = Nat.gcd t.natAbs b.natAbs) : ((if b < 0 then -1 else 1) * t).fdiv (g : Int) = (Rat.divInt t b).num := by
  have eg : b.gcd t = g := by rw [e, Int.gcd, Nat.gcd_comm]
  have hg : 0 < g := eg ▸ gcd_pos hb
  rw [Rat.num_divInt, eg, fdiv_pos' hg]
  by_cases hn : b < 0
  · rw [if_pos hn, Int.sign_eq_neg_one_of_neg hn]
  · rw [if_neg hn, Int.sign_eq_one_of_pos (by omega)]
theorem least_den {t b : Int} {g : Nat} (hb : b ≠ 0) (e : g = Nat.gcd t.natAbs b.natAbs) : (if b < 0 then -b else b).fdiv (g : Int) = ((Rat.divInt t b).den : Int) := by
  have eg : b.gcd t = g := by rw [e, Int.gcd, Nat.gcd_comm]
  have hg : 0 < g := eg ▸ gcd_pos hb
  rw [Rat.den_divInt, if_neg hb, eg, fdiv_pos' hg]
  have : (if b < 0 then -b else b) = (b.natAbs : Int) := by split <;> omega
  rw [this]
  rfl
theorem gcd_ne {t b : Int} {g : Nat} (hb : b ≠ 0) (e : g = Nat.gcd t.natAbs b.natAbs) : 0 < g := by
  have eg : b.gcd t = g := by rw [e, Int.gcd, Nat.gcd_comm]
  exact eg ▸ gcd_pos hb
theorem gcd_le {t b : Int} {g : Nat} (hb : b ≠ 0) (e : g = Nat.gcd t.natAbs b.natAbs) : g ≤ b.natAbs := by
  rw [e]
  exact Nat.gcd_le_right _ (by omega)
/-! ### sizes -/
def Bd (n : Nat) (q : Rat) : Prop := q.num.natAbs < 2 ^ n ∧ q.den < 2 ^ n
theorem two_le {m n : Nat} (h : m ≤ n) : 2 ^ m ≤ 2 ^ n := Nat.pow_le_pow_right (by decide) h
theorem Bd.mono {m n : Nat} {q : Rat} (h : Bd m q) (l : m ≤ n) : Bd n q := ⟨Nat.lt_of_lt_of_le h.1 (two_le l), Nat.lt_of_lt_of_le h.2 (two_le l)⟩
theorem den_ne (q : Rat) : (q.den : Int) ≠ 0 := by have := q.den_pos; omega
theorem den_pos' (q : Rat) : 0 < (q.den : Int) := by have := q.den_pos; omega
theorem Bd.mk' {n : Nat} {t b : Int} (hb : b ≠ 0) (h1 : t.natAbs < 2 ^ n) (h2 : b.natAbs < 2 ^ n) : Bd n (Rat.divInt t b) := by
  refine ⟨?_, ?_⟩
  · rw [Rat.num_divInt]
    refine Nat.lt_of_le_of_lt ?_ h1
    have hg : 0 < b.gcd t := gcd_pos hb
    have hd : ((b.gcd t : Nat) : Int) ∣ b.sign * t := Int.dvd_mul_of_dvd_right (Int.gcd_dvd_right ..)
    obtain ⟨k, hk⟩ := hd
    rw [ediv_dvd (k := k) (by omega) hk]
    have h3 : (b.sign * t).natAbs = t.natAbs := by
      rw [Int.natAbs_mul, Int.natAbs_sign_of_ne_zero hb, Nat.one_mul]
    have h4 : (b.sign * t).natAbs = b.gcd t * k.natAbs := by rw [hk, Int.natAbs_mul, Int.natAbs_natCast]
    rw [← h3, h4]
    exact Nat.le_mul_of_pos_left _ hg
  · rw [Rat.den_divInt, if_neg hb]
    exact Nat.lt_of_le_of_lt (Nat.div_le_self _ _) h2
theorem add_eq (p q : Rat) : Rat.divInt (p.num * q.den + q.num * p.den) (p.den * q.den) = p + q := by
  conv => rhs; rw [← Rat.num_divInt_den p, ← Rat.num_divInt_den q]
  rw [Rat.divInt_add_divInt _ _ (den_ne p) (den_ne q)]
theorem sub_eq (p q : Rat) : Rat.divInt (p.num * q.den - q.num * p.den) (p.den * q.den) = p - q := by
  conv => rhs; rw [← Rat.num_divInt_den p, ← Rat.num_divInt_den q]
  rw [Rat.divInt_sub_divInt _ _ (den_ne p) (den_ne q)]
theorem mul_eq (p q : Rat) : Rat.divInt (p.num * q.num) (p.den * q.den) = p * q := by
  conv => rhs; rw [← Rat.num_divInt_den p, ← Rat.num_divInt_den q]
  rw [Rat.divInt_mul_divInt]
theorem div_eq (p q : Rat) : Rat.divInt (p.num * q.den) (p.den * q.num) = p / q := by
  rw [Rat.div_def, Rat.inv_def]
  conv => rhs; rw [← Rat.num_divInt_den p]
  rw [Rat.divInt_mul_divInt]
theorem neg_eq (p : Rat) : Rat.divInt (-p.num) p.den = -p := by
  conv => rhs; rw [← Rat.num_divInt_den p]
  rw [Rat.neg_divInt]
theorem mul_lt {a b m n : Nat} (ha : a < 2 ^ m) (hb : b < 2 ^ n) : a * b < 2 ^ (m + n) := by
  rw [Nat.pow_add]
  exact Nat.mul_lt_mul'' ha hb
theorem imul_lt {a b : Int} {m n : Nat} (ha : a.natAbs < 2 ^ m) (hb : b.natAbs < 2 ^ n) : (a * b).natAbs < 2 ^ (m + n) := by
  rw [Int.natAbs_mul]
  exact mul_lt ha hb
theorem iadd_lt {a b : Int} {n : Nat} (ha : a.natAbs < 2 ^ n) (hb : b.natAbs < 2 ^ n) : (a + b).natAbs < 2 ^ (n + 1) := by
  have : (a + b).natAbs ≤ a.natAbs + b.natAbs := Int.natAbs_add_le a b
  rw [Nat.pow_succ]
  omega
theorem isub_lt {a b : Int} {n : Nat} (ha : a.natAbs < 2 ^ n) (hb : b.natAbs < 2 ^ n) : (a - b).natAbs < 2 ^ (n + 1) := by
  have : (a - b).natAbs ≤ a.natAbs + b.natAbs := by omega
  rw [Nat.pow_succ]
  omega
theorem up_lt {a m n : Nat} (h : a < 2 ^ m) (l : m ≤ n) : a < 2 ^ n := Nat.lt_of_lt_of_le h (two_le l)
theorem Bd.den' {n : Nat} {q : Rat} (h : Bd n q) : ((q.den : Int)).natAbs < 2 ^ n := by rw [Int.natAbs_natCast]; exact h.2
theorem Bd.add {m n : Nat} {p q : Rat} (h : Bd m p) (k : Bd n q) : Bd (m + n + 1) (p + q) := by
  rw [← add_eq]
  refine Bd.mk' (Int.mul_ne_zero (den_ne p) (den_ne q)) (iadd_lt (imul_lt h.1 k.den') (up_lt (imul_lt k.1 h.den') (by omega))) (up_lt (imul_lt h.den' k.den') (by omega))
theorem Bd.sub {m n : Nat} {p q : Rat} (h : Bd m p) (k : Bd n q) : Bd (m + n + 1) (p - q) := by
  rw [← sub_eq]
  refine Bd.mk' (Int.mul_ne_zero (den_ne p) (den_ne q)) (isub_lt (imul_lt h.1 k.den') (up_lt (imul_lt k.1 h.den') (by omega))) (up_lt (imul_lt h.den' k.den') (by omega))
theorem Bd.mul {m n : Nat} {p q : Rat} (h : Bd m p) (k : Bd n q) : Bd (m + n) (p * q) := by
  rw [← mul_eq]
  exact Bd.mk' (Int.mul_ne_zero (den_ne p) (den_ne q)) (imul_lt h.1 k.1) (imul_lt h.den' k.den')
theorem num_ne {q : Rat} (h : q ≠ 0) : q.num ≠ 0 := fun e => h (Rat.num_eq_zero.mp e)
theorem Bd.div {m n : Nat} {p q : Rat} (h : Bd m p) (k : Bd n q) (hq : q ≠ 0) : Bd (m + n) (p / q) := by
  rw [← div_eq]
  exact Bd.mk' (Int.mul_ne_zero (den_ne p) (num_ne hq)) (imul_lt h.1 k.den') (imul_lt h.den' k.1)
theorem Bd.neg {m : Nat} {p : Rat} (h : Bd m p) : Bd m (-p) := by
  refine ⟨?_, ?_⟩
  · rw [show (-p).num = -p.num from rfl, Int.natAbs_neg]; exact h.1
  · rw [show (-p).den = p.den from rfl]; exact h.2
theorem log2_lt {a n : Nat} (h0 : 0 < n) (h : a < 2 ^ n) : a.log2 < n := by
  by_cases ha : a = 0
  · subst ha; rw [Nat.log2_zero]; exact h0
  · exact (Nat.log2_lt ha).mpr h
/-- equal fractions: the same above and below -/
theorem eq_iff (p q : Rat) : p = q ↔ p.num = q.num ∧ p.den = q.den := ⟨fun e => by rw [e]; exact ⟨rfl, rfl⟩, fun ⟨a, b⟩ => Rat.ext a b⟩
end WM
namespace WO
open PySem PySem.Spec PyProof.Rows L2
open Sem (wp)
/-! ### a type's call, for one program -/
section
variable {prog : Program} {w : World} {A : Around} {E : Value → Shared → Prop} {s : Shared}
theorem typeCall_in {T newId initId : String} {Bn Bi : Builtin} {args : List Value} {S : PySem.Spec} {Q Q₁ : Value → Shared → Prop} (ft : TypeCalled T newId initId)
    (hct : checkTypeCall T ⟨args, []⟩ = pure ()) (hcn : checkBuiltinCall newId ⟨.type T :: args, []⟩ = pure ())
    (entryN : entryFor table newId = some Bn) (entryI : entryFor table initId = some Bi) (g : MeetsIn prog w (Bn ⟨.type T :: args, []⟩) S)
    (h : S A.in1 (wants Q₁ E) s)
    (hnext : ∀ obj s₁, Q₁ obj s₁ → s₁.TypeIs obj T ∧ argsOk initId ⟨obj :: args, []⟩ ∧ ∃ Si, Meets (Bi ⟨obj :: args, []⟩) Si ∧ Si A.in1 (wants (fun r s₂ => r = .none ∧ Q obj s₂) E) s₁) :
    wpAny (model prog w) A (call (.type T) args) Q E s := by
  obtain ⟨c, tl, hmro⟩ := ft.mro
  have hmade := ft.made
  have hsub := ft.sub
  refine wpAny_call (codeAny_of_tree ?_)
  show wpAny _ _ (callAny (.type T) _) _ _ _
  refine wpAny_pure ⟨Code.quiet_builtin _ (by decide +kernel), codeAny_builtin F.entry_type_call ?_⟩
  rw [Around.under_plain (weight_type_call_type T args []) (units_type_call_type T args [])]
  have h1 := ft.notType
  have h2 := ft.canCreate
  repeat (any_goals (first | assumption | wp_step))
  refine codeAny_mono (codeAny_call_builtin ft.plain entryN (wpAny_of_eq hcn (g A.in1 _ s h))) fun r s₁ hr => ?_
  cases r with
  | error e => exact hr
  | ok fl =>
    cases fl with
    | ret obj =>
      obtain ⟨hT, hok, Si, gi, hsi⟩ := hnext _ _ hr
      have hli := ft.init.lookup
      have hbi := ft.init.bind obj
      repeat (any_goals (first | assumption | wp_step))
      refine codeAny_mono (codeAny_call_builtin ft.init.plain entryI (ft.init.check _ _ _ _ _ _ _ _ hT hok (gi prog w A.in1 _ s₁ hsi))) fun r₂ s₂ hr₂ => ?_
      cases r₂ with
      | error e => exact hr₂
      | ok fl₂ =>
        cases fl₂ with
        | ret r =>
          obtain ⟨rfl, hq⟩ := hr₂
          repeat (any_goals (first | assumption | wp_step))
        | _ => exact hr₂.elim
    | _ => exact hr.elim
theorem bool_in {x : Value} {Q : Value → Shared → Prop} (h : wpAny (model prog w) A.in1.in1 (truthy x) (fun b s' => Q (.bool b) s') E s) : wpAny (model prog w) A (call (.type "bool") [x]) Q E s := by
  refine typeCall_in (S := fun A R s => wpAny (model prog w) A.in1 (truthy x) (fun b s' => R (.ok (.ret (.bool b))) s') (fun e s' => R (.error e) s') s) F.called_bool (F.typeCall_bool_1 x) (F.newCall_bool_1 x) F.entry_bool_new F.entry_object_init
    (MeetsIn.of_wp fun A R s hs => ?_) (Q₁ := fun obj s₁ => s₁.TypeIs obj "bool" ∧ Q obj s₁) (wpAny_mono h (fun b s' q => ⟨rfl, q⟩) fun _ _ z => z) fun obj _ hq =>
    ⟨hq.1, F.args_object_init_2 obj x, _, object_init_meets F.called_bool.init.lookup F.called_bool.made F.newNe_bool, hq.1, rfl, hq.2⟩
  have f1 := F.conv_sub_bool
  obtain ⟨hp, g, d, tk, os⟩ := s
  repeat (any_goals (first | assumption | (with_reducible refine wpAny_bind (wpAny_mono hs (fun b s' q => ?_) fun _ _ z => z)) | wp_step))
  all_goals first | exact ⟨_, rfl, q⟩ | skip
end

def sB (b : Bool) : Str := if b = true then "True" else "False"
/-! ### abs(x), bool(x) by an own class's methods; repr of a bool; len of a set of tuples -/
section
variable {X : Cx} {CX : CXT} {n : Nat} {C g : Addr} {fd : FuncData} {ps : List Str} {sp : Sp} {E : XK}
def rOwnCall1 (C : Addr) (sp : Sp) (E : XK) : List V → Hp → VK → Prop := fun xs H Q => ∃ a dx fs, xs = [.ref a] ∧ H a = some (.ins C dx fs) ∧ sp [.ref a] H Q E
theorem call_ownAbs (F : FnOk X.prog X.w X.K X.mg X.base CX n g fd ps sp) (hb : Binds X.K fd ps []) (hs : PySem.W.findIn X.K (.ref C) "__abs__" = some (some (.ref g)))
    (hf : PySem.W.isFn X.K (.ref g) = true) (hr : Room (n + 1) X.A) (hx : Passes CX X E) : CallR X (.builtin "abs") (rOwnCall1 C sp E) := by
  intro pins s σ H xs us Q I r h
  obtain ⟨a, dx, fs, rfl, ha, q⟩ := h
  obtain rfl := Vals.ref1 r
  obtain ⟨mA, J, _⟩ := ins_get I.hok ha
  obtain ⟨od, J, _⟩ := J.look
  obtain ⟨m, hF⟩ := I.fr
  refine Calls.call_function_entry kind_abs plain_abs entry_abs (args_abs _) ?_
  unfold Builtin.«abs»
  refine wpAny_bind (m := oneArg "abs" _) (wpAny_pure ?_)
  have hl := F.len _ _ _ _ q
  refine wpAny_bind (m := callSpecial? (.ref a) (Str.ofString "__abs__")) (PySem.W.special_fn I.kIn J hs (beq_iff_eq.mp hf) ?_)
  refine wpAny_call (codeAny_mono (F.run X.A.in1 X.stack s H ⟨[.ref a], []⟩ [.ref a] [.ref a] _ E hr.in1 I.env0.in1 (by
    have := hb s [.ref a] I.kIn (by simpa using hl)
    simpa using this) (.cons rfl .nil) q) fun r s' hq => ?_)
  cases r with
  | error e => exact hx pins σ H s e s' I hq
  | ok fl =>
    cases fl with
    | ret u => exact wpAny_pure ⟨_, rfl, I.after hq⟩
    | next => exact False.elim hq
    | brk => exact False.elim hq
    | cont => exact False.elim hq
/-- bool(x) -/
def rOwnBool (C : Addr) (sp : Sp) (E : XK) : List V → Hp → VK → Prop := fun xs H Q => ∃ a dx fs, xs = [.ref a] ∧ H a = some (.ins C dx fs) ∧ sp [.ref a] H (fun z H' => ∃ r, z = .bl r ∧ Q (.bl r) H') E
theorem call_ownBool (F : FnOk X.prog X.w X.K X.mg X.base CX n g fd ps sp) (hb : Binds X.K fd ps []) (hs : PySem.W.findIn X.K (.ref C) "__bool__" = some (some (.ref g)))
    (hf : PySem.W.isFn X.K (.ref g) = true) (hr : Room (n + 2) X.A) (hx : Passes CX X E) : CallR X (.type "bool") (rOwnBool C sp E) := by
  intro pins s σ H xs us Q I r h
  obtain ⟨a, dx, fs, rfl, ha, q⟩ := h
  obtain rfl := Vals.ref1 r
  obtain ⟨mA, J, _⟩ := ins_get I.hok ha
  obtain ⟨od, J, _⟩ := J.look
  obtain ⟨m, hF⟩ := I.fr
  refine bool_in (PySem.W.truthy_K hF I.ok.mod.kin J hs hf ?_)
  have hl := F.len _ _ _ _ q
  have hr2 : Room n X.A.in1.in1 := Room.in1 (Room.in1 hr)
  refine wpAny_call (codeAny_mono (F.run X.A.in1.in1 X.stack s H ⟨[.ref a], []⟩ [.ref a] [.ref a] _ E hr2 I.env0.in1.in1 (by
    have := hb s [.ref a] I.kIn (by simpa using hl)
    simpa using this) (.cons rfl .nil) q) fun r s' hq => ?_)
  cases r with
  | error e => exact hx pins σ H s e s' I hq
  | ok fl =>
    cases fl with
    | ret u =>
      obtain ⟨z, H', I', rz, r, ez, q'⟩ := I.after hq
      subst ez
      cases (show u = Value.bool r from rz)
      exact ⟨.bl r, H', I', rfl, q'⟩
    | next => exact False.elim hq
    | brk => exact False.elim hq
    | cont => exact False.elim hq
/-- repr(a bool) -/
theorem call_repr_bl : CallR X (.builtin "repr") (fun xs H Q => ∃ b, xs = [.bl b] ∧ Q (.str (sB b)) H) := by
  intro pins s σ H xs us Q I r h
  obtain ⟨b, rfl, q⟩ := h
  obtain ⟨u, rfl, ru⟩ := vals1 r
  cases (show u = Value.bool b from ru)
  exact PySem.P.repr_of_bool ⟨.str _, H, I.tok _, ⟨_, by cases b <;> rfl⟩, q⟩
/-- len(a set of tuples of ints) -/
def rLenT (K : PySem.W.Frag) (P : Program) (w : World) : List V → Hp → VK → Prop := fun vs H Q => ∃ (a : Addr) (L : List (Addr × List Int)), vs = [V.ref a] ∧ H a = some (SetTO P w a L) ∧ (∀ p ∈ L, SqT K H p.1 (p.2.map V.int)) ∧ ((L.map (·.2)).Nodup → Q (.int L.length) H)
theorem cr_lenT : CallR X (.builtin "len") (rLenT X.K X.prog X.w) := by
  intro pins s σ H vs us Q I r h
  obtain ⟨a, L, rfl, ha, hk, q⟩ := h
  have R0 : SetT0 X.prog X.w s.heap a L := (I.hok a _ ha).1
  obtain ⟨es, ep, t, R⟩ := R0.full fun p hp => I.isT (hk p hp)
  rw [Vals.ref1 r]
  obtain ⟨o, ho, hex, hd⟩ := R.ob
  have hn := R.size
  have hf := R.few
  refine call_len_set ho hex hd R.fits (by omega) ⟨.int L.length, H, I.tok _, ⟨_, by rw [hn]⟩, q R.nd⟩
end
end WO
namespace WG
open PySem PySem.Spec PyProof.Rows L2

/-! ### a def's promise where no repr is under way around it -/
abbrev NoG (A : Around) : Prop := A.guards = some []
structure FnG (P : Program) (w : World) (K : PySem.W.Frag) (mg : Str → Option Value) (base : Heap) (CX : CXT) (k : Nat) (f : Addr) (fd : FuncData) (ps : List Str) (sp : Sp) : Prop where
  ln : ∀ xs Hp0 Qv Ex, sp xs Hp0 Qv Ex → xs.length = ps.length
  go : ∀ (A : Around) (out : List Env) (s : Shared) (H : Hp) (args : Args) (us : List Value) (xs : List V) (Qv : VK) (Ex : XK), NoG A → Room k A → Env0 P w K mg base A out s H → BindsTo s fd args (ps.zip us) →
    Vals xs us → sp xs H Qv Ex → codeAny (model P w) A (.call (.ref f) args) (CR CX out P w H s Qv Ex) s
section
variable {P : Program} {w : World} {K : PySem.W.Frag} {mg : Str → Option Value} {base : Heap} {CX : CXT} {k : Nat} {f : Addr} {fd : FuncData} {ps : List Str} {sp : Sp}
theorem FnG.mono {j : Nat} (F : FnG P w K mg base CX j f fd ps sp) (h : j ≤ k) : FnG P w K mg base CX k f fd ps sp :=
  ⟨F.ln, fun A out s H args us xs Qv Ex g r => F.go A out s H args us xs Qv Ex g (r.mono h)⟩
end
/-- a def by its body -/
theorem fnG_of {CX : CXT} {P : Program} {w : World} {K : PySem.W.Frag} {mg : Str → Option Value} {base : Heap} {k : Nat} {f : Addr} {nm qual : Str} {pr : Arguments} {bd : List Stmt} {sc : Scope} {dV kV doc pm cdv ct oc : Value} {an od : Option Addr}
    {osl : Array (Option Value)} {N ps : List Str} {sp : Sp} (lk : K.lookup f = some ⟨oc, od, .func (PySem.W.fnOf nm qual pr bd sc dV kV doc pm an cdv ct), osl⟩) (hc : PySem.W.codeIn K cdv qual = true) (S : FnScope N ps sc)
    (ln : ∀ xs Hp0 Qv Ex, sp xs Hp0 Qv Ex → xs.length = ps.length)
    (hb : ∀ (A : Around) (out : List Env) (s : Shared) (H : Hp) (xs : List V) (Qv : VK) (Ex : XK), NoG A → Room k (A.deeper (envOfC qual sc s.heap.objs.size f cdv)) → sp xs H Qv Ex →
      ∃ t, PSs (cxOf CX P w K mg base N qual sc f cdv A out s H Ex) bd t ∧ t { nx := fun _ H1 => Qv .non H1, rt := Qv } (start N xs) H) :
    FnG P w K mg base CX (k + 1) f (PySem.W.fnOf nm qual pr bd sc dV kV doc pm an cdv ct) ps sp := by
  refine ⟨ln, fun A out s H args us xs Qv Ex g r e0 bnd rel hq => ?_⟩
  have hin : ∀ b o, base.get? b = some o → s.heap.get? b = some o := fun b o e => (e0.bs b o e).1
  have KX : K.In s.heap := e0.mod.kin.keeps hin
  have slots : ∀ y ∈ ps.zip us, sc.names.lookup y.1 = some .local ∨ (sc.names.lookup y.1 = some .cell ∧ ((cellsFrom (s.heap.objs.size + 1) sc.names []).lookup y.1).isSome = true) := by
    rintro ⟨n, v⟩ hy
    exact (S.par n (List.of_mem_zip hy).1).imp id fun q => ⟨q, PySem.W.cellsFrom_some _ _ _ (.inl q)⟩
  refine codeAny_call_function r.depth (KX _ _ lk) rfl S.co S.gen rfl (PySem.W.codeRec_of KX hc) (bnd _ _ _ _ (wpAny_newFunctionEnv_cells S.kind slots fun env he s1 x => ?_))
  subst he
  refine ⟨(e0.mod.nolimit.keeps hin).keeps x.toInCall.keep, codeAny_func ?_⟩
  obtain ⟨t, ht, q⟩ := hb A out s H xs Qv Ex g (r.deeper _) hq
  have I0 := inv_start (CX := CX) (P := P) (w := w) (E := Ex) S r.hd e0 (ln _ _ _ _ hq) rel x
  refine wpAny_mono (ht.run [] s1 (start N xs) H _ I0 q) (fun fl s2 z => ?_) fun _ _ z => z
  cases fl with
  | brk => exact (z.choose_spec.choose_spec.2 : False).elim
  | cont => exact (z.choose_spec.choose_spec.2 : False).elim
  | next =>
    obtain ⟨σ2, H2, J, q2⟩ := z
    exact ⟨V.non, H2, J.os, J.bare, J.base, J.hok, rfl, q2⟩
  | ret u =>
    obtain ⟨y, σ2, H2, J, ry, q2⟩ := z
    exact ⟨y, H2, J.os, J.bare, J.base, J.hok, ry, q2⟩
section
variable {P : Program} {w : World} {K : PySem.W.Frag} {mg : Str → Option Value} {base : Heap}
theorem okG {x qual : Str} {st : Stmt} {f : Addr} {fd : FuncData} {N ps : List Str} {k : Nat} {sp : Sp} (F : Fun K x qual st f fd) (S : FnScope N ps (defScope st)) (ln : ∀ xs Hp0 Qv Ex, sp xs Hp0 Qv Ex → xs.length = ps.length)
    (hb : ∀ (cdv : Value) (A : Around) (out : List Env) (s : Shared) (H : Hp) (xs : List V) (Qv : VK) (Ex : XK), NoG A → Room k (A.deeper (envOfC qual (defScope st) s.heap.objs.size f cdv)) → sp xs H Qv Ex →
      ∃ t, PSs (cxOf CX0 P w K mg base N qual (defScope st) f cdv A out s H Ex).nox (defBody st) t ∧ t { nx := fun _ H1 => Qv .non H1, rt := Qv } (start N xs) H) : FnG P w K mg base CX0 (k + 1) f fd ps sp := by
  obtain ⟨oc, od, kV, doc, pm, an, cdv, ct, osl, rfl, lk, hc⟩ := F.ex
  refine fnG_of lk hc S ln fun A out s H xs Qv Ex g r hq => ?_
  obtain ⟨t, h, q⟩ := hb cdv A out s H xs Qv Ex g r hq
  exact ⟨t, h.nox, q⟩
end
section
variable {X : Cx} {CX : CXT} {k : Nat} {f : Addr} {fd : FuncData} {ps : List Str} {sp : Sp} {E : XK} {x : Str} {p pos : Pos} {e : Expr} {es : List Expr} {t : TA}
/-- f(..) there -/
theorem pe_callG (F : FnG X.prog X.w X.K X.mg X.base CX k f fd ps sp) (g : NoG X.A) (hr : Room k X.A) (hg : Gl X x) (hm : X.mg x = some (.ref f)) (hk : PySem.W.keepIn X.K (.ref f) = true) (hb : Binds X.K fd ps []) (hx : Passes CX X E)
    (ha : PA X (e :: es) t) (hdb : (x == ("__debug__" : Str)) = false := by decide) (he : starEach (e :: es) X.env = (false, eval e X.env) :: starEach es X.env := by rfl) (hpl : (backTo pos (starEach es X.env)).any (·.1) = false := by rfl) :
    PE X (.Call (.Name x p) (e :: es) [] pos) (tCall sp [] E t) := by
  refine ⟨fun pins s σ H Q I h => wpAny_Call_Name_kw (ld_glob I hg hm (PySem.W.callWith_K (h₀ := X.base) I.ok.mod.kin hk (thn (ha.run pos pins s σ H _ I h) fun us s1 z => ?_) he hpl) hdb)⟩
  obtain ⟨vs, H1, I1, rel, q⟩ := z
  rw [List.append_nil] at q
  refine ⟨I1.kIn, wpAny_call (codeAny_mono (F.go X.A X.stack s1 H1 ⟨us, []⟩ us vs Q E g hr I1.env0 ?_ rel q) fun r s2 z => ?_)⟩
  · have := hb s1 us I1.kIn (by rw [List.append_nil, ← rel.length]; exact F.ln _ _ _ _ q)
    rwa [List.append_nil] at this
  · rcases r with e | fl
    · exact hx pins σ H1 s1 e s2 I1 z
    · cases fl with
      | ret u => exact I1.after z
      | next => exact z.elim
      | brk => exact z.elim
      | cont => exact z.elim
end
/-! ### repr of plain data that is no dict -/
structure Shows (d : PyData) (L k : Nat) : Prop where
  sh : d.showable = true
  nd : d.hasDict = false
  dp : d.depth ≤ k
  ln : d.shown.length ≤ L
theorem Shows.mono {d : PyData} {L k M l : Nat} (h : Shows d L k) (h1 : L ≤ M) (h2 : k ≤ l) : Shows d M l := ⟨h.sh, h.nd, Nat.le_trans h.dp h2, Nat.le_trans h.ln h1⟩
theorem Shows.non {k : Nat} : Shows .none 4 k := ⟨rfl, rfl, Nat.zero_le _, by decide⟩
theorem Shows.bool {b : Bool} {k : Nat} : Shows (.bool b) 5 k := ⟨rfl, rfl, Nat.zero_le _, by cases b <;> decide⟩
theorem Shows.int {i : Int} {k : Nat} (h : i.natAbs < 2 ^ 1900) : Shows (.int i) 1921 k := by
  have hl : i.natAbs.log2 < 1920 := by
    by_cases h0 : i.natAbs = 0
    · rw [h0, Nat.log2_zero]
      decide
    · exact Nat.lt_of_lt_of_le ((Nat.log2_lt h0).mpr h) (by decide)
  refine ⟨?_, rfl, Nat.zero_le _, ?_⟩
  · simp only [PyData.showable, decide_eq_true hl]
  · show (Str.ofString (toString i)).length ≤ 1921
    rw [PySem.ofString_length]
    exact int_text_length_le (k := 1920) (by decide) hl
theorem shows_all {L k : Nat} : ∀ {ds : List PyData}, (∀ d ∈ ds, Shows d L k) → PyData.showableAll ds = true ∧ PyData.hasDictAll ds = false ∧ PyData.depthAll ds ≤ k ∧ ((PyData.shownAll ds).map (·.length)).sum ≤ L * ds.length ∧ (PyData.shownAll ds).length = ds.length
  | [], _ => ⟨rfl, rfl, Nat.zero_le _, Nat.zero_le _, rfl⟩
  | d :: ds, h => by
    obtain ⟨h1, h2, h3, h4, h5⟩ := shows_all (fun x m => h x (List.mem_cons_of_mem _ m))
    have h0 := h d (List.mem_cons_self ..)
    refine ⟨?_, ?_, ?_, ?_, ?_⟩
    · simp only [PyData.showableAll, h0.sh, h1, Bool.and_self]
    · simp only [PyData.hasDictAll, h0.nd, h2, Bool.or_self]
    · simp only [PyData.depthAll]
      exact Nat.max_le.mpr ⟨h0.dp, h3⟩
    · have := h0.ln
      simp only [PyData.shownAll, List.map_cons, List.sum_cons, List.length_cons]
      rw [Nat.mul_succ]
      omega
    · simp only [PyData.shownAll, List.length_cons, h5]
theorem Shows.list {ds : List PyData} {L k : Nat} (h : ∀ d ∈ ds, Shows d L k) : Shows (.list ds) ((L + 2) * ds.length + 3) (k + 1) := by
  obtain ⟨h1, h2, h3, h4, h5⟩ := shows_all h
  refine ⟨by simpa only [PyData.showable] using h1, by simpa only [PyData.hasDict] using h2, by simpa only [PyData.depth] using Nat.succ_le_succ h3, ?_⟩
  have := listText_len_le (PyData.shownAll ds)
  rw [h5] at this
  simp only [PyData.shown, Nat.add_mul]
  omega
theorem Shows.tup {ds : List PyData} {L k : Nat} (h : ∀ d ∈ ds, Shows d L k) : Shows (.tuple ds) ((L + 2) * ds.length + 3) (k + 1) := by
  obtain ⟨h1, h2, h3, h4, h5⟩ := shows_all h
  refine ⟨by simpa only [PyData.showable] using h1, by simpa only [PyData.hasDict] using h2, by simpa only [PyData.depth] using Nat.succ_le_succ h3, ?_⟩
  have := tupleText_len_le (PyData.shownAll ds)
  rw [h5] at this
  simp only [PyData.shown, Nat.add_mul]
  omega
def rReprD (K : PySem.W.Frag) : List V → Hp → VK → Prop := fun xs H Q => ∃ (a : Addr) (d : PyData) (L k : Nat), xs = [.ref a] ∧ Dp K H (.ref a) d ∧ Shows d L k ∧ L ≤ 16000000 ∧ k ≤ 60 ∧ Q (.str d.shown) H
theorem call_reprD {X : Cx} (g : NoG X.A) (hu : X.A.units + 64 < cLine) : CallR X (.builtin "repr") (rReprD X.K) := by
  intro pins s σ H xs us Q I r h
  obtain ⟨a, d, L, k, rfl, hd, S, hL, hk, q⟩ := h
  rw [Vals.ref1 r]
  obtain ⟨as, rd⟩ := Dp.reads I d _ _ hd rfl
  have h60 := S.dp
  exact repr_of_reads' rd S.sh (PyData.noDict_hsm S.nd) g (by omega) (fun _ _ e => e) (fun h' u tk hk => ⟨.str _, H, I.kept hk, ⟨_, rfl⟩, q⟩) (by
    have := S.ln
    rw [sizeLine_eq]
    omega)
/-! ### the head -/
theorem law_callG {P : Program} {w : World} {K : PySem.W.Frag} {mg mb : Str → Option Value} {k : Nat} {fa a : Addr} {fd : FuncData} {x : Str} {sp : Sp} {s₁ : Shared} {vs : List Value} {ns : List Int}
    (KX : K.In s₁.heap) (hns : s₁.heap.Ns mainGlobals mg) (hb : s₁.heap.Ns builtinsNs mb) (hbb : ∀ x : Str, x ≠ "__name__" → mb x = bootBuiltins x) (hlim : s₁.heap.NoLimit) (hg : s₁.gens = #[])
    (ha : s₁.heap.get? a = some { cls := .type "list", data := .seq vs.toArray }) (hi : IntsAre vs ns) (hl : ns.length ≤ sizeLine) (hr : Room k callerA)
    (F : ∀ base : Heap, K.In base → base.Ns mainGlobals mg → FnG P w K mg base CX0 k fa fd [x] sp) (hbind : ∀ (s : Shared) (u : Value), BindsTo s fd ⟨[u], []⟩ [(x, u)])
    (hsp : ∀ H : Hp, Only H → SqL K H a (ns.map V.int) → sp [.ref a] H (fun v _ => v = .bl true) fun _ _ _ => False) :
    codeAny (model P w) callerA (.call (.ref fa) ⟨[.ref a], []⟩) (fun r s' => r = .ok (.ret (.bool true)) ∧ OldK s₁.heap s'.heap ∧ s'.os = s₁.os ∧ AllBare s'.gens) s₁ := by
  have rv := vals_ints hi
  have from_ : ∀ H : Hp, Only H → SqL K H a (ns.map V.int) → HOk P w H s₁.heap → (∀ b, H b ≠ none → b = a) → (H a ≠ none → K.lookup a = none) →
      codeAny (model P w) callerA (.call (.ref fa) ⟨[.ref a], []⟩) (fun r s' => r = .ok (.ret (.bool true)) ∧ OldK s₁.heap s'.heap ∧ s'.os = s₁.os ∧ AllBare s'.gens) s₁ := by
    intro H only seq ok alone noK
    -- what else lies in the heap, lies in the base
    have keepB : ∀ {b : Addr} {o : Obj}, s₁.heap.get? b = some o → (b = a → H a = none) → (hidT s₁.heap H).get? b = some o := fun {b o} e n => hidT_get e (by
      cases q : H b with
      | none => rfl
      | some u =>
        have ea : b = a := alone b (by rw [q]; simp)
        rw [ea, n ea] at q
        cases q)
    have noDict : ∀ {b : Addr} {o : Obj} {es : Array DictEntry} {ep : Nat}, s₁.heap.get? b = some o → o.data = .dict es ep → b ≠ a := fun {b o es ep} e d ea => by
      rw [ea, ha] at e
      cases e
      cases (show Data.seq vs.toArray _ = Data.dict es ep from d)
    have nsB : ∀ {b : Addr} {m : Str → Option Value}, s₁.heap.Ns b m → (hidT s₁.heap H).Ns b m := fun ⟨o, es, ep, e, d, r⟩ => ⟨o, es, ep, keepB e fun ea => absurd ea (noDict e d), d, r⟩
    have KB : K.In (hidT s₁.heap H) := fun b o e => keepB (KX b o e) fun ea => by
      cases q : H a with
      | none => rfl
      | some u =>
        have n := noK (by rw [q]; simp)
        rw [ea, n] at e
        cases e
    have md : Mod K mg (hidT s₁.heap H) := by
      obtain ⟨mc, h1, h2⟩ := hlim
      exact ⟨KB, nsB hns, ⟨mb, nsB hb, hbb⟩, mc, nsB h1, h2⟩
    have en : Env0 P w K mg (hidT s₁.heap H) callerA [] s₁ H := ⟨rfl, md, fun b o e => of_hidT e, Nat.le_of_eq (hidT_size _ _), trivial, fun b z => (List.not_mem_nil z).elim, ok, .of_eq hg⟩
    refine codeAny_mono ((F _ KB (nsB hns)).go callerA [] s₁ H ⟨[.ref a], []⟩ [.ref a] [.ref a] _ _ rfl hr en (hbind s₁ (.ref a)) (.cons rfl .nil) (hsp H only seq)) fun r s2 z => ?_
    rcases r with e | fl
    · exact z.elim
    cases fl with
    | next => exact z.elim
    | brk => exact z.elim
    | cont => exact z.elim
    | ret u =>
      obtain ⟨v, H2, os, bare, un, ok2, ru, ev⟩ := z
      rw [show v = V.bl true from ev] at ru
      cases (show u = Value.bool true from ru)
      refine ⟨rfl, OldK.of_keep fun b o e => ?_, os, bare⟩
      rcases only b with z | ⟨ob, xs, z⟩
      · exact un.keep b o e z List.not_mem_nil List.not_mem_nil
      · have e1 := (ok b _ z).1
        rw [e] at e1
        cases e1
        exact (ok2 b _ (un.frzs b _ _ z)).1
  cases hk : K.lookup a with
  | some o =>
    have e := KX a o hk
    rw [ha] at e
    cases e
    exact from_ (fun _ => none) (fun _ => .inl rfl) (.inr ⟨_, vs.toArray, _, hk, rfl, rfl, rfl, by rw [List.size_toArray, hi.length]; exact hl, by simpa using rv⟩) (fun b u z => by cases (show (none : Option HO) = some u from z)) (fun b z => absurd rfl z) fun z => absurd rfl z
  | none =>
    have one : ∀ b u, (fun b => if b = a then some (HO.frz { cls := .type "list", data := .seq vs.toArray } (.lst (ns.map V.int))) else none : Hp) b = some u → b = a ∧ u = .frz { cls := .type "list", data := .seq vs.toArray } (.lst (ns.map V.int)) := fun b u z => by
      by_cases eb : b = a
      · exact ⟨eb, (Option.some.inj ((if_pos eb).symm.trans z)).symm⟩
      · cases (if_neg eb).symm.trans z
    refine from_ (fun b => if b = a then some (.frz { cls := .type "list", data := .seq vs.toArray } (.lst (ns.map V.int))) else none) (fun b => ?_) (.inl (.inr ⟨_, if_pos rfl⟩)) (fun b u z => ?_) (fun b z => ?_) fun _ => hk
    · by_cases eb : b = a
      · exact .inr ⟨_, _, if_pos eb⟩
      · exact .inl (if_neg eb)
    · obtain ⟨rfl, rfl⟩ := one b u z
      exact ⟨ha, by rw [List.length_map]; exact hl, vs, _, rv, ha⟩
    · by_cases eb : b = a
      · exact eb
      · exact absurd (if_neg eb) z
theorem walk_G {l : PySem.W.OpenLaw} {n k : Nat} {q : Program} {loose : List Str} {XP : (Str → Option Value) → Heap → Prop} {YP : World → Heap → Prop} {d : DefRec} {K : Params → PySem.W.Frag} {sp : World → Sp} {x : Str}
    (hn : l.most = some n) (hn2 : n ≤ sizeLine) (hdf : d.params.defaults = []) (hr : Room k callerA) (hY : ∀ (w : World) (h : Heap), YP w h → (K w.params).In h)
    (F : ∀ (w : World) (mg : Str → Option Value) (fa : Addr) (h : Heap), (K w.params).In h → h.Ns mainGlobals mg → mg d.name = some (.ref fa) →
      ∃ fd : FuncData, (∀ (s : Shared) (u : Value), BindsTo s fd ⟨[u], []⟩ [(x, u)]) ∧ ∀ base : Heap, (K w.params).In base → base.Ns mainGlobals mg → FnG l.prog w (K w.params) mg base CX0 k fa fd [x] (sp w))
    (hsp : ∀ (w : World) (H : Hp) (a : Addr) (ns : List Int), ns.length ≤ n → Only H → SqL (K w.params) H a (ns.map V.int) → sp w [.ref a] H (fun v _ => v = .bl true) fun _ _ _ => False) :
    PySem.W.WalkO q loose XP YP l.row.toRowW d [] (fun f vs => PySem.call f vs) :=
  Att.attach_call hn hdf fun w s₀ s₁ mg mb fa o pm cd doc a vs ns G Y ho hd hcd hmg hobj hints hlen hg => by
    obtain ⟨fd, hb, hF⟩ := F w mg fa _ (hY w _ Y) G.T.g hmg
    exact law_callG (hY w _ Y) G.T.g G.T.b G.T.builtins G.T.nolimit hg hobj hints (Nat.le_trans hlen hn2) hr hF hb fun H hO hS => hsp w H a ns hlen hO hS
end WG
namespace WS
open PySem PySem.Spec PyProof.Rows L2
/-! ### x in y, y of an own class; xs.count(a bool) -/
section
variable {X : Cx} {CX : CXT} {n : Nat} {C g : Addr} {fd : FuncData} {ps : List Str} {sp : Sp} {E : XK}
def rOwnIn (C : Addr) (sp : Sp) (E : XK) : R2 := fun x y H Q => ∃ a dx fs, y = .ref a ∧ H a = some (.ins C dx fs) ∧ sp [.ref a, x] H (fun z H1 => ∃ r, z = .bl r ∧ Q (.bl r) H1) E
theorem op_ownIn (F : FnOk X.prog X.w X.K X.mg X.base CX n g fd ps sp) (hb : Binds X.K fd ps []) (hs : PySem.W.findIn X.K (.ref C) "__contains__" = some (some (.ref g)))
    (hf : PySem.W.isFn X.K (.ref g) = true) (hr : Room n X.A) (hx : Passes CX X E) : OpR X (compareOp .In) (rOwnIn C sp E) := by
  intro pins s σ H x y v u Q I rx ry h
  obtain ⟨a, dx, fs, rfl, ha, q⟩ := h
  cases (show u = Value.ref a from ry)
  obtain ⟨mA, J, _⟩ := ins_get I.hok ha
  obtain ⟨od, J, _⟩ := J.look
  obtain ⟨m, hF⟩ := I.fr
  refine PySem.W.in_K hF I.ok.mod.kin J hs hf (wpAny_mono (run_fn (us := [.ref a, v]) (vs := [.ref a, x]) (dvs := []) (ds := []) F hr hb .nil hx I (.cons rfl (.cons rx .nil)) q) (fun w s1 z => ?_) fun _ _ e => e)
  obtain ⟨z1, H1, I1, rz, r, e, q1⟩ := z
  subst e
  cases (show w = Value.bool r from rz)
  exact wpAny_truthy_bool ⟨.bl r, H1, I1, rfl, q1⟩
theorem reads_bools {h : Heap} : ∀ {bs : List Bool} {us : List Value}, Vals (bs.map V.bl) us → ReadsAll h us (bs.map PyData.bool) []
  | [], _, .nil => .nil
  | b :: bs, _, .cons r t => by
    cases r
    exact .cons (.bool b) (reads_bools t)
theorem plain_bools : ∀ bs : List Bool, PyData.plainAll (bs.map PyData.bool) = true
  | [] => rfl
  | b :: bs => by simp [PyData.plainAll, PyData.plain, plain_bools bs]
theorem depth_bools : ∀ bs : List Bool, PyData.depthAll (bs.map PyData.bool) = 0
  | [] => rfl
  | b :: bs => by simp [PyData.depthAll, PyData.depth, depth_bools bs]
def rCntB (K : PySem.W.Frag) : V → List V → Hp → VK → Prop := fun x xs H Q => ∃ (p : Addr) (bs : List Bool) (b : Bool), x = .ref p ∧ xs = [.bl b] ∧ SqL K H p (bs.map V.bl) ∧ Q (.int (bs.countP fun c => c == b : Nat)) H
theorem mt_lcountB (hu : X.A.units + 64 < cLine) : MtR X "list.count" (rCntB X.K) := by
  intro pins s σ H x xs v us Q I rx rxs h
  obtain ⟨p, bs, b, rfl, rfl, hs, q⟩ := h
  cases rx
  obtain ⟨u, rfl, ru⟩ := rxs.one
  cases (show u = Value.bool b from ru)
  obtain ⟨its, rv, hl, hlen⟩ := I.list hs
  have ra := reads_bools (h := s.heap) rv
  refine PySem.SeqAt.count_list_data hl.isList (by simpa using ra) (.bool b) (plain_bools bs) rfl (by rw [depth_bools]; simp; omega) ⟨.int _, H, I.tok _, ⟨s.toks, ?_⟩, q⟩
  rw [List.countP_map]
  rfl
end
end WS
namespace WX
open PySem PySem.Spec PyProof.Rows L2

/-! ### class E(..ValueError): def __init__(self, v): super().__init__(); self.fld = v -/
def spExI (C : Addr) (fld : Str) : Sp := fun vs H Q _ => ∃ (a : Addr) (y : V), vs = [.ref a, y] ∧ H a = some (exo a C none) ∧ ∀ dx, H dx = none → dx ≠ a → Q .non (upd (upd H dx (exd dx [(fld, y)])) a (exo a C (some dx)))
abbrev scI (vn : Str) : Scope := { kind := .function, names := [("self", .local), (vn, .local)], isGenerator := false, isCoroutine := false }
theorem fs_scI {vn : Str} (h : ("self" : Str) ≠ vn) : FnScope ["self", vn] ["self", vn] (scI vn) := by
  have e : (("self" : Str) == vn) = false := beq_eq_false_iff_ne.mpr h
  have e2 : (vn == ("self" : Str)) = false := beq_eq_false_iff_ne.mpr (Ne.symm h)
  refine ⟨rfl, rfl, rfl, by simp [h], rfl, fun x hx => ?_, fun y hy => ?_⟩
  · rcases List.mem_cons.mp hx with rfl | hx
    · exact .inl (by simp [List.lookup])
    · rw [List.mem_singleton.mp hx]
      exact .inl (by simp [List.lookup, e2])
  · rcases List.mem_cons.mp hy with rfl | hy
    · exact fun z => nomatch z
    · rw [List.mem_singleton.mp hy]
      exact fun z => nomatch z
theorem binds_fn {vn : Str} (h : ("self" : Str) ≠ vn) {q : Str} {L f : Addr} {cd a u : Value} : (fun x => (List.zip [("self" : Str), vn] [a, u]).reverse.lookup x) = bindL (envOfC q (scI vn) L f cd).kindOf (List.zip [("self" : Str), vn] [a, u]) fun _ => none := by
  have e2 : (vn == ("self" : Str)) = false := beq_eq_false_iff_ne.mpr (Ne.symm h)
  have k1 : (envOfC q (scI vn) L f cd).kindOf "self" = some .local := by
    show List.lookup ("self" : Str) ([("self", .local), (vn, .local)] : List (Str × NameKind)) = some .local
    simp [List.lookup]
  have k2 : (envOfC q (scI vn) L f cd).kindOf vn = some .local := by
    show List.lookup vn ([("self", .local), (vn, .local)] : List (Str × NameKind)) = some .local
    simp [List.lookup, e2]
  funext y
  show List.lookup y ([(vn, u), ("self", a)] : List (Str × Value)) = _
  simp only [List.zip_cons_cons, List.zip_nil_right, bindL, k1, k2, if_true]
  by_cases h1 : y = vn
  · subst h1
    simp [List.lookup]
  · by_cases h2 : y = "self"
    · subst h2
      have e3 : (("self" : Str) == vn) = false := beq_eq_false_iff_ne.mpr h
      simp [List.lookup, e3, h]
    · have e3 : (y == vn) = false := beq_eq_false_iff_ne.mpr h1
      have e4 : (y == ("self" : Str)) = false := beq_eq_false_iff_ne.mpr h2
      simp [List.lookup, e3, e4, h1, h2]
section
variable {P : Program} {w : World} {K : PySem.W.Frag} {mg : Str → Option Value} {base : Heap}
theorem ok_superInit {nm qual vn fld : Str} {pr : Arguments} {sc : Scope} {dV kV doc pm ct oc ccl cl : Value} {an od cdd cld : Option Addr} {osl ccs csl : Array (Option Value)} {cvs : Array Value} {f cc cda C : Addr} {ar : Arg} {file : Str} {tf : Tok} {p0 p1 p2 p3 p4 p5 p6 p7 p8 : Pos}
    (lk : K.lookup f = some ⟨oc, od, .func (PySem.W.ksFn nm qual pr [.Expr (.Call (.Attribute (.Call (.Name "super" p0) [] [] p1) "__init__" p2) [] [] p3) p4, .Assign [.Attribute (.Name "self" p5) fld p6] (.Name vn p7) p8] sc dV kV doc pm an (.ref cda) ct cc), osl⟩)
    (hcd : PySem.W.codeIn K (.ref cda) qual = true) (hcode : K.lookup cda = some ⟨ccl, cdd, .fields cvs, ccs⟩) (hvs : cvs[2]? = some (.str file tf)) (hfile : ((P.main.file : Str) == file) = true)
    (hcell : K.lookup cc = some ⟨cl, cld, .cell (some (.ref C)), csl⟩) (T : OexC K C) (hsub : PySem.W.mroIn K C (.ref C) = some true) (hB : PySem.W.subIn K (.ref C) (.type "ValueError") = some true)
    (hsi : PySem.W.ks_superIn K C C "__init__" = some (some (.builtin "ValueError.__init__"))) (hany : PySem.W.nsIn K PySem.cStatics "thirdparty.any" = some none) (hno : PySem.W.findIn K (.ref C) fld = some none)
    (hsup : mg "super" = none) (htop : (P.main.scope.names.lookup ("super" : Str)).isSome = false) (hne : ("self" : Str) ≠ vn)
    (har : (pr.posonlyargs ++ pr.args).head? = some ar) (hself : ar.arg = "self")
    (k1 : sc.names.lookup ("super" : Str) = some .globalImplicit) (k2 : sc.names.lookup ("__class__" : Str) = some .free) (k3 : sc.names.lookup ("self" : Str) = some .local) (k4 : sc.names.lookup vn = some .local)
    (k5 : ∀ x ∈ sc.names, x.2 ≠ .cell) (k6 : sc.kind = .function) (k7 : sc.isCoroutine = false) (k8 : sc.isGenerator = false) (hdv : (vn == ("__debug__" : Str)) = false) {pl : Sem Bool}
    (he : ∀ env : Env, eval (.Call (.Attribute (.Call (.Name "super" p0) [] [] p1) "__init__" p2) [] [] p3) env = (do
      let ov ← attributeBase (.Call (.Name "super" p0) [] [] p1) "__init__" env (eval (.Call (.Name "super" p0) [] [] p1) env)
      standAt p2.atName
      let (f, first) ← holding [ov] (getMethod ov "__init__" pl)
      callWith p3 f first (backTo p3 (starEach [] env)) []))
    (hi : ∀ L, interactive (PySem.W.ksEnv qual sc L f (.ref cda) cc) = false) (hs0 : ∀ env : Env, swapsWith (.Call (.Attribute (.Call (.Name "super" p0) [] [] p1) "__init__" p2) [] [] p3) none p4.line env = pure false)
    (hs1 : ∀ env : Env, swapsWith (.Name vn p7) (some (.Attribute (.Name "self" p5) fld p6)) p8.line env = pure false) :
    FnOk P w K mg base CX0 1 f (PySem.W.ksFn nm qual pr [.Expr (.Call (.Attribute (.Call (.Name "super" p0) [] [] p1) "__init__" p2) [] [] p3) p4, .Assign [.Attribute (.Name "self" p5) fld p6] (.Name vn p7) p8] sc dV kV doc pm an (.ref cda) ct cc) ["self", vn] (spExI C fld) := by
  refine ⟨fun vs H Q E h => ?_, fun A outer s H args us vs Q E hr e0 hb r hsp => ?_⟩
  · obtain ⟨a, y, rfl, _⟩ := h
    rfl
  obtain ⟨a, y, rfl, ea, k⟩ := hsp
  obtain ⟨u, rfl, ru⟩ : ∃ u, us = [.ref a, u] ∧ RelV y u := by
    cases r with
    | cons r1 r2 =>
      cases r2 with
      | cons r3 r4 =>
        cases r4
        cases (show _ = Value.ref a from r1)
        exact ⟨_, rfl, r3⟩
  have hin : ∀ b o, base.get? b = some o → s.heap.get? b = some o := fun b o e => (e0.bs b o e).1
  have KX : K.In s.heap := e0.mod.kin.keeps hin
  have hloc : ∀ z ∈ List.zip [("self" : Str), vn] [Value.ref a, u], sc.names.lookup z.1 = some .local := fun z hz => by
    rcases List.mem_cons.mp (show z ∈ ([("self", Value.ref a), (vn, u)] : List (Str × Value)) from hz) with rfl | hz
    · exact k3
    · rw [List.mem_singleton.mp hz]
      exact k4
  refine PySem.ks_codeAny_call_defAt (fd := PySem.W.ksFn nm qual pr [.Expr (.Call (.Attribute (.Call (.Name "super" p0) [] [] p1) "__init__" p2) [] [] p3) p4, .Assign [.Attribute (.Name "self" p5) fld p6] (.Name vn p7) p8] sc dV kV doc pm an (.ref cda) ct cc) hr.depth (KX _ _ lk) rfl (e0.mod.nolimit.keeps hin) (PySem.W.codeRec_of KX hcd) rfl hb k5 hloc (fun h1 hns hk => ?_) k7 k8 k6
  obtain ⟨hp, g, d, t, os⟩ := s
  have I1 : Inv (cxOf CX0 P w K mg base ["self", vn] qual (scI vn) f (.ref cda) A outer ⟨hp, g, d, t, os⟩ H E) [] (start ["self", vn] [.ref a, y]) H ⟨h1, g, d, t + 2, os⟩ :=
    inv_start (us := [.ref a, u]) (fs_scI hne) hr.hd e0 rfl r ⟨⟨⟨_, _, rfl⟩, binds_fn hne ▸ hns, hk, Nat.le_refl _⟩, fun n c e => (by cases e), List.Pairwise.nil, fun n c e => (by cases e)⟩
  have hmg := e0.mod.glob.keeps hin
  obtain ⟨mb, hmb, hmb2⟩ := e0.mod.blt
  have hmb := hmb.keeps hin
  have up : ∀ {o : Obj} {b : Addr}, hp.get? b = some o → h1.get? b = some o := fun {o b} e => hk b o e
  obtain ⟨nm', q', N', bs', bm', sn', sub', ab', col', dd', c0, c1, c2, c3, c5, hC, hbm⟩ := T.cls
  obtain ⟨t1, hea⟩ := exo_at e0.hok ea
  have hat : h1.get? a = some (PySem.HandSPX.excO C t1) := up hea
  have hCat := I1.kIn _ _ hC
  have hcl : PySem.W.clsIn K C = some { name := nm', bases := bs', mro := .ref C :: bm', ns := N', qualname := q', hasDict := true, slotNames := sn', subclasses := sub', abstract := ab', collection := col', hasDel := false } := by unfold PySem.W.clsIn; rw [hC] <;> rfl
  have hIa : PySem.W.InstAt h1 a (PySem.HandSPX.excO C t1) C none := ⟨hat, rfl, rfl, trivial⟩
  refine PySem.ks_wpAt_execs_cons (PySem.ks_wpAt_Expr_any (PySem.ks_wpAt_MethodCall (pl := pl) (PySem.ks_wpAt_super_base (fd := PySem.W.ksFn nm qual pr [.Expr (.Call (.Attribute (.Call (.Name "super" p0) [] [] p1) "__init__" p2) [] [] p3) p4, .Assign [.Attribute (.Name "self" p5) fld p6] (.Name vn p7) p8] sc dV kV doc pm an (.ref cda) ct cc) k1 k2 (by decide) rfl (I1.kIn _ _ lk) rfl har rfl (I1.kIn _ _ hcode) rfl hvs hfile htop ?_) (he _)) (hi _) (hs0 _))
  refine PySem.W.ks_loadName_global k6 k1 (Calls.loadGlobal_builtin (hmg.keeps hk) hsup (hmb.keeps hk) ((hmb2 _ (by decide +kernel)).trans (by decide +kernel)) ⟨rfl, ?_⟩)
  refine wpAny_loadName_free k6 k2 rfl ⟨_, I1.kIn _ _ hcell, rfl⟩ ?_
  have l1 : (fun x => (List.zip [("self" : Str), vn] [Value.ref a, u]).reverse.lookup x) "self" = some (.ref a) := by
    have e3 : (("self" : Str) == vn) = false := beq_eq_false_iff_ne.mpr hne
    show List.lookup ("self" : Str) ([(vn, u), ("self", .ref a)] : List (Str × Value)) = _
    simp [List.lookup, e3]
  have l2 : (fun x => (List.zip [("self" : Str), vn] [Value.ref a, u]).reverse.lookup x) vn = some u := by
    show List.lookup vn ([(vn, u), ("self", .ref a)] : List (Str × Value)) = _
    simp [List.lookup]
  refine wpAny_loadName_local k6 (by rw [hself]; exact k3) hns (v := .ref a) (by rw [hself]; exact l1) ?_
  refine PySem.ks_wpAny_isType_cls hCat rfl ⟨rfl, ?_⟩
  refine PySem.ks_wpAny_call_super hCat rfl hat rfl (fun c z => nomatch z) (PySem.W.looks_mroIn I1.kIn hsub) (fun h2 e2 kk2 => ?_)
  have I2 : Inv _ [] _ H ⟨h2, g, d, t + 2, os⟩ := I1.kept kk2
  have hat2 := kk2 _ _ hat
  have hIa2 : PySem.W.InstAt h2 a (PySem.HandSPX.excO C t1) C none := ⟨hat2, rfl, rfl, trivial⟩
  unfold PySem.W.ks_superIn at hsi
  rw [hcl] at hsi
  refine PySem.W.kxs_getMethod PySem.W.kxs_ValueError e2 (PySem.W.looks_opaque I2.kIn hany) (l₀ := .ref C :: bm') ?_ rfl I2.kIn hsi (hIa2.type.andThen (PySem.W.looks_subIn I2.kIn hB)) (PySem.W.ks_ne I2.kIn hIa2 hcl) (by decide) ?_
  · exact fun A Q E s k q => wpAny_bind ((PySem.W.looks_clsIn I2.kIn hcl) A _ E s k (wpAny_pure q))
  have hmw : (h2.push (PySem.W.kxs_mw "ValueError.__init__" a)).get? h2.objs.size = some (PySem.W.kxs_mw "ValueError.__init__" a) := Heap.get?_push_size _ rfl
  refine PySem.W.kxs_callWith (i := "ValueError.__init__") (x := a) rfl (evalArgs_empty ⟨hmw, ?_⟩)
  have kk3 : ∀ b o, h2.get? b = some o → (h2.push (PySem.W.kxs_mw "ValueError.__init__" a)).get? b = some o := fun b o e => Heap.get?_push_of_some _ e
  generalize hq3 : h2.push (PySem.W.kxs_mw "ValueError.__init__" a) = h3 at *
  have hat3 := kk3 _ _ hat2
  have I3 : Inv (cxOf CX0 P w K mg base ["self", vn] qual (scI vn) f (.ref cda) A outer ⟨hp, g, d, t, os⟩ H E) [] (start ["self", vn] [.ref a, y]) H ⟨h3, g, d, t + 2 + 1, os⟩ := I2.kept kk3
  -- the wrapper is called: the built-in __init__
  refine wpAny_call (codeAny_of_tree (show wpAny _ _ (callAny (.ref h2.objs.size) ⟨[], []⟩) _ _ _ from ?_))
  simp only [callAny]
  refine wpAny_bind (wpAny_load hmw ?_)
  have t1' : (Value.type "method-wrapper" == Value.type "method" || Value.type "method-wrapper" == Value.type "builtin_function_or_method" || Value.type "method-wrapper" == Value.type "method-wrapper") = true := by decide
  simp only [PySem.W.kxs_mw, t1', if_true]
  refine PySem.W.KFB.if_so (by decide) (wpAny_bind (PySem.W.check_bound_init F.excBase_ValueError.toExcCallFacts (I3.kIn _ _ hC) hat3 rfl (wpAny_bind (wpAny_pure (wpAny_pure ?_)))))
  refine ⟨plainId_quiet F.excBase_ValueError.init.plain _, codeAny_builtin F.excBase_ValueError.initEntry ?_⟩
  refine PySem.W.exc_init_tree (cls := .ref C) (t0 := t1) (dv := none) (c2 := .none) (c3 := .none) (b4 := .bool false) hat3 (by decide) fun h4 kk4 hat4 _ => ?_
  have J := I3.write (t' := t + 2 + 1) (x := a) (e := a) (o := exo a C none) (by rw [ea]; exact True.intro) (.inl rfl) kk4 ⟨_, hat4⟩ (exo_ok hat4)
  have eu : upd H a (exo a C none) = H := by
    funext b
    by_cases eb : b = a
    · rw [eb, upd_same, ea]
    · rw [upd_ne eb]
  rw [eu] at J
  have hLa : hp.objs.size ≠ a := Nat.ne_of_gt (Heap.lt_size hea)
  have hns4 : h4.Ns hp.objs.size (fun x => (List.zip [("self" : Str), vn] [Value.ref a, u]).reverse.lookup x) := by
    obtain ⟨o, es, ep, e, dd, rr⟩ := hns
    exact ⟨o, es, ep, kk4 _ _ hLa (kk3 _ _ (kk2 _ _ e)), dd, rr⟩
  refine PySem.ks_wpAt_execs_cons (wpAt_of_wpAny (plainObj_wpAny_Assign_Attribute (wpAny_Name (wpAny_loadName_local k6 k4 hns4 l2 ?_) hdv) (hs1 _)))
  refine wpAny_Name (wpAny_loadName_local k6 k3 hns4 l1 ?_) (by decide)
  refine ost_new T J ea hno ru fun dx s2 nd ne J2 => ?_
  refine wpAt_of_wpAny (wpAny_execs_nil ?_)
  exact ⟨.non, _, J2.os, J2.bare, J2.base, J2.hok, rfl, k dx nd ne⟩
end
end WX
namespace WE
open PySem PySem.Spec PyProof.Rows L2

/-! ### a caught exception that is kept: try: body, except X as n: m = n -/
/-- at a: an exception of the class cls, its dict at d -/
def Cau (cls : Value) (d : Option Addr) (a : Addr) : HO := .ext fun h => ∃ (oe : Obj) (vs : Array Value), h.get? a = some oe ∧ Zc cls d oe ∧ oe.data = .fields vs
theorem cau_ok {P : Program} {w : World} {H : Hp} {h : Heap} {a : Addr} {cls : Value} {d : Option Addr} {oe : Obj} (e : h.get? a = some oe) (z : Zc cls d oe) (hd : ∃ vs, oe.data = .fields vs) : ObjOk P w H h a (Cau cls d a) := by
  obtain ⟨vs, hd⟩ := hd
  exact ⟨⟨oe, vs, e, z, hd⟩, ⟨oe, e⟩, fun _ _ ⟨o, v, q, r⟩ k => ⟨o, v, k o q, r⟩⟩
theorem cau_at {P : Program} {w : World} {H : Hp} {h : Heap} {a : Addr} {cls : Value} {d : Option Addr} (hok : HOk P w H h) (he : H a = some (Cau cls d a)) : ∃ (oe : Obj) (vs : Array Value), h.get? a = some oe ∧ Zc cls d oe ∧ oe.data = .fields vs := by
  have x : ObjOk P w H h a (.ext fun h => ∃ (oe : Obj) (vs : Array Value), h.get? a = some oe ∧ Zc cls d oe ∧ oe.data = .fields vs) := hok a _ he
  exact x.1
section
variable {X : Cx} {pins : List (Addr × Obj)} {σ : L2.St} {H : Hp} {s : Shared}
/-- an object that was made behind the entry is tracked from here on -/
theorem track {a : Addr} {o : HO} (I : Inv X pins σ H s) (na : H a = none) (n0 : X.s_0.heap.get? a = none) (nL : a ≠ X.env.locals) (np : ∀ p ∈ X.pn ++ pins, p.1 ≠ a) (nc : ∀ v, ¬ s.heap.IsCell a v) (new : ObjOk X.prog X.w (upd H a o) s.heap a o) : Inv X pins σ (upd H a o) s := by
  have ne0 : ∀ {b : Addr} {u : Obj}, X.s_0.heap.get? b = some u → b ≠ a := fun {b u} e z => by
    rw [z, n0] at e
    cases e
  refine ⟨I.ok, I.os, I.bare, ⟨I.base.keep, I.base.slot, fun b u e n hx => ?_, I.base.there, fun b xs e => ?_, fun b u v e => ?_, fun b ps e => ?_⟩, I.loc, I.cell, ?_, fun x c e => ?_, fun p hp => ?_, I.hok.laidN (fun _ _ e => e) na new, I.len⟩
  · rw [upd_ne (ne0 e)]
    exact I.base.free b u e n hx
  · have q := I.base.tups b xs e
    rw [upd_ne (ne_of_none q na)]
    exact q
  · have q := I.base.frzs b u v e
    rw [upd_ne (ne_of_none q na)]
    exact q
  · obtain ⟨m, q⟩ := I.base.tbls b ps e
    exact ⟨m, by rw [upd_ne (ne_of_none q na)]; exact q⟩
  · rw [upd_ne (Ne.symm nL)]
    exact I.free
  · have hc : c ≠ a := fun z => by
      obtain ⟨v, q⟩ := I.cell x c e
      rw [z] at q
      exact nc v q
    rw [upd_ne hc]
    exact I.freeC x c e
  · obtain ⟨e, n, r⟩ := I.pin p hp
    exact ⟨e, by rw [upd_ne (np p hp)]; exact n, r⟩
end
/-- what the clause wishes: slot i is n's -/
def wKeep (K : PySem.W.Frag) (c : Value) (i : Nat) (ts : TS) (Wout : WX) (D : Ends) : WX := fun cls d σ H =>
  ∃ b, PySem.W.exmOne K cls c = some b ∧
    (b = true → ∀ a, H a = none → ts { nx := fun σ1 H1 => D.nx (σ1.set i none) (upd H1 a (Cau cls d a)), rt := fun _ _ => False, bk := fun _ _ => False, ct := fun _ _ => False } (σ.set i (some (.ref a))) H) ∧ (b = false → Wout cls d σ H)
section
variable {X : Cx} {x n : Str} {c : Value} {i : Nat} {body suite : List Stmt} {b₀ : Stmt} {np pos pos' : Pos} {tb : WX → TS} {ts : TS} {Wout : WX}
theorem ps_try_keep (hs : X.stack = X.env :: X.outer) (hf : X.env.frame = some X.env.locals) (hex : X.ex = []) (hN : X.N.Nodup) (hi : X.N[i]? = some n) (hln : X.env.kindOf n = some .local) (hc : Names X x c) (tk : Takes X Wout)
    (hb : ∀ (W : WX) (pn : List (Addr × Obj)) (xe : Value → Shared → Prop), Takes (X.tr pn xe) W → PassesOwn (model X.prog X.w) X.A X.env xe → PSs (X.tr pn xe) body (tb W))
    (hsu : ∀ (a : Addr) (oe : Obj) (pn : List (Addr × Obj)), PSs (X.suite a ((a, oe) :: pn)) (b₀ :: suite) ts) :
    PS X (.Try body [.ExceptHandler (some (.Name x np)) (some n) (b₀ :: suite) pos'] [] [] pos) (fun D σ H => tb (wKeep X.K c i ts Wout D) D σ H) := by
  refine ⟨fun pins s σ H D I h => ?_⟩
  have ok := I.ok
  have frA : X.A.frames = some (X.env :: X.outer) := by rw [ok.frames, hs]
  have lcl : Loc X.env.scope n := .inl hln
  refine wpAny_Try_except ?_
  refine wpAny_mono ((hb (wKeep X.K c i ts Wout D) (X.pn ++ pins) (fun er s₁ => wpAny (model X.prog X.w) X.A (noteFrame er X.env) (fun _ s₂ => wpAny (model X.prog X.w) X.A (setFlight er none) (fun _ s₃ =>
    wpAny (model X.prog X.w) X.A (handleBy er X.env [.ExceptHandler (some (.Name x np)) (some n) (b₀ :: suite) pos']) (SP X pins D) X.xe s₃) X.xe s₂) X.xe s₁) (fun u s2 air => ?_) PassesOwn.looking).run [] s σ H D (I.toTry _) h) (fun f s1 hsp => ?_) (fun e s1 he => he)
  · obtain ⟨a, B, sI, pins2, σ2, H2, cls, d, rfl, J0, nb, up, sky, na, os, ag, b, hb1, hyes, hno⟩ := air
    have J : Inv X pins σ2 H2 sI := J0.ofTry ok
    have sky2 : Sky B (X.env :: X.outer) a (Zc cls d) X.env.locals s2.heap := by rw [← hs]; exact sky
    show wpAny (model X.prog X.w) X.A (noteFrame (.ref a) X.env) _ _ _
    refine Sky.land Zc.steady frA hf sky2 fun h3 fl3 up3 => ?_
    have J3 : Inv X pins σ2 H2 { s2 with heap := h3 } := J.landed nb fl3.1 (up.trans up3) os ag
    obtain ⟨oe3, vs3, he3, hz3, hd3⟩ := fl3.there
    have frames_no : ∀ {h : Heap} {o : Obj} {vs : Array Value}, h.FunFrames B (X.env :: X.outer) → h.get? a = some o → o.data = .fields vs → a ∉ frs (X.env :: X.outer) := fun {h o vs} ff e dd hm => by
      obtain ⟨_, o', e', hnf⟩ := ff.mem hm
      rw [e] at e'
      cases e'
      exact hnf _ dd
    have nfr := frames_no fl3.2.2.1 he3 hd3
    have nL : a ≠ X.env.locals := fun z => nfr (List.mem_filterMap.mpr ⟨X.env, List.mem_cons_self, by rw [hf, z]⟩)
    have nF : a ∉ X.fs := fun hm => by
      obtain ⟨e, he, q⟩ := List.mem_filterMap.mp hm
      exact nfr (List.mem_filterMap.mpr ⟨e, List.mem_cons_of_mem _ he, q⟩)
    -- the exception is new
    have nI : sI.heap.get? a = none := by
      cases q : sI.heap.get? a with
      | none => rfl
      | some o =>
        have z := nb a o q (by rw [hs]; exact nfr)
        rw [fl3.2.1] at z
        cases z
    have n0 : X.s_0.heap.get? a = none := by
      cases q : X.s_0.heap.get? a with
      | none => rfl
      | some o =>
        obtain ⟨o', z⟩ := J.base.there a o q (by rw [hex]; exact List.not_mem_nil)
        rw [nI] at z
        cases z
    have npn : ∀ p ∈ X.pn ++ pins, p.1 ≠ a := fun p hp z => by
      have q := (J.pin p hp).1
      rw [z, nI] at q
      cases q
    have S3 := J3.suite he3 hd3 na nL nF
    refine wpAny_handleBy_cons (codeAny_handlers_test ?_) (by intro q; cases q)
    have LT : PySem.W.Looks (model X.prog X.w) h3 (typeOf (.ref a)) cls := fun A Q E s k q => wpAny_typeOf_ref (k _ _ he3) (by rw [hz3.1]; exact q)
    have LM := PySem.W.exm_one (M := model X.prog X.w) (J3.kIn) LT hb1
    have named : ∀ {Q : Value → Shared → Prop} {E : Value → Shared → Prop}, Q c { s2 with heap := h3 } → wpAny (model X.prog X.w) (X.A.mark (some (.ref a))) (eval (.Name x np) X.env) Q E { s2 with heap := h3 } := fun {Q E} q => by
      obtain ⟨hg, hdbg, hm | ⟨hm, hv, hnn⟩⟩ := hc
      · exact ld_glob (X := X.suite a ((a, oe3) :: (X.pn ++ pins))) S3 hg hm q hdbg
      · exact ld_blt (X := X.suite a ((a, oe3) :: (X.pn ++ pins))) S3 hg hm hv q hnn hdbg
    refine named (LM.here ?_)
    cases b with
    | true =>
      refine codeAny_handlers_suite_as ?_
      refine HandSPX.lands_againZ fl3 fun h4 fl4 up4 => ?_
      have J4 : Inv X pins σ2 H2 { s2 with heap := h4 } := J.landed nb fl4.1 ((up.trans up3).trans up4) os ag
      obtain ⟨oe4, vs4, he4, hz4, hd4⟩ := fl4.there
      have S4 := J4.suite he4 hd4 na nL nF
      refine store_ok (X := X.suite a ((a, oe4) :: (X.pn ++ pins))) (v := .ref a) S4 hN hi lcl rfl (fun s5 S5 => ?_) (.inr hln)
      refine wpAny_mono ((hsu a oe4 (X.pn ++ pins)).run [] s5 _ H2 _ S5 (hyes rfl a na)) (fun f s6 hsp => ?_) (fun _ _ z => False.elim z)
      cases f with
      | next =>
        obtain ⟨σ6, H6, S6, q6⟩ := hsp
        obtain ⟨e6, n6, _⟩ := S6.pin (a, oe4) (List.mem_append_left _ List.mem_cons_self)
        have T6 : Inv X pins σ6 (upd H6 a (Cau cls d a)) s6 := track (S6.unsuite ok) n6 n0 nL npn (fun v z => by
          obtain ⟨o, e, dd⟩ := z
          rw [show s6.heap.get? a = some oe4 from e6] at e
          cases e
          rw [hd4] at dd
          cases dd) (cau_ok e6 hz4 ⟨_, hd4⟩)
        exact gone_ok T6 hN hi hln fun s7 J7 => ⟨_, _, J7, q6⟩
      | brk => exact (hsp.choose_spec.choose_spec.2 : False).elim
      | cont => exact (hsp.choose_spec.choose_spec.2 : False).elim
      | ret u => exact (hsp.choose_spec.choose_spec.choose_spec.2.2 : False).elim
    | false =>
      show wpAny _ X.A (handleBy (.ref a) X.env []) _ _ _
      refine wpAny_handleBy_nil ?_
      obtain ⟨k1, k2, k3, oe, vs, Tr, oT, tss, he, hz, hd, h1, hr⟩ := id fl3
      unfold PySem.passOn
      refine wpAny_bind (wpAny_field he hd h1 ?_)
      rw [if_neg (show ¬ ((Value.ref Tr == Value.none) = true) from by simp)]
      have on_ : wpAny (model X.prog X.w) X.A (setFlight (.ref a) X.env.frame) (fun _ s4 => wpAny (model X.prog X.w) X.A (throw (.ref a) : Sem Flow) (SP X pins D) X.xe s4) X.xe { s2 with heap := h3 } := by
        rw [hf]
        refine HandSPX.setFlight_upZ fl3 fun h4 hh4 up4 => wpAny_throw (tk _ _ ?_)
        exact ⟨a, B, sI, pins, σ2, H2, cls, d, rfl, J, nb, (up.trans up3).trans up4, .inr (.inr (by rw [hs]; exact hh4)), na, os, ag, hno rfl⟩
      first
        | exact wpAny_bind (wpAny_pure (wpAny_bind on_))
        | exact wpAny_bind on_
  · cases f with
    | next =>
      obtain ⟨σ6, H6, S6, q6⟩ := hsp
      exact wpAny_execs_nil ⟨σ6, H6, S6.ofTry ok, q6⟩
    | brk =>
      obtain ⟨σ6, H6, S6, q6⟩ := hsp
      exact ⟨σ6, H6, S6.ofTry ok, q6⟩
    | cont =>
      obtain ⟨σ6, H6, S6, q6⟩ := hsp
      exact ⟨σ6, H6, S6.ofTry ok, q6⟩
    | ret u =>
      obtain ⟨v6, σ6, H6, S6, r6, q6⟩ := hsp
      exact ⟨v6, σ6, H6, S6.ofTry ok, r6, q6⟩
end

/-! ### such an exception is looked at -/
/-- what the written part tells of its class -/
structure CauC (K : PySem.W.Frag) (C : Addr) : Prop where
  x : XfC K C
  cl : (PySem.W.clsIn K C).isSome = true
  ca : PySem.W.findIn K (.ref C) "__class__" = some (some (.builtin "object.__class__"))
  cn : PySem.W.specialIn K (.builtin "object.__class__") "__get__" = some (some (.builtin "getset_descriptor.__get__"))
  ct : PySem.W.takesIn K (.builtin "object.__class__") = some true
  cm : PySem.W.mroIn K C (.type "object") = some true
section
variable {X : Cx} {pins : List (Addr × Obj)} {σ : L2.St} {H : Hp} {s : Shared} {a C dd : Addr} {fs : List (Str × V)}
theorem cau_inst (I : Inv X pins σ H s) (e : H a = some (Cau (.ref C) (some dd) a)) (ed : H dd = some (.xd fs)) : ∃ (oe od : Obj) (mA : Str → Option Value), PySem.W.InstAt s.heap a oe C (some od) ∧ (∀ f, PySem.W.lookIn f od = some (mA f)) ∧ ∀ f, RelO (fs.lookup f) (mA f) := by
  obtain ⟨oe, vs, ha, hz, hd⟩ := cau_at I.hok e
  obtain ⟨mA, hns, hr⟩ := (show ObjOk X.prog X.w H s.heap dd (.xd fs) from I.hok dd _ ed)
  obtain ⟨od, ho, hl⟩ := lookIn_ns hns
  exact ⟨oe, od, mA, ⟨ha, hz.1, by unfold PySem.W.notCls; rw [hd] <;> rfl, by rw [hz.2]; exact ho⟩, hl, hr⟩
/-- isinstance(x, C) -/
def rIsC (K : PySem.W.Frag) : List V → Hp → VK → Prop := fun xs H Q => ∃ (a C dd : Addr) (fs : List (Str × V)) (c : V) (cv : Value) (b : Bool), xs = [.ref a, c] ∧ H a = some (Cau (.ref C) (some dd) a) ∧ H dd = some (.xd fs) ∧ CauC K C ∧ (∀ u, RelV c u → u = cv) ∧
  PySem.W.kitOne K (.ref C) cv = some b ∧ Q (.bl b) H
theorem call_isC : CallR X (.builtin "isinstance") (rIsC X.K) := by
  intro pins s σ H xs us Q I r h
  obtain ⟨a, C, dd, fs, c, cv, b, rfl, ea, ed, T, hc, hk, q⟩ := h
  obtain ⟨u, u2, rfl, r1, r2⟩ := vals2 r
  cases (show u = Value.ref a from r1)
  rw [hc u2 r2]
  obtain ⟨oe, od, mA, J, _, _⟩ := cau_inst I ea ed
  exact PySem.W.kia_one (PySem.W.kitx_exc T.cl T.x.ga T.x.gg T.x.exC T.ca T.cn T.ct T.cm) I.kIn J hk (fun z => nomatch z) fun tk => ⟨.bl b, H, I.tok _, rfl, q⟩
/-- isinstance(x, (C, D, ..)) -/
def rIsCT (K : PySem.W.Frag) : List V → Hp → VK → Prop := fun xs H Q => ∃ (a C dd t : Addr) (fs : List (Str × V)) (cs : List V) (cvs : List Value) (b : Bool), xs = [.ref a, .ref t] ∧ H a = some (Cau (.ref C) (some dd) a) ∧ H dd = some (.xd fs) ∧ CauC K C ∧ H t = some (.tup cs) ∧
  (∀ us, Vals cs us → us = cvs) ∧ PySem.W.kitAny K (.ref C) cvs = some b ∧ Q (.bl b) H
theorem call_isCT : CallR X (.builtin "isinstance") (rIsCT X.K) := by
  intro pins s σ H xs us Q I r h
  obtain ⟨a, C, dd, t, fs, cs, cvs, b, rfl, ea, ed, T, et, hc, hk, q⟩ := h
  obtain ⟨u, u2, rfl, r1, r2⟩ := vals2 r
  cases (show u = Value.ref a from r1)
  cases (show u2 = Value.ref t from r2)
  obtain ⟨oe, od, mA, J, _, _⟩ := cau_inst I ea ed
  obtain ⟨_, its, rv, o, ho, oc, n, od2⟩ := (show ObjOk X.prog X.w H s.heap t (.tup cs) from I.hok t _ et)
  obtain rfl := hc its rv
  obtain ⟨cl, dt, dat, sl⟩ := o
  cases oc
  cases od2
  exact PySem.W.kia_tup (PySem.W.kitx_exc T.cl T.x.ga T.x.gg T.x.exC T.ca T.cn T.ct T.cm) I.kIn J ho hk (fun z => nomatch z) fun tk => ⟨.bl b, H, I.tok _, rfl, q⟩
/-- x.f -/
def tCauF (K : PySem.W.Frag) (f : Str) (te : TE) : TE := fun σ H Q => te σ H fun x H1 => ∃ (a C dd : Addr) (fs : List (Str × V)) (v : V), x = .ref a ∧ H1 a = some (Cau (.ref C) (some dd) a) ∧ H1 dd = some (.xd fs) ∧ XfC K C ∧ PySem.W.findIn K (.ref C) f = some none ∧ fs.lookup f = some v ∧ Q v H1
theorem pe_cauf {e : Expr} {te : TE} {pos : Pos} {f : Str} (he : PE X e te) (hb : attributeBase e f X.env (eval e X.env) = eval e X.env := by rfl) : PE X (.Attribute e f pos) (tCauF X.K f te) := by
  refine ⟨fun pins s σ H Q I h => attr_of hb (thn (he.run pins s σ H _ I h) fun u s1 hh => ?_)⟩
  obtain ⟨x, H1, I1, rx, a, C, dd, fs, v, rfl, ea, ed, T, hno, l, q⟩ := hh
  cases (show u = Value.ref a from rx)
  obtain ⟨oe, od, mA, J, hl, hr⟩ := cau_inst I1 ea ed
  obtain ⟨u, hu, ru⟩ := RelO.some_of (v := v) (o := mA f) (by rw [← l]; exact hr f)
  exact HandSPX.exc_get I1.kIn J T.ga T.gg T.exC (PySem.W.findObj_own T.hdC hno rfl (by rw [hl, hu])) (handed_of ru) ⟨v, H1, I1.tok _, ru, q⟩
end
/-! ### o.m(e, ..) that may raise, in a try -/
def tMethS (C : Addr) (m : Str) (sp : Sp) (E : L2.St → XK) (ta : TE) (t : TA) : TE := fun σ H Q => ta σ H fun x H1 => ∃ a dx fs, x = .ref a ∧ H1 a = some (.ins C dx fs) ∧ fs.lookup m = none ∧ t σ H1 fun vs H2 => sp (x :: vs) H2 Q (E σ)
section
variable {X : Cx} {CX : CXT} {k : Nat} {f C : Addr} {fd : FuncData} {ps : List Str} {sp : Sp} {E : L2.St → XK} {m : Str} {pos apos : Pos} {e o : Expr} {es : List Expr} {ta : TE} {t : TA}
theorem pe_methS {pl : Sem Bool} (he : PE X o ta) (c : Cls X.K C) (hm : Meth X.K C m f) (F : FnOk X.prog X.w X.K X.mg X.base CX k f fd ps sp) (hr : Room k X.A) (hb : Binds X.K fd ps []) (hx : ∀ σ, PassesAt CX X σ (E σ)) (ha : PA X (e :: es) t)
    (hst : starEach (e :: es) X.env = (false, eval e X.env) :: starEach es X.env := by rfl) (hpl : (backTo pos (starEach es X.env)).any (·.1) = false := by rfl)
    (ht : eval (.Call (.Attribute o m apos) (e :: es) [] pos) X.env = (do
      let ov ← eval o X.env
      standAt apos.atName
      let (f, first) ← holding [ov] (getMethod ov m pl)
      callWith pos f first (backTo pos (starEach (e :: es) X.env)) (backToKw pos (keywordEach [] X.env))) := by rfl) :
    PE X (.Call (.Attribute o m apos) (e :: es) [] pos) (tMethS C m sp E ta t) := by
  refine ⟨fun pins s σ H Q I h => PySem.W.methodCall_KW (pl := pl) (thn (he.run pins s σ H _ I h) fun u s1 z => ?_) ht⟩
  obtain ⟨x, H1, I1, rx, a, dx, fs, rfl, ea, l, q⟩ := z
  cases (show u = Value.ref a from rx)
  refine getmeth_ok I1 ea c hm l ?_
  refine PySem.W.callWith_K (first := [.ref a]) (h₀ := X.base) I1.ok.mod.kin hm.kp (thn (ha.run pos pins s1 σ H1 _ I1 q) fun us s2 z => ?_) hst hpl
  obtain ⟨vs, H2, I2, r, q2⟩ := z
  exact ⟨I2.kIn, run_fnS (us := .ref a :: us) (vs := .ref a :: vs) F hr hb (hx σ) I2 (.cons rfl r) q2⟩
end
theorem exm_mk {K : PySem.W.Frag} {t : Value} {C : Addr} {v : Bool} (b : PySem.W.subIn K (.ref C) (.type "BaseException") = some true) (i : PySem.W.isClsIn K C = true) (ty : PySem.W.typeIn K (.ref C) = some (.type "type")) (s : PySem.W.subIn K t (.ref C) = some v) : PySem.W.exmOne K t (.ref C) = some v := by
  have i' : (PySem.W.clsIn K C).isSome = true := i
  unfold PySem.W.exmOne
  rw [b, if_pos (by decide)]
  show (if ((PySem.W.clsIn K C).isSome && PySem.W.typeIn K (.ref C) == some (.type "type")) = true then PySem.W.subIn K t (.ref C) else none) = some v
  rw [ty, i', if_pos (by simp)]
  exact s
end WE
namespace WT
open PySem PySem.Spec PyProof.Rows L2

/-! ### C(e, .., k = v, ..) in a try, its __init__ may raise -/
def tMakeKS (C : Addr) (n m : Nat) (sp : Sp) (gV : List V → List V → List V) (E : L2.St → XK) (t tk : TA) : TE := fun σ H Q => t σ H fun vs H1 => tk σ H1 fun zs H2 => vs.length = n ∧ zs.length = m ∧ ∀ x dx, H2 x = none → H2 dx = none → dx ≠ x →
  sp (gV (.ref x :: vs) zs) (upd (upd H2 dx (.own x)) x (.ins C dx [])) (fun v H3 => v = .non ∧ Q (.ref x) H3) (E σ)
section
variable {X : Cx} {CX : CXT} {k n : Nat} {f C : Addr} {fd : FuncData} {ps ks : List Str} {sp : Sp} {E : L2.St → XK} {x : Str} {p pos : Pos} {e : Expr} {es : List Expr} {kws : List Keyword} {t tk : TA} {g : List Value → List Value → List Value} {gV : List V → List V → List V}
theorem run_makeKS {pins : List (Addr × Obj)} {σ : L2.St} {H : Hp} {s : Shared} {Q : VK} {us ws : List Value} {vs zs : List V} (M : Mk X.K C f) (F : FnOk X.prog X.w X.K X.mg X.base CX k f fd ps sp) (hr : Room (k + 1) X.A) (hb : KBn X.K fd ps (n + 1) ks g gV) (hx : PassesAt CX X σ (E σ))
    (I : Inv X pins σ H s) (r : Vals vs us) (rz : Vals zs ws) (l1 : vs.length = n) (l2 : zs.length = ks.length)
    (h : ∀ x dx, H x = none → H dx = none → dx ≠ x → sp (gV (.ref x :: vs) zs) (upd (upd H dx (.own x)) x (.ins C dx [])) (fun v H2 => v = .non ∧ Q (.ref x) H2) (E σ)) :
    wpAny (model X.prog X.w) X.A (call (.ref C) us (ks.zip ws)) (EP X pins σ Q) X.xe s := by
  have hq := h (s.heap.objs.size + 1) s.heap.objs.size (I.hok.fresh (Nat.le_succ _)) (I.hok.fresh (Nat.le_refl _)) (Nat.ne_of_lt (Nat.lt_succ_self _))
  have I2 := Inv.made (C := C) I
  have r1 : Vals (V.ref (s.heap.objs.size + 1) :: vs) (Value.ref (s.heap.objs.size + 1) :: us) := .cons rfl r
  have r2 := hb.rel r1 rz
  have n1 : (Value.ref (s.heap.objs.size + 1) :: us).length = n + 1 := by
    rw [List.length_cons, ← r.length, l1]
  refine wpAny_call (make_map (f := f) I.kIn M.makes M.init (beq_iff_eq.mp M.fn) (codeAny_mono (F.run _ X.stack _ _ ⟨Value.ref (s.heap.objs.size + 1) :: us, ks.zip ws⟩ (g (Value.ref (s.heap.objs.size + 1) :: us) ws) _ _ (E σ) (hr.make C us (ks.zip ws))
    (I2.env0.make C us (ks.zip ws)) (hb.to _ (Value.ref (s.heap.objs.size + 1) :: us) ws I2.kIn n1 (rz.length.symm.trans l2)) r2 hq) fun r s' hq' => ?_))
  cases r with
  | error e => exact hx pins _ _ e s' I2 hq'
  | ok fl =>
    cases fl with
    | ret u =>
      obtain ⟨v, H', I3, rv, ev, q3⟩ := I2.after hq'
      subst ev
      exact ⟨rv, ⟨V.ref (s.heap.objs.size + 1), H', I3, rfl, q3⟩⟩
    | next => exact False.elim hq'
    | brk => exact False.elim hq'
    | cont => exact False.elim hq'
theorem pe_makeKS (M : Mk X.K C f) (F : FnOk X.prog X.w X.K X.mg X.base CX k f fd ps sp) (hr : Room (k + 1) X.A) (hg : Gl X x) (hm : X.mg x = some (.ref C)) (hb : KBn X.K fd ps (n + 1) ks g gV) (hx : ∀ σ, PassesAt CX X σ (E σ)) (ha : PA X (e :: es) t) (hkw : PK X kws tk)
    (hall : (backToKw pos (keywordEach kws X.env)).all (·.1.isSome) = true := by rfl) (hks : (backToKw pos (keywordEach kws X.env)).filterMap (·.1) = ks := by rfl) (hdb : (x == ("__debug__" : Str)) = false := by decide)
    (he : starEach (e :: es) X.env = (false, eval e X.env) :: starEach es X.env := by rfl) (hpl : ((backTo pos (starEach (e :: es) X.env)).any (·.1) || (backToKw pos (keywordEach kws X.env)).any (·.1.isNone)) = false := by rfl) :
    PE X (.Call (.Name x p) (e :: es) kws pos) (tMakeKS C n ks.length sp gV E t tk) := by
  refine ⟨fun pins s σ H Q I h => ?_⟩
  refine wpAny_Call_Name_kw (ld_glob I hg hm ?_ hdb)
  refine PySem.W.callWith_KW (h₀ := X.base) I.ok.mod.kin M.kp hall (thn (ha.run pos pins s σ H _ I h) fun us s1 ⟨vs, H1, I1, r, q⟩ => ?_) hpl he
  refine thn (hkw.run pos pins s1 σ H1 _ I1 q) fun ws s2 ⟨zs, H2, I2, rz, l1, l2, q2⟩ => ⟨I2.kIn, ?_⟩
  rw [hks]
  exact run_makeKS M F hr hb (hx σ) I2 r rz l1 l2 q2
theorem run_makeS {pins : List (Addr × Obj)} {σ : L2.St} {H : Hp} {s : Shared} {Q : VK} {us : List Value} {vs : List V} (M : Mk X.K C f) (F : FnOk X.prog X.w X.K X.mg X.base CX k f fd ps sp) (hr : Room (k + 1) X.A) {ds : List Value} {dvs : List V} (hb : Binds X.K fd ps ds) (hd : Vals dvs ds) (hx : PassesAt CX X σ (E σ))
    (I : Inv X pins σ H s) (r : Vals vs us)
    (h : ∀ x dx, H x = none → H dx = none → dx ≠ x → sp (.ref x :: vs ++ dvs) (upd (upd H dx (.own x)) x (.ins C dx [])) (fun v H2 => v = .non ∧ Q (.ref x) H2) (E σ)) :
    wpAny (model X.prog X.w) X.A (call (.ref C) us) (EP X pins σ Q) X.xe s := by
  have hq := h (s.heap.objs.size + 1) s.heap.objs.size (I.hok.fresh (Nat.le_succ _)) (I.hok.fresh (Nat.le_refl _)) (Nat.ne_of_lt (Nat.lt_succ_self _))
  have I2 := Inv.made (C := C) I
  have r1 : Vals (V.ref (s.heap.objs.size + 1) :: vs) (Value.ref (s.heap.objs.size + 1) :: us) := .cons rfl r
  have r2 : Vals (V.ref (s.heap.objs.size + 1) :: vs ++ dvs) (Value.ref (s.heap.objs.size + 1) :: us ++ ds) := r1.append hd
  have hl : (Value.ref (s.heap.objs.size + 1) :: us ++ ds).length = ps.length := by rw [← r2.length]; exact F.len _ _ _ _ hq
  refine wpAny_call (make_map (f := f) I.kIn M.makes M.init (beq_iff_eq.mp M.fn) (codeAny_mono (F.run _ X.stack _ _ ⟨Value.ref (s.heap.objs.size + 1) :: us, []⟩ (Value.ref (s.heap.objs.size + 1) :: us ++ ds) _ _ (E σ) (hr.make C us [])
    (I2.env0.make C us []) (hb _ (Value.ref (s.heap.objs.size + 1) :: us) I2.kIn hl) r2 hq) fun r s' hq' => ?_))
  cases r with
  | error e => exact hx pins _ _ e s' I2 hq'
  | ok fl =>
    cases fl with
    | ret u =>
      obtain ⟨v, H', I3, rv, ev, q3⟩ := I2.after hq'
      subst ev
      exact ⟨rv, ⟨V.ref (s.heap.objs.size + 1), H', I3, rfl, q3⟩⟩
    | next => exact False.elim hq'
    | brk => exact False.elim hq'
    | cont => exact False.elim hq'
def tMakeS (C : Addr) (sp : Sp) (dvs : List V) (E : L2.St → XK) (t : TA) : TE := fun σ H Q => t σ H fun vs H1 => ∀ x dx, H1 x = none → H1 dx = none → dx ≠ x →
  sp (.ref x :: vs ++ dvs) (upd (upd H1 dx (.own x)) x (.ins C dx [])) (fun v H3 => v = .non ∧ Q (.ref x) H3) (E σ)
theorem pe_makeS {ds : List Value} {dvs : List V} (M : Mk X.K C f) (F : FnOk X.prog X.w X.K X.mg X.base CX k f fd ps sp) (hr : Room (k + 1) X.A) (hg : Gl X x) (hm : X.mg x = some (.ref C)) (hb : Binds X.K fd ps ds) (hd : Vals dvs ds) (hx : ∀ σ, PassesAt CX X σ (E σ))
    (ha : PA X (e :: es) t) (hdb : (x == ("__debug__" : Str)) = false := by decide) (he : starEach (e :: es) X.env = (false, eval e X.env) :: starEach es X.env := by rfl) (hpl : (backTo pos (starEach es X.env)).any (·.1) = false := by rfl) :
    PE X (.Call (.Name x p) (e :: es) [] pos) (tMakeS C sp dvs E t) := by
  refine ⟨fun pins s σ H Q I h => ?_⟩
  refine wpAny_Call_Name_kw (ld_glob I hg hm ?_ hdb)
  refine PySem.W.callWith_K (h₀ := X.base) I.ok.mod.kin M.kp (thn (ha.run pos pins s σ H _ I h) fun us s1 ⟨vs, H1, I1, r, q⟩ => ⟨I1.kIn, ?_⟩) he hpl
  exact run_makeS M F hr hb hd (hx σ) I1 r q
end

/-! ### two tuples of the very same items -/
def Sm (x : V) : Prop := flatB x = true ∨ ∃ a, x = .ref a
def rEqT (K : PySem.W.Frag) : R2 := fun x y H Q => ∃ a b xs, x = .ref a ∧ y = .ref b ∧ SqT K H a xs ∧ SqT K H b xs ∧ (∀ v ∈ xs, Sm v) ∧ Q (.bl true) H
section
variable {X : Cx} {K : PySem.W.Frag}
theorem eq_sm {A : Around} {s : Shared} {x : V} {u v : Value} (h : Sm x) (r : RelV x u) (r2 : RelV x v) : SeqAt.EqAt A s u v true := by
  rcases h with h | ⟨a, rfl⟩
  · exact eqAt_same r r2 h
  · cases (show u = Value.ref a from r)
    cases (show v = Value.ref a from r2)
    exact SeqAt.EqAt.same _
theorem op_eqT (hu : X.A.units + 64 < cLine) : OpR X (compareOp .Eq) (rEqT X.K) := by
  intro pins s σ H x y v u Q I rx ry h
  obtain ⟨a, b, xs, rfl, rfl, ha, hb, hm, q⟩ := h
  cases (show v = Value.ref a from rx)
  cases (show u = Value.ref b from ry)
  obtain ⟨its, r, e, _⟩ := I.tuple ha
  obtain ⟨its2, r2, e2, _⟩ := I.tuple hb
  have hsz : its.toArray.size = its2.toArray.size := by rw [List.size_toArray, List.size_toArray, ← r.length, ← r2.length]
  refine GQ.rc_tupG hsz (by omega) (fun _ s' => s' = s) e e2 (fun i h1 h2 s' es => ?_) (fun s' es => ?_) rfl
  · subst es
    have k1 : i < xs.length := by rw [r.length]; simpa using h1
    obtain ⟨u1, hu1, ru⟩ := r.get (List.getElem?_eq_getElem k1)
    obtain ⟨v1, hv1, rv⟩ := r2.get (List.getElem?_eq_getElem k1)
    have g1 : its[i]? = some its.toArray[i] := by
      have h1' : i < its.length := by simpa using h1
      rw [List.getElem?_eq_getElem h1'] <;> simp
    have g2 : its2[i]? = some its2.toArray[i] := by
      have h2' : i < its2.length := by simpa using h2
      rw [List.getElem?_eq_getElem h2'] <;> simp
    rw [g1] at hu1
    rw [g2] at hv1
    rw [Option.some.inj hu1, Option.some.inj hv1]
    exact eq_sm (hm _ (List.getElem_mem k1)) ru rv X.prog X.w X.xe _ ⟨rfl, rfl⟩
  · subst es
    exact ⟨.bl true, H, I, rfl, q⟩
theorem opEqT (hu : X.A.units + 64 < cLine) (h : X.K = K := by rfl) : OpR X (compareOp .Eq) (rEqT K) := h ▸ op_eqT hu
end
end WT
namespace Q
open PySem PySem.Spec PyProof.Rows L2 WL WM WO WG WS WX WE WT
def top (i : Nat) : Stmt := PySem.Challenge.pw_whatspeed_k07_stretches_of_any_value.main.body.getD i (.Pass ⟨0, 0, 0, 0⟩)
abbrev PP : Program := PySem.Challenge.pw_whatspeed_k07_stretches_of_any_value
abbrev s_BadStretch_init : Stmt := inClass (top 4) 0
abbrev s_is_integer : Stmt := top 6
abbrev N_is_integer : List Str := ["value"]
theorem sc_is_integer : FnScope ["value"] ["value"] (defScope s_is_integer) := ⟨rfl, rfl, rfl, by decide +kernel, rfl, by decide +kernel, by decide +kernel⟩
abbrev s_shared_divisor : Stmt := top 8
abbrev N_shared_divisor : List Str := ["one", "other"]
theorem sc_shared_divisor : FnScope ["one", "other"] ["one", "other"] (defScope s_shared_divisor) := ⟨rfl, rfl, rfl, by decide +kernel, rfl, by decide +kernel, by decide +kernel⟩
abbrev s_Number_init : Stmt := inClass (top 9) 0
abbrev N_Number_init : List Str := ["self", "top", "bottom", "shared"]
theorem sc_Number_init : FnScope ["self", "top", "bottom", "shared"] ["self", "top", "bottom"] (defScope s_Number_init) := ⟨rfl, rfl, rfl, by decide +kernel, rfl, by decide +kernel, by decide +kernel⟩
abbrev s_Number_top : Stmt := inClass (top 9) 1
abbrev N_Number_top : List Str := ["self"]
theorem sc_Number_top : FnScope ["self"] ["self"] (defScope s_Number_top) := ⟨rfl, rfl, rfl, by decide +kernel, rfl, by decide +kernel, by decide +kernel⟩
abbrev s_Number_bottom : Stmt := inClass (top 9) 2
abbrev N_Number_bottom : List Str := ["self"]
theorem sc_Number_bottom : FnScope ["self"] ["self"] (defScope s_Number_bottom) := ⟨rfl, rfl, rfl, by decide +kernel, rfl, by decide +kernel, by decide +kernel⟩
abbrev s_Number_eq : Stmt := inClass (top 9) 3
abbrev N_Number_eq : List Str := ["self", "other"]
theorem sc_Number_eq : FnScope ["self", "other"] ["self", "other"] (defScope s_Number_eq) := ⟨rfl, rfl, rfl, by decide +kernel, rfl, by decide +kernel, by decide +kernel⟩
abbrev s_Number_is_less : Stmt := inClass (top 9) 4
abbrev N_Number_is_less : List Str := ["self", "other"]
theorem sc_Number_is_less : FnScope ["self", "other"] ["self", "other"] (defScope s_Number_is_less) := ⟨rfl, rfl, rfl, by decide +kernel, rfl, by decide +kernel, by decide +kernel⟩
abbrev s_Number_add : Stmt := inClass (top 9) 5
abbrev N_Number_add : List Str := ["self", "other", "top"]
theorem sc_Number_add : FnScope ["self", "other", "top"] ["self", "other"] (defScope s_Number_add) := ⟨rfl, rfl, rfl, by decide +kernel, rfl, by decide +kernel, by decide +kernel⟩
abbrev s_Number_divided_by : Stmt := inClass (top 9) 8
abbrev N_Number_divided_by : List Str := ["self", "other"]
theorem sc_Number_divided_by : FnScope ["self", "other"] ["self", "other"] (defScope s_Number_divided_by) := ⟨rfl, rfl, rfl, by decide +kernel, rfl, by decide +kernel, by decide +kernel⟩
abbrev s_whole : Stmt := top 10
abbrev N_whole : List Str := ["count"]
theorem sc_whole : FnScope ["count"] ["count"] (defScope s_whole) := ⟨rfl, rfl, rfl, by decide +kernel, rfl, by decide +kernel, by decide +kernel⟩
abbrev s_Line_init : Stmt := inClass (top 11) 0
abbrev N_Line_init : List Str := ["self", "base", "slope"]
theorem sc_Line_init : FnScope ["self", "base", "slope"] ["self", "base", "slope"] (defScope s_Line_init) := ⟨rfl, rfl, rfl, by decide +kernel, rfl, by decide +kernel, by decide +kernel⟩
abbrev s_Stretch_init : Stmt := inClass (top 12) 0
abbrev N_Stretch_init : List Str := ["self", "low", "high", "has_low", "has_high"]
theorem sc_Stretch_init : FnScope ["self", "low", "high", "has_low", "has_high"] ["self", "low", "high", "has_low", "has_high"] (defScope s_Stretch_init) := ⟨rfl, rfl, rfl, by decide +kernel, rfl, by decide +kernel, by decide +kernel⟩
abbrev s_Stretch_low : Stmt := inClass (top 12) 1
abbrev N_Stretch_low : List Str := ["self"]
theorem sc_Stretch_low : FnScope ["self"] ["self"] (defScope s_Stretch_low) := ⟨rfl, rfl, rfl, by decide +kernel, rfl, by decide +kernel, by decide +kernel⟩
abbrev s_Stretch_high : Stmt := inClass (top 12) 2
abbrev N_Stretch_high : List Str := ["self"]
theorem sc_Stretch_high : FnScope ["self"] ["self"] (defScope s_Stretch_high) := ⟨rfl, rfl, rfl, by decide +kernel, rfl, by decide +kernel, by decide +kernel⟩
abbrev s_Stretch_has_low : Stmt := inClass (top 12) 3
abbrev N_Stretch_has_low : List Str := ["self"]
theorem sc_Stretch_has_low : FnScope ["self"] ["self"] (defScope s_Stretch_has_low) := ⟨rfl, rfl, rfl, by decide +kernel, rfl, by decide +kernel, by decide +kernel⟩
abbrev s_Stretch_has_high : Stmt := inClass (top 12) 4
abbrev N_Stretch_has_high : List Str := ["self"]
theorem sc_Stretch_has_high : FnScope ["self"] ["self"] (defScope s_Stretch_has_high) := ⟨rfl, rfl, rfl, by decide +kernel, rfl, by decide +kernel, by decide +kernel⟩
abbrev s_Stretch_middle : Stmt := inClass (top 12) 5
abbrev N_Stretch_middle : List Str := ["self"]
theorem sc_Stretch_middle : FnScope ["self"] ["self"] (defScope s_Stretch_middle) := ⟨rfl, rfl, rfl, by decide +kernel, rfl, by decide +kernel, by decide +kernel⟩
abbrev s_law_pot : Stmt := top 14
abbrev N_law_pot : List Str := ["script", "k", "cell", "own"]
theorem sc_law_pot : FnScope ["script", "k", "cell", "own"] ["script", "k"] (defScope s_law_pot) := ⟨rfl, rfl, rfl, by decide +kernel, rfl, by decide +kernel, by decide +kernel⟩
abbrev s_law_take : Stmt := top 15
abbrev N_law_take : List Str := ["pot", "upto", "digit", "prime", "mixed"]
theorem sc_law_take : FnScope ["pot", "upto", "digit", "prime", "mixed"] ["pot", "upto"] (defScope s_law_take) := ⟨rfl, rfl, rfl, by decide +kernel, rfl, by decide +kernel, by decide +kernel⟩
abbrev s_law_of : Stmt := top 16
abbrev N_law_of : List Str := ["pot", "some"]
theorem sc_law_of : FnScope ["pot", "some"] ["pot", "some"] (defScope s_law_of) := ⟨rfl, rfl, rfl, by decide +kernel, rfl, by decide +kernel, by decide +kernel⟩
abbrev s_law_drawn : Stmt := top 17
abbrev N_law_drawn : List Str := ["pot"]
theorem sc_law_drawn : FnScope ["pot"] ["pot"] (defScope s_law_drawn) := ⟨rfl, rfl, rfl, by decide +kernel, rfl, by decide +kernel, by decide +kernel⟩
abbrev s_law_odd : Stmt := top 18
abbrev N_law_odd : List Str := ["pot", "some"]
theorem sc_law_odd : FnScope ["pot", "some"] ["pot"] (defScope s_law_odd) := ⟨rfl, rfl, rfl, by decide +kernel, rfl, by decide +kernel, by decide +kernel⟩
abbrev s_law_is_fine : Stmt := top 19
abbrev N_law_is_fine : List Str := ["low", "high", "is_low", "is_high", "left", "right"]
theorem sc_law_is_fine : FnScope ["low", "high", "is_low", "is_high", "left", "right"] ["low", "high", "is_low", "is_high"] (defScope s_law_is_fine) := ⟨rfl, rfl, rfl, by decide +kernel, rfl, by decide +kernel, by decide +kernel⟩
abbrev s_law_heard : Stmt := top 20
abbrev N_law_heard : List Str := ["low", "high", "is_low", "is_high", "caught", "told", "e"]
theorem sc_law_heard : FnScope ["low", "high", "is_low", "is_high", "caught", "told", "e"] ["low", "high", "is_low", "is_high"] (defScope s_law_heard) := ⟨rfl, rfl, rfl, by decide +kernel, rfl, by decide +kernel, by decide +kernel⟩
abbrev s_law_is_refused : Stmt := top 21
abbrev N_law_is_refused : List Str := ["caught", "low", "high", "one", "end"]
theorem sc_law_is_refused : FnScope ["caught", "low", "high", "one", "end"] ["caught", "low", "high"] (defScope s_law_is_refused) := ⟨rfl, rfl, rfl, by decide +kernel, rfl, by decide +kernel, by decide +kernel⟩
abbrev s_law_is_right : Stmt := top 22
abbrev N_law_is_right : List Str := ["pot", "low", "high", "is_low", "is_high", "way", "caught", "told", "half"]
theorem sc_law_is_right : FnScope ["pot", "low", "high", "is_low", "is_high", "way", "caught", "told", "half"] ["pot"] (defScope s_law_is_right) := ⟨rfl, rfl, rfl, by decide +kernel, rfl, by decide +kernel, by decide +kernel⟩
abbrev s_law : Stmt := top 23
abbrev N_law : List Str := ["script", "plain", "k", "pot", "turn"]
theorem sc_law : FnScope ["script", "plain", "k", "pot", "turn"] ["script"] (defScope s_law) := ⟨rfl, rfl, rfl, by decide +kernel, rfl, by decide +kernel, by decide +kernel⟩
structure Ad where
  c_SpeedError : Addr
  c_BadNumber : Addr
  c_BadStretch : Addr
  c_Number : Addr
  c_Line : Addr
  c_Stretch : Addr
  f_BadStretch_init : Addr
  d_BadStretch_init : FuncData
  f_is_integer : Addr
  d_is_integer : FuncData
  f_shared_divisor : Addr
  d_shared_divisor : FuncData
  f_Number_init : Addr
  d_Number_init : FuncData
  f_Number_top : Addr
  d_Number_top : FuncData
  p_Number_top : Addr
  f_Number_bottom : Addr
  d_Number_bottom : FuncData
  p_Number_bottom : Addr
  f_Number_eq : Addr
  d_Number_eq : FuncData
  f_Number_is_less : Addr
  d_Number_is_less : FuncData
  f_Number_add : Addr
  d_Number_add : FuncData
  f_Number_divided_by : Addr
  d_Number_divided_by : FuncData
  f_whole : Addr
  d_whole : FuncData
  f_Line_init : Addr
  d_Line_init : FuncData
  f_Stretch_init : Addr
  d_Stretch_init : FuncData
  f_Stretch_low : Addr
  d_Stretch_low : FuncData
  p_Stretch_low : Addr
  f_Stretch_high : Addr
  d_Stretch_high : FuncData
  p_Stretch_high : Addr
  f_Stretch_has_low : Addr
  d_Stretch_has_low : FuncData
  p_Stretch_has_low : Addr
  f_Stretch_has_high : Addr
  d_Stretch_has_high : FuncData
  p_Stretch_has_high : Addr
  f_Stretch_middle : Addr
  d_Stretch_middle : FuncData
  p_Stretch_middle : Addr
  f_law_pot : Addr
  d_law_pot : FuncData
  f_law_take : Addr
  d_law_take : FuncData
  f_law_of : Addr
  d_law_of : FuncData
  f_law_drawn : Addr
  d_law_drawn : FuncData
  f_law_odd : Addr
  d_law_odd : FuncData
  f_law_is_fine : Addr
  d_law_is_fine : FuncData
  f_law_heard : Addr
  d_law_heard : FuncData
  f_law_is_refused : Addr
  d_law_is_refused : FuncData
  f_law_is_right : Addr
  d_law_is_right : FuncData
  f_law : Addr
  d_law : FuncData
structure Txt (K : PySem.W.Frag) (mg : Str → Option Value) (A : Ad) : Prop where
  g_SpeedError : mg "SpeedError" = some (.ref A.c_SpeedError)
  g_BadNumber : mg "BadNumber" = some (.ref A.c_BadNumber)
  g_BadStretch : mg "BadStretch" = some (.ref A.c_BadStretch)
  g_Number : mg "Number" = some (.ref A.c_Number)
  cl_Number : Cls K A.c_Number
  M_Number : Mk K A.c_Number A.f_Number_init
  sf_Number : PySem.W.selfFirst K A.c_Number = true
  ca_Number : PySem.W.findIn K (.ref A.c_Number) "__class__" = some (some (.builtin "object.__class__"))
  cm_Number : PySem.W.mroIn K A.c_Number (.type "object") = some true
  n_Number_own_top : NoAttr K A.c_Number "own_top"
  n_Number_own_bottom : NoAttr K A.c_Number "own_bottom"
  g_Line : mg "Line" = some (.ref A.c_Line)
  cl_Line : Cls K A.c_Line
  M_Line : Mk K A.c_Line A.f_Line_init
  sf_Line : PySem.W.selfFirst K A.c_Line = true
  ca_Line : PySem.W.findIn K (.ref A.c_Line) "__class__" = some (some (.builtin "object.__class__"))
  cm_Line : PySem.W.mroIn K A.c_Line (.type "object") = some true
  n_Line_own_base : NoAttr K A.c_Line "own_base"
  n_Line_own_slope : NoAttr K A.c_Line "own_slope"
  g_Stretch : mg "Stretch" = some (.ref A.c_Stretch)
  cl_Stretch : Cls K A.c_Stretch
  M_Stretch : Mk K A.c_Stretch A.f_Stretch_init
  sf_Stretch : PySem.W.selfFirst K A.c_Stretch = true
  ca_Stretch : PySem.W.findIn K (.ref A.c_Stretch) "__class__" = some (some (.builtin "object.__class__"))
  cm_Stretch : PySem.W.mroIn K A.c_Stretch (.type "object") = some true
  n_Stretch_own_low : NoAttr K A.c_Stretch "own_low"
  n_Stretch_own_high : NoAttr K A.c_Stretch "own_high"
  n_Stretch_includes_low : NoAttr K A.c_Stretch "includes_low"
  n_Stretch_includes_high : NoAttr K A.c_Stretch "includes_high"
  n_Stretch_own_middle : NoAttr K A.c_Stretch "own_middle"
  cn : PySem.W.specialIn K (.builtin "object.__class__") "__get__" = some (some (.builtin "getset_descriptor.__get__"))
  ct : PySem.W.takesIn K (.builtin "object.__class__") = some true
  X_BadStretch : OexC K A.c_BadStretch
  C_BadStretch : CauC K A.c_BadStretch
  no_BadStretch : PySem.W.findIn K (.ref A.c_BadStretch) "value" = some none
  in_BadStretch : PySem.W.findIn K (.ref A.c_BadStretch) "__init__" = some (some (.ref A.f_BadStretch_init))
  ti_BadStretch : PySem.W.typeIn K (.ref A.f_BadStretch_init) = some (.type "function")
  b_BadStretch_init : Binds K A.d_BadStretch_init ["self", "value"] []
  I_BadStretch : ∀ (w : World) (base : Heap), FnOk PP w K mg base CX0 1 A.f_BadStretch_init A.d_BadStretch_init ["self", "value"] (spExI A.c_BadStretch "value")
  em_BadStretch_SpeedError : PySem.W.exmOne K (.ref A.c_BadStretch) (.ref A.c_SpeedError) = some true
  g_is_integer : mg "is_integer" = some (.ref A.f_is_integer)
  F_is_integer : Fun K "is_integer" "is_integer" s_is_integer A.f_is_integer A.d_is_integer
  b_is_integer : Binds K A.d_is_integer ["value"] []
  g_shared_divisor : mg "shared_divisor" = some (.ref A.f_shared_divisor)
  F_shared_divisor : Fun K "shared_divisor" "shared_divisor" s_shared_divisor A.f_shared_divisor A.d_shared_divisor
  b_shared_divisor : Binds K A.d_shared_divisor ["one", "other"] []
  m_Number_init : Meth K A.c_Number "__init__" A.f_Number_init
  F_Number_init : FunD K "__init__" "Number.__init__" (defArgs s_Number_init) (defBody s_Number_init) (defScope s_Number_init) [.int 1] [] A.f_Number_init A.d_Number_init
  P_Number_top : PropOf K A.c_Number "top" A.p_Number_top A.f_Number_top
  F_Number_top : Fun K "top" "Number.top" s_Number_top A.f_Number_top A.d_Number_top
  b_Number_top : Binds K A.d_Number_top ["self"] []
  P_Number_bottom : PropOf K A.c_Number "bottom" A.p_Number_bottom A.f_Number_bottom
  F_Number_bottom : Fun K "bottom" "Number.bottom" s_Number_bottom A.f_Number_bottom A.d_Number_bottom
  b_Number_bottom : Binds K A.d_Number_bottom ["self"] []
  m_Number_eq : Meth K A.c_Number "__eq__" A.f_Number_eq
  F_Number_eq : Fun K "__eq__" "Number.__eq__" s_Number_eq A.f_Number_eq A.d_Number_eq
  b_Number_eq : Binds K A.d_Number_eq ["self", "other"] []
  m_Number_is_less : Meth K A.c_Number "is_less" A.f_Number_is_less
  F_Number_is_less : Fun K "is_less" "Number.is_less" s_Number_is_less A.f_Number_is_less A.d_Number_is_less
  b_Number_is_less : Binds K A.d_Number_is_less ["self", "other"] []
  m_Number_add : Meth K A.c_Number "__add__" A.f_Number_add
  F_Number_add : Fun K "__add__" "Number.__add__" s_Number_add A.f_Number_add A.d_Number_add
  b_Number_add : Binds K A.d_Number_add ["self", "other"] []
  m_Number_divided_by : Meth K A.c_Number "divided_by" A.f_Number_divided_by
  F_Number_divided_by : Fun K "divided_by" "Number.divided_by" s_Number_divided_by A.f_Number_divided_by A.d_Number_divided_by
  b_Number_divided_by : Binds K A.d_Number_divided_by ["self", "other"] []
  g_whole : mg "whole" = some (.ref A.f_whole)
  F_whole : Fun K "whole" "whole" s_whole A.f_whole A.d_whole
  b_whole : Binds K A.d_whole ["count"] []
  m_Line_init : Meth K A.c_Line "__init__" A.f_Line_init
  F_Line_init : Fun K "__init__" "Line.__init__" s_Line_init A.f_Line_init A.d_Line_init
  b_Line_init : Binds K A.d_Line_init ["self", "base", "slope"] []
  m_Stretch_init : Meth K A.c_Stretch "__init__" A.f_Stretch_init
  F_Stretch_init : FunD K "__init__" "Stretch.__init__" (defArgs s_Stretch_init) (defBody s_Stretch_init) (defScope s_Stretch_init) [] [("has_low", .bl true), ("has_high", .bl true)] A.f_Stretch_init A.d_Stretch_init
  P_Stretch_low : PropOf K A.c_Stretch "low" A.p_Stretch_low A.f_Stretch_low
  F_Stretch_low : Fun K "low" "Stretch.low" s_Stretch_low A.f_Stretch_low A.d_Stretch_low
  b_Stretch_low : Binds K A.d_Stretch_low ["self"] []
  P_Stretch_high : PropOf K A.c_Stretch "high" A.p_Stretch_high A.f_Stretch_high
  F_Stretch_high : Fun K "high" "Stretch.high" s_Stretch_high A.f_Stretch_high A.d_Stretch_high
  b_Stretch_high : Binds K A.d_Stretch_high ["self"] []
  P_Stretch_has_low : PropOf K A.c_Stretch "has_low" A.p_Stretch_has_low A.f_Stretch_has_low
  F_Stretch_has_low : Fun K "has_low" "Stretch.has_low" s_Stretch_has_low A.f_Stretch_has_low A.d_Stretch_has_low
  b_Stretch_has_low : Binds K A.d_Stretch_has_low ["self"] []
  P_Stretch_has_high : PropOf K A.c_Stretch "has_high" A.p_Stretch_has_high A.f_Stretch_has_high
  F_Stretch_has_high : Fun K "has_high" "Stretch.has_high" s_Stretch_has_high A.f_Stretch_has_high A.d_Stretch_has_high
  b_Stretch_has_high : Binds K A.d_Stretch_has_high ["self"] []
  P_Stretch_middle : PropOf K A.c_Stretch "middle" A.p_Stretch_middle A.f_Stretch_middle
  F_Stretch_middle : Fun K "middle" "Stretch.middle" s_Stretch_middle A.f_Stretch_middle A.d_Stretch_middle
  b_Stretch_middle : Binds K A.d_Stretch_middle ["self"] []
  g_law_pot : mg "_law_pot" = some (.ref A.f_law_pot)
  F_law_pot : Fun K "_law_pot" "_law_pot" s_law_pot A.f_law_pot A.d_law_pot
  b_law_pot : Binds K A.d_law_pot ["script", "k"] []
  g_law_take : mg "_law_take" = some (.ref A.f_law_take)
  F_law_take : Fun K "_law_take" "_law_take" s_law_take A.f_law_take A.d_law_take
  b_law_take : Binds K A.d_law_take ["pot", "upto"] []
  g_law_of : mg "_law_of" = some (.ref A.f_law_of)
  F_law_of : Fun K "_law_of" "_law_of" s_law_of A.f_law_of A.d_law_of
  b_law_of : Binds K A.d_law_of ["pot", "some"] []
  g_law_drawn : mg "_law_drawn" = some (.ref A.f_law_drawn)
  F_law_drawn : Fun K "_law_drawn" "_law_drawn" s_law_drawn A.f_law_drawn A.d_law_drawn
  b_law_drawn : Binds K A.d_law_drawn ["pot"] []
  g_law_odd : mg "_law_odd" = some (.ref A.f_law_odd)
  F_law_odd : Fun K "_law_odd" "_law_odd" s_law_odd A.f_law_odd A.d_law_odd
  b_law_odd : Binds K A.d_law_odd ["pot"] []
  g_law_is_fine : mg "_law_is_fine" = some (.ref A.f_law_is_fine)
  F_law_is_fine : Fun K "_law_is_fine" "_law_is_fine" s_law_is_fine A.f_law_is_fine A.d_law_is_fine
  b_law_is_fine : Binds K A.d_law_is_fine ["low", "high", "is_low", "is_high"] []
  g_law_heard : mg "_law_heard" = some (.ref A.f_law_heard)
  F_law_heard : Fun K "_law_heard" "_law_heard" s_law_heard A.f_law_heard A.d_law_heard
  b_law_heard : Binds K A.d_law_heard ["low", "high", "is_low", "is_high"] []
  g_law_is_refused : mg "_law_is_refused" = some (.ref A.f_law_is_refused)
  F_law_is_refused : Fun K "_law_is_refused" "_law_is_refused" s_law_is_refused A.f_law_is_refused A.d_law_is_refused
  b_law_is_refused : Binds K A.d_law_is_refused ["caught", "low", "high"] []
  g_law_is_right : mg "_law_is_right" = some (.ref A.f_law_is_right)
  F_law_is_right : Fun K "_law_is_right" "_law_is_right" s_law_is_right A.f_law_is_right A.d_law_is_right
  b_law_is_right : Binds K A.d_law_is_right ["pot"] []
  F_law : Fun K "law" "law" s_law A.f_law A.d_law
  b_law : Binds K A.d_law ["script"] []
  z_isinstance : mg "isinstance" = none
  z_int : mg "int" = none
  z_bool : mg "bool" = none
  z_abs : mg "abs" = none
  z_len : mg "len" = none
  z_max : mg "max" = none
  z_min : mg "min" = none
  z_range : mg "range" = none
  z_repr : mg "repr" = none
  z_all : mg "all" = none
  z_zip : mg "zip" = none
  z_tuple : mg "tuple" = none
  kit_NumNum : PySem.W.kitOne K (.ref A.c_Number) (.ref A.c_Number) = some true
  kit_StrStr : PySem.W.kitOne K (.ref A.c_Stretch) (.ref A.c_Stretch) = some true
  kit_blbl : PySem.W.kitOne K (.type "bool") (.type "bool") = some true
  kit_tuptup : PySem.W.kitOne K (.type "tuple") (.type "tuple") = some true
  kit_SB : PySem.W.kitOne K (.ref A.c_BadStretch) (.ref A.c_BadStretch) = some true
  kit_SN : PySem.W.kitOne K (.ref A.c_BadStretch) (.ref A.c_BadNumber) = some false
  kit_LinNum : PySem.W.kitOne K (.ref A.c_Line) (.ref A.c_Number) = some false
  kit_Linbl : PySem.W.kitOne K (.ref A.c_Line) (.type "bool") = some false
  kit_nonNum : PySem.W.kitOne K (.type "NoneType") (.ref A.c_Number) = some false
  kit_nonbl : PySem.W.kitOne K (.type "NoneType") (.type "bool") = some false
  kit_intNum : PySem.W.kitOne K (.type "int") (.ref A.c_Number) = some false
  kit_intbl : PySem.W.kitOne K (.type "int") (.type "bool") = some false
  kit_strNum : PySem.W.kitOne K (.type "str") (.ref A.c_Number) = some false
  kit_strbl : PySem.W.kitOne K (.type "str") (.type "bool") = some false
  kit_tupNum : PySem.W.kitOne K (.type "tuple") (.ref A.c_Number) = some false
  kit_tupbl : PySem.W.kitOne K (.type "tuple") (.type "bool") = some false
  kit_lstNum : PySem.W.kitOne K (.type "list") (.ref A.c_Number) = some false
  kit_lstbl : PySem.W.kitOne K (.type "list") (.type "bool") = some false
  kit_dctNum : PySem.W.kitOne K (.type "dict") (.ref A.c_Number) = some false
  kit_dctbl : PySem.W.kitOne K (.type "dict") (.type "bool") = some false
section
variable {P : Program} {w : World} {K : PySem.W.Frag} {mg : Str → Option Value} {base : Heap} {A : Ad}
/-- an int is an integer -/
def spIsInt : Sp := fun vs H Q _ => ∃ i : Int, vs = [.int i] ∧ Q (.bl true) H
theorem ok_is_integer (T : Txt K mg A) : FnOk P w K mg base CX0 1 A.f_is_integer A.d_is_integer ["value"] spIsInt := by
  refine T.F_is_integer.ok sc_is_integer (fun vs H Q E h => ?_) (fun cdv B outer s H vs Q E hr h => ?_)
  · obtain ⟨i, rfl, _⟩ := h
    rfl
  · obtain ⟨i, rfl, k⟩ := h
    refine ⟨_, pss_one (ps_ret (pe_and (pe_callB call_isi (by rfl) T.z_isinstance (by decide +kernel) (pa_cons (pv 0) (pa_cons (pe_bltn (v := .ty "int") (by rfl) T.z_int (by decide +kernel) rfl) pa_nil)))
      (pe_one (pe_not (pe_callB call_isi (by rfl) T.z_isinstance (by decide +kernel) (pa_cons (pv 0) (pa_cons (pe_bltn (v := .ty "bool") (by rfl) T.z_bool (by decide +kernel) rfl) pa_nil))))))), ?_⟩
    refine ⟨_, rfl, _, _, _, _, true, rfl, .ty "int", .base (.int i), kit_ty (by decide +kernel), true, rfl, ?_⟩
    refine iteT ?_
    refine ⟨_, rfl, _, _, _, _, false, rfl, .ty "bool", .base (.int i), kit_ty (by decide +kernel), false, rfl, ?_⟩
    exact k
end
section
variable {P : Program} {w : World} {K : PySem.W.Frag} {mg : Str → Option Value} {base : Heap} {A : Ad}
def spGcd : Sp := fun vs H Q _ => ∃ a b : Nat, vs = [.int a, .int b] ∧ Q (.int (Nat.gcd a b : Nat)) H
def natAt (σ : L2.St) (i : Nat) : Nat := match σ[i]? with
  | some (some (.int k)) => k.toNat
  | _ => 0
theorem ok_shared_divisor (T : Txt K mg A) : FnOk P w K mg base CX0 1 A.f_shared_divisor A.d_shared_divisor ["one", "other"] spGcd := by
  refine T.F_shared_divisor.ok sc_shared_divisor (fun vs H Q E h => ?_) (fun cdv B outer s H vs Q E hr h => ?_)
  · obtain ⟨a, b, rfl, _⟩ := h
    rfl
  · obtain ⟨a, b, rfl, k⟩ := h
    refine ⟨_, pss_cons (ps_while PassesOwn.never (pt_cmpR op_ne (pv 1) pe_int (nomark _))
      (pss_one (ps_par (i := 0) (j := 1) rfl sc_shared_divisor.nd rfl rfl (by decide) rfl rfl (pa_cons (pv 1) (pa_cons (pe_op op_mod (pv 0) (pv 1)) pa_nil)) (by rfl))))
      (pss_one (ps_ret (pv 0))), ?_⟩
    refine while_by (fun σ H' => ∃ c d : Nat, σ = [some (.int c), some (.int d)] ∧ Nat.gcd c d = Nat.gcd a b ∧ H' = H) (fun σ _ => natAt σ 1) ⟨a, b, rfl, rfl, rfl⟩ ?_ ?_
    · rintro σ H' ⟨c, d, rfl, hg, rfl⟩
      refine ⟨_, rfl, rfl, _, rfl, ?_⟩
      by_cases hd : d = 0
      · subst hd
        refine iteF ?_
        rw [Nat.gcd_zero_right] at hg
        refine ⟨_, rfl, ?_⟩
        rw [hg]
        exact k
      · have hne : (!decide (V.int (d : Int) = V.int 0)) = true := by
          have : ¬ (V.int (d : Int) = V.int 0) := fun e => hd (by injection e with e; omega)
          rw [decide_eq_false this]
          rfl
        rw [hne]
        refine iteT ?_
        refine ⟨_, rfl, _, rfl, _, rfl, _, _, rfl, rfl, (by show (0 : Int) < d; omega), _, _, rfl, ⟨d, c % d, ?_, ?_, rfl⟩, ?_⟩
        · rfl
        · rw [← hg, Nat.gcd_comm c d, Nat.gcd_rec d c, Nat.gcd_comm]
        · show ((c : Int) % (d : Int)).toNat < (d : Int).toNat
          have := Int.emod_lt_of_pos (c : Int) (show (0 : Int) < d by omega)
          have := Int.emod_nonneg (c : Int) (show (d : Int) ≠ 0 by omega)
          omega
    · intro σ H Q Q' m h
      obtain ⟨v, e, q⟩ := h
      obtain ⟨z, b, e2, q2⟩ := q
      exact ⟨v, e, z, b, e2, m _ _ q2⟩
end
/-! ### Number -/
def nf (q : Rat) : List (Str × V) := [("own_top", .int q.num), ("own_bottom", .int (q.den : Int))]
def Num (C : Addr) (H : Hp) (a : Addr) (q : Rat) : Prop := ∃ dx, H a = some (.ins C dx (nf q))
theorem Num.mono {C : Addr} {H H' : Hp} {a : Addr} {q : Rat} (h : Num C H a q) (s : Same H H') : Num C H' a q := by
  obtain ⟨dx, e⟩ := h
  exact ⟨dx, s _ _ e⟩
theorem nf_put (q : Rat) : putF "own_bottom" (.int (q.den : Int)) (putF "own_top" (.int q.num) []) = nf q := by
  show (if ("own_top" : Str) = "own_bottom" then [(("own_bottom" : Str), V.int (q.den : Int))] else (("own_top" : Str), V.int q.num) :: putF "own_bottom" (.int (q.den : Int)) []) = nf q
  rw [if_neg (by decide +kernel)]
  rfl
theorem nf_top (q : Rat) : (nf q).lookup ("own_top" : Str) = some (.int q.num) := by simp [nf, List.lookup]
theorem nf_bot (q : Rat) : (nf q).lookup ("own_bottom" : Str) = some (.int (q.den : Int)) := by
  have : (("own_bottom" : Str) == ("own_top" : Str)) = false := by decide +kernel
  simp [nf, List.lookup, this]
theorem nf_no (q : Rat) {m : Str} (h1 : (m == ("own_top" : Str)) = false) (h2 : (m == ("own_bottom" : Str)) = false) : (nf q).lookup m = none := by simp [nf, List.lookup, h1, h2]
/-- a new instance and its dict, then its fields -/
theorem same_made {C : Addr} {H : Hp} {x dx : Addr} {fs gs : List (Str × V)} (nx : H x = none) (ndx : H dx = none) : Same H (upd (upd (upd H dx (.own x)) x (.ins C dx fs)) x (.ins C dx gs)) := fun b o e => by
  rw [upd_upd, upd_ne (ne_of_none e nx), upd_ne (ne_of_none e ndx)]
  exact e
theorem same_new {H : Hp} {x : Addr} {o : HO} (nx : H x = none) : Same H (upd H x o) := fun b u e => by
  rw [upd_ne (ne_of_none e nx)]
  exact e
theorem abs_nat (t : Int) : (if t < 0 then -t else t) = (t.natAbs : Int) := by split <;> omega
theorem dint_ne {b c : Int} (h : b ≠ c) : decide (V.int b = V.int c) = false := decide_eq_false fun e => h (by injection e)
theorem dint_eq {b c : Int} (h : b = c) : decide (V.int b = V.int c) = true := decide_eq_true (by rw [h])
section
variable {P : Program} {w : World} {K : PySem.W.Frag} {mg : Str → Option Value} {base : Heap} {A : Ad}
def spNumI (C : Addr) : Sp := fun vs H Q _ => ∃ (p dx : Addr) (t b : Int), vs = [.ref p, .int t, .int b] ∧ b ≠ 0 ∧ b.natAbs < 2 ^ 9000 ∧ H p = some (.ins C dx []) ∧ Q .non (upd H p (.ins C dx (nf (Rat.divInt t b))))
theorem ok_Number_init (T : Txt K mg A) : FnOk P w K mg base CX0 2 A.f_Number_init A.d_Number_init ["self", "top", "bottom"] (spNumI A.c_Number) := by
  refine T.F_Number_init.ok sc_Number_init (fun vs H Q E h => ?_) (fun cdv B outer s H vs Q E hr h => ?_)
  · obtain ⟨p, dx, t, b, rfl, _⟩ := h
    rfl
  · obtain ⟨p, dx, t, b, rfl, hb, hbd, hp, k⟩ := h
    refine ⟨_, pss_cons (ps_if (PW.pt (pw_or (pt_not (pt_val (pe_call (ok_is_integer T) hr rfl T.g_is_integer T.F_is_integer.kp T.b_is_integer .nil pass0 (pa_cons (pv 1) pa_nil))))
        (pw_or (pt_not (pt_val (pe_call (ok_is_integer T) hr rfl T.g_is_integer T.F_is_integer.kp T.b_is_integer .nil pass0 (pa_cons (pv 2) pa_nil))))
        (pw_or1 (pt_cmpR op_eq (pv 2) pe_int (nomark _)))))) pss_never pss_nil)
      (pss_cons (ps_set (i := 3) sc_Number_init.nd rfl (Or.inl rfl) (pe_call (ok_shared_divisor T) hr rfl T.g_shared_divisor T.F_shared_divisor.kp T.b_shared_divisor .nil pass0
        (pa_cons (pe_callB call_abs (by rfl) T.z_abs (by decide +kernel) (pa_cons (pv 1) pa_nil)) (pa_cons (pe_callB call_abs (by rfl) T.z_abs (by decide +kernel) (pa_cons (pv 2) pa_nil)) pa_nil))))
      (pss_cons (ps_if (pt_cmpR op_lt (pv 2) pe_int (nomark _)) (pss_one (ps_set (i := 3) sc_Number_init.nd rfl (Or.inl rfl) (pe_un un_neg (pv 3)))) pss_nil)
      (pss_cons (ps_fld (pv 0) (pe_op op_fdivG (pv 1) (pv 3)) rfl)
      (pss_one (ps_fld (pv 0) (pe_op op_fdivG (pv 2) (pv 3)) rfl))))), ?_⟩
    refine ⟨_, rfl, t, rfl, true, rfl, ?_⟩
    refine iteF ?_
    refine ⟨_, rfl, b, rfl, true, rfl, ?_⟩
    refine iteF ?_
    refine ⟨_, rfl, rfl, _, rfl, ?_⟩
    rw [dint_ne hb]
    refine iteF ?_
    refine ⟨_, rfl, t, rfl, _, rfl, b, rfl, t.natAbs, b.natAbs, by rw [abs_nat, abs_nat]; rfl, ?_⟩
    have hg0 : 0 < Nat.gcd t.natAbs b.natAbs := gcd_ne hb rfl
    have hgl : Nat.gcd t.natAbs b.natAbs ≤ b.natAbs := gcd_le hb rfl
    have hn : ∀ s : Int, s = (if b < 0 then -((Nat.gcd t.natAbs b.natAbs : Nat) : Int) else ((Nat.gcd t.natAbs b.natAbs : Nat) : Int)) → CDivG t s ∧ CDivG b s ∧ t.fdiv s = (Rat.divInt t b).num ∧ b.fdiv s = ((Rat.divInt t b).den : Int) := fun s e => by
      have h1 : s ≠ 0 := by rw [e]; split <;> omega
      have h2 : s.natAbs = Nat.gcd t.natAbs b.natAbs := by rw [e]; split <;> omega
      have h3 : s.natAbs.log2 < 9000 := log2_lt (by decide) (by rw [h2]; exact Nat.lt_of_le_of_lt hgl hbd)
      exact ⟨⟨h1, h3⟩, ⟨h1, h3⟩, by rw [e]; exact make_num hb rfl, by rw [e]; exact make_den hb rfl⟩
    refine ⟨_, rfl, _, _, rfl, rfl, _, rfl, ?_⟩
    have fin : ∀ s : Int, s = (if b < 0 then -((Nat.gcd t.natAbs b.natAbs : Nat) : Int) else ((Nat.gcd t.natAbs b.natAbs : Nat) : Int)) →
        (tSeq (sFld K (tVar 0) (tOp (rI CDivG fun i j => .int (i.fdiv j)) (tVar 1) (tVar 3)) "own_top") (sFld K (tVar 0) (tOp (rI CDivG fun i j => .int (i.fdiv j)) (tVar 2) (tVar 3)) "own_bottom")) { nx := fun _ H' => Q .non H', rt := Q }
          [some (.ref p), some (.int t), some (.int b), some (.int s)] H := fun s e => by
      obtain ⟨c1, c2, e1, e2⟩ := hn s e
      refine ⟨_, rfl, _, rfl, _, _, rfl, rfl, c1, _, rfl, p, A.c_Number, dx, [], rfl, hp, T.cl_Number, T.n_Number_own_top, (by decide), ?_⟩
      refine ⟨_, rfl, _, rfl, _, _, rfl, rfl, c2, _, rfl, p, A.c_Number, dx, _, rfl, upd_same, T.cl_Number, T.n_Number_own_bottom, (by show 1 < 1000; decide), ?_⟩
      dsimp only
      rw [upd_upd, e1, e2, nf_put]
      exact k
    refine ite2 (fun hlt => ?_) (fun hlt => ?_)
    · refine ⟨_, rfl, _, rfl, ?_⟩
      exact fin _ (by rw [if_pos (of_decide_eq_true hlt)])
    · exact fin _ (by rw [if_neg fun z => hlt (decide_eq_true z)])
/-- Number(t, b), both written -/
theorem b_Number (T : Txt K mg A) : Binds K A.d_Number_init ["self", "top", "bottom"] [] := by
  obtain ⟨ds, r, b⟩ := T.F_Number_init.binds1 (ps := ["self", "top", "bottom"]) 3 1 (by simp) rfl (fun T' kV dc pm an cd ct us its hu hi => by
    match us, hu, its, hi with
    | [u1, u2, u3], _, [i1], _ => exact ⟨_, rfl, rfl⟩)
  cases r
  exact b
end
/-! ### Number's methods -/
/-- Number(t, b) gives a new number -/
theorem made_num {C : Addr} {H : Hp} {x dx : Addr} (q : Rat) (nx : H x = none) (ndx : H dx = none) :
    Same H (upd (upd (upd H dx (.own x)) x (.ins C dx [])) x (.ins C dx (nf q))) ∧ Num C (upd (upd (upd H dx (.own x)) x (.ins C dx [])) x (.ins C dx (nf q))) x q :=
  ⟨same_made nx ndx, dx, upd_same⟩
section
variable {P : Program} {w : World} {K : PySem.W.Frag} {mg : Str → Option Value} {base : Heap} {A : Ad}
theorem ok_Number_top (T : Txt K mg A) : FnOk P w K mg base CX0 1 A.f_Number_top A.d_Number_top ["self"] (getSp A.c_Number "own_top") := by
  refine T.F_Number_top.ok sc_Number_top (fun vs H Q E h => ?_) (fun cdv B outer s H vs Q E hr h => ?_)
  · obtain ⟨a, dx, fs, v, rfl, _⟩ := h
    rfl
  · obtain ⟨a, dx, fs, v, rfl, e, l, k⟩ := h
    exact ⟨_, pss_one (ps_ret (pe_fld (pv 0) rfl)), _, rfl, a, _, dx, fs, v, rfl, e, T.cl_Number, T.n_Number_own_top, l, k⟩
end
section
variable {P : Program} {w : World} {K : PySem.W.Frag} {mg : Str → Option Value} {base : Heap} {A : Ad}
theorem ok_Number_bottom (T : Txt K mg A) : FnOk P w K mg base CX0 1 A.f_Number_bottom A.d_Number_bottom ["self"] (getSp A.c_Number "own_bottom") := by
  refine T.F_Number_bottom.ok sc_Number_bottom (fun vs H Q E h => ?_) (fun cdv B outer s H vs Q E hr h => ?_)
  · obtain ⟨a, dx, fs, v, rfl, _⟩ := h
    rfl
  · obtain ⟨a, dx, fs, v, rfl, e, l, k⟩ := h
    exact ⟨_, pss_one (ps_ret (pe_fld (pv 0) rfl)), _, rfl, a, _, dx, fs, v, rfl, e, T.cl_Number, T.n_Number_own_bottom, l, k⟩
end
section
variable {P : Program} {w : World} {K : PySem.W.Frag} {mg : Str → Option Value} {base : Heap} {A : Ad}
/-- == of two numbers -/
def spNumEq (C : Addr) : Sp := fun vs H Q _ => ∃ (a b : Addr) (p q : Rat), vs = [.ref a, .ref b] ∧ Num C H a p ∧ Num C H b q ∧ Q (.bl (decide (p = q))) H
theorem rat_eq_dec (p q : Rat) : decide (p = q) = (decide (V.int p.num = V.int q.num) && decide (V.int (p.den : Int) = V.int (q.den : Int))) := by
  by_cases h : p = q
  · subst h
    simp
  · rw [decide_eq_false h]
    by_cases h1 : p.num = q.num
    · have h2 : ¬ ((p.den : Int) = (q.den : Int)) := fun e => h (Rat.ext h1 (by omega))
      rw [dint_ne h2, Bool.and_false]
    · rw [dint_ne h1, Bool.false_and]
theorem ok_Number_eq (T : Txt K mg A) : FnOk P w K mg base CX0 1 A.f_Number_eq A.d_Number_eq ["self", "other"] (spNumEq A.c_Number) := by
  refine T.F_Number_eq.ok sc_Number_eq (fun vs H Q E h => ?_) (fun cdv B outer s H vs Q E hr h => ?_)
  · obtain ⟨a, b, p, q, rfl, _⟩ := h
    rfl
  · obtain ⟨a, b, p, q, rfl, ⟨dx, ha⟩, ⟨dy, hb⟩, k⟩ := h
    refine ⟨_, pss_one (ps_ret (pe_and (pe_callB call_isi (by rfl) T.z_isinstance (by decide +kernel) (pa_cons (pv 1) (pa_cons (pe_glob (v := .ref A.c_Number) (by rfl) T.g_Number rfl) pa_nil)))
      (pe_and (pe_cmpR op_eq (pe_fld (pv 0) rfl) (pe_fld (pv 1) rfl) (nomark _)) (pe_one (pe_cmpR op_eq (pe_fld (pv 0) rfl) (pe_fld (pv 1) rfl) (nomark _)))))), ?_⟩
    refine ⟨_, rfl, _, _, _, _, true, rfl, .own _, .base (.ins hb T.cl_Number T.ca_Number T.cn T.ct T.cm_Number), T.kit_NumNum, true, rfl, ?_⟩
    refine iteT ?_
    refine ⟨_, rfl, a, _, dx, _, _, rfl, ha, T.cl_Number, T.n_Number_own_top, nf_top p, _, rfl, b, _, dy, _, _, rfl, hb, T.cl_Number, T.n_Number_own_top, nf_top q, rfl, _, rfl, ?_⟩
    rw [rat_eq_dec] at k
    refine ite2 (fun h1 => ?_) (fun h1 => ?_)
    · rw [h1, Bool.true_and] at k
      exact ⟨_, rfl, a, _, dx, _, _, rfl, ha, T.cl_Number, T.n_Number_own_bottom, nf_bot p, _, rfl, b, _, dy, _, _, rfl, hb, T.cl_Number, T.n_Number_own_bottom, nf_bot q, rfl, k⟩
    · have h2 := Bool.eq_false_iff.mpr h1
      rw [h2, Bool.false_and] at k
      exact k
end
section
variable {P : Program} {w : World} {K : PySem.W.Frag} {mg : Str → Option Value} {base : Heap} {A : Ad}
/-- an operation of two numbers -/
def spNum2 (C : Addr) (f : Rat → Rat → Rat) : Sp := fun vs H Q _ => ∃ (a b : Addr) (p q : Rat), vs = [.ref a, .ref b] ∧ Num C H a p ∧ Num C H b q ∧ Bd 4000 p ∧ Bd 4000 q ∧
  ∀ x H', Same H H' → H x = none → Num C H' x (f p q) → Q (.ref x) H'
theorem bdw {m n : Nat} {i j : Int} (ha : i.natAbs < 2 ^ m) (hb : j.natAbs < 2 ^ n) (h0 : 0 < m := by decide) (h1 : 0 < n := by decide) (h : m + n ≤ 1000000 := by decide) : CMulW i j := wide_mul ha hb h0 h1 h
end
section
variable {P : Program} {w : World} {K : PySem.W.Frag} {mg : Str → Option Value} {base : Heap} {A : Ad}
theorem ok_Number_add (T : Txt K mg A) : FnOk P w K mg base CX0 4 A.f_Number_add A.d_Number_add ["self", "other"] (spNum2 A.c_Number (· + ·)) := by
  refine T.F_Number_add.ok sc_Number_add (fun vs H Q E h => ?_) (fun cdv B outer s H vs Q E hr h => ?_)
  · obtain ⟨a, b, p, q, rfl, _⟩ := h
    rfl
  · obtain ⟨a, b, p, q, rfl, ⟨dx, ha⟩, ⟨dy, hb⟩, bp, bq, k⟩ := h
    refine ⟨_, pss_cons (ps_set (i := 2) sc_Number_add.nd rfl (Or.inl rfl) (pe_op op_add (pe_op op_mulW (pe_fld (pv 0) rfl) (pe_fld (pv 1) rfl)) (pe_op op_mulW (pe_fld (pv 1) rfl) (pe_fld (pv 0) rfl))))
      (pss_one (ps_ret (pe_make T.M_Number (ok_Number_init T) hr rfl T.g_Number (b_Number T) .nil pass0 (pa_cons (pv 2) (pa_cons (pe_op op_mulW (pe_fld (pv 0) rfl) (pe_fld (pv 1) rfl)) pa_nil))))), ?_⟩
    refine ⟨_, rfl, a, _, dx, _, _, rfl, ha, T.cl_Number, T.n_Number_own_top, nf_top p, _, rfl, b, _, dy, _, _, rfl, hb, T.cl_Number, T.n_Number_own_bottom, nf_bot q, _, _, rfl, rfl, bdw bp.1 bq.den', ?_⟩
    refine ⟨_, rfl, b, _, dy, _, _, rfl, hb, T.cl_Number, T.n_Number_own_top, nf_top q, _, rfl, a, _, dx, _, _, rfl, ha, T.cl_Number, T.n_Number_own_bottom, nf_bot p, _, _, rfl, rfl, bdw bq.1 bp.den', _, _, rfl, rfl, ?_⟩
    refine ⟨_, rfl, _, rfl, a, _, dx, _, _, rfl, ha, T.cl_Number, T.n_Number_own_bottom, nf_bot p, _, rfl, b, _, dy, _, _, rfl, hb, T.cl_Number, T.n_Number_own_bottom, nf_bot q, _, _, rfl, rfl, bdw bp.den' bq.den', ?_⟩
    intro x dz nx ndz nex
    refine ⟨x, dz, _, _, rfl, Int.mul_ne_zero (den_ne p) (den_ne q), up_lt (imul_lt bp.den' bq.den') (by decide), upd_same, rfl, ?_⟩
    have e := made_num (C := A.c_Number) (p + q) nx ndz
    rw [← add_eq] at e
    exact k _ _ e.1 nx (by show Num _ _ _ (p + q); rw [← add_eq]; exact e.2)
end
section
variable {P : Program} {w : World} {K : PySem.W.Frag} {mg : Str → Option Value} {base : Heap} {A : Ad}
/-- the quotient by what is not 0 -/
def spNumDiv (C : Addr) : Sp := fun vs H Q _ => ∃ (a b : Addr) (p q : Rat), vs = [.ref a, .ref b] ∧ Num C H a p ∧ Num C H b q ∧ Bd 4000 p ∧ Bd 4000 q ∧ q ≠ 0 ∧
  ∀ x H', Same H H' → H x = none → Num C H' x (p / q) → Q (.ref x) H'
theorem ok_Number_divided_by (T : Txt K mg A) : FnOk P w K mg base CX0 4 A.f_Number_divided_by A.d_Number_divided_by ["self", "other"] (spNumDiv A.c_Number) := by
  refine T.F_Number_divided_by.ok sc_Number_divided_by (fun vs H Q E h => ?_) (fun cdv B outer s H vs Q E hr h => ?_)
  · obtain ⟨a, b, p, q, rfl, _⟩ := h
    rfl
  · obtain ⟨a, b, p, q, rfl, ⟨dx, ha⟩, ⟨dy, hb⟩, bp, bq, hq, k⟩ := h
    refine ⟨_, pss_cons (ps_if (pt_cmpR op_eq (pe_fld (pv 1) rfl) pe_int (nomark _)) pss_never pss_nil)
      (pss_one (ps_ret (pe_make T.M_Number (ok_Number_init T) hr rfl T.g_Number (b_Number T) .nil pass0 (pa_cons (pe_op op_mulW (pe_fld (pv 0) rfl) (pe_fld (pv 1) rfl)) (pa_cons (pe_op op_mulW (pe_fld (pv 0) rfl) (pe_fld (pv 1) rfl)) pa_nil))))), ?_⟩
    refine ⟨_, rfl, b, _, dy, _, _, rfl, hb, T.cl_Number, T.n_Number_own_top, nf_top q, rfl, _, rfl, ?_⟩
    rw [dint_ne (num_ne hq)]
    refine iteF ?_
    refine ⟨_, rfl, a, _, dx, _, _, rfl, ha, T.cl_Number, T.n_Number_own_top, nf_top p, _, rfl, b, _, dy, _, _, rfl, hb, T.cl_Number, T.n_Number_own_bottom, nf_bot q, _, _, rfl, rfl, bdw bp.1 bq.den', ?_⟩
    refine ⟨_, rfl, a, _, dx, _, _, rfl, ha, T.cl_Number, T.n_Number_own_bottom, nf_bot p, _, rfl, b, _, dy, _, _, rfl, hb, T.cl_Number, T.n_Number_own_top, nf_top q, _, _, rfl, rfl, bdw bp.den' bq.1, ?_⟩
    intro x dz nx ndz nex
    refine ⟨x, dz, _, _, rfl, Int.mul_ne_zero (den_ne p) (num_ne hq), up_lt (imul_lt bp.den' bq.1) (by decide), upd_same, rfl, ?_⟩
    have e := made_num (C := A.c_Number) (p / q) nx ndz
    rw [← div_eq] at e
    exact k _ _ e.1 nx (by rw [← div_eq]; exact e.2)
end
/-! ### Number: is_less; Number(t) -/
theorem less_eq (p q : Rat) : decide (p.num * (q.den : Int) < q.num * (p.den : Int)) = decide (p < q) := decide_eq_decide.mpr (Rat.lt_iff p q).symm
section
variable {P : Program} {w : World} {K : PySem.W.Frag} {mg : Str → Option Value} {base : Heap} {A : Ad}
def spNumLess (C : Addr) : Sp := fun vs H Q _ => ∃ (a b : Addr) (p q : Rat), vs = [.ref a, .ref b] ∧ Num C H a p ∧ Num C H b q ∧ Bd 8000 p ∧ Bd 8000 q ∧ Q (.bl (decide (p < q))) H
theorem ok_Number_is_less (T : Txt K mg A) : FnOk P w K mg base CX0 1 A.f_Number_is_less A.d_Number_is_less ["self", "other"] (spNumLess A.c_Number) := by
  refine T.F_Number_is_less.ok sc_Number_is_less (fun vs H Q E h => ?_) (fun cdv B outer s H vs Q E hr h => ?_)
  · obtain ⟨a, b, p, q, rfl, _⟩ := h
    rfl
  · obtain ⟨a, b, p, q, rfl, ⟨dx, ha⟩, ⟨dy, hb⟩, bp, bq, k⟩ := h
    refine ⟨_, pss_one (ps_ret (pe_cmpR op_lt (pe_op op_mulW (pe_fld (pv 0) rfl) (pe_fld (pv 1) rfl)) (pe_op op_mulW (pe_fld (pv 1) rfl) (pe_fld (pv 0) rfl)) (nomark _))), ?_⟩
    refine ⟨_, rfl, a, _, dx, _, _, rfl, ha, T.cl_Number, T.n_Number_own_top, nf_top p, _, rfl, b, _, dy, _, _, rfl, hb, T.cl_Number, T.n_Number_own_bottom, nf_bot q, _, _, rfl, rfl, bdw bp.1 bq.den', ?_⟩
    refine ⟨_, rfl, b, _, dy, _, _, rfl, hb, T.cl_Number, T.n_Number_own_top, nf_top q, _, rfl, a, _, dx, _, _, rfl, ha, T.cl_Number, T.n_Number_own_bottom, nf_bot p, _, _, rfl, rfl, bdw bq.1 bp.den', _, _, rfl, rfl, ?_⟩
    show Q (.bl (decide (_ < _))) H
    rw [less_eq]
    exact k
/-- Number(t) -/
theorem b1_Number (T : Txt K mg A) : ∃ ds, Vals [V.int 1] ds ∧ Binds K A.d_Number_init ["self", "top", "bottom"] ds := by
  obtain ⟨ds, r, b⟩ := T.F_Number_init.binds1 (ps := ["self", "top", "bottom"]) 2 0 (by simp) rfl (fun T' kV dc pm an cd ct us its hu hi => by
    match us, hu, its, hi with
    | [u1, u2], _, [i1], _ => exact ⟨_, rfl, rfl⟩)
  exact ⟨ds, r, b⟩
end
/-! ### draws -/
/-- a pot at p, of which n numbers at most were drawn behind its own digits -/
def Pot (H : Hp) (p : Addr) (n : Nat) : Prop := ∃ own mix c : Int, H p = some (.lst [.int own, .int mix, .int c]) ∧ 0 ≤ own ∧ 0 ≤ mix ∧ mix < 2305843009213693921 ∧ 0 ≤ c ∧ c ≤ n
theorem Pot.mono {H : Hp} {p : Addr} {m n : Nat} (h : Pot H p m) (l : m ≤ n) : Pot H p n := by
  obtain ⟨own, mix, c, e, h1, h2, h3, h4, h5⟩ := h
  exact ⟨own, mix, c, e, h1, h2, h3, h4, by omega⟩
theorem Pot.same {H H' : Hp} {p : Addr} {n : Nat} (h : Pot H p n) (s : Same H H') : Pot H' p n := by
  obtain ⟨own, mix, c, e, h⟩ := h
  exact ⟨own, mix, c, s _ _ e, h⟩
/-- all but what stands at p is as it was -/
def SameBut (p : Addr) (H H' : Hp) : Prop := ∀ b o, H b = some o → b ≠ p → H' b = some o
theorem SameBut.refl (p : Addr) (H : Hp) : SameBut p H H := fun _ _ e _ => e
theorem SameBut.trans {p : Addr} {H H1 H2 : Hp} (a : SameBut p H H1) (b : SameBut p H1 H2) : SameBut p H H2 := fun c o e n => b c o (a c o e n) n
theorem SameBut.same {p : Addr} {H H1 H2 : Hp} (a : SameBut p H H1) (b : Same H1 H2) : SameBut p H H2 := fun c o e n => b c o (a c o e n)
theorem Same.but {H H1 : Hp} (p : Addr) (b : Same H H1) : SameBut p H H1 := fun c o e _ => b c o e
theorem but_upd {p : Addr} {H : Hp} {o : HO} : SameBut p H (upd H p o) := fun c u e n => by rw [upd_ne n]; exact e
theorem Num.but {C p : Addr} {H H' : Hp} {a : Addr} {q : Rat} (h : Num C H a q) (s : SameBut p H H') (hp : ∃ xs, H p = some (.lst xs)) : Num C H' a q := by
  obtain ⟨dx, e⟩ := h
  obtain ⟨xs, ep⟩ := hp
  exact ⟨dx, s _ _ e (ne_of e ep (by intro z; cases z))⟩
theorem tup_but {p a : Addr} {H H' : Hp} {ys : List V} (h : H a = some (.tup ys)) (s : SameBut p H H') (hp : ∃ xs, H p = some (.lst xs)) : H' a = some (.tup ys) := by
  obtain ⟨xs, ep⟩ := hp
  exact s _ _ h (ne_of h ep (by intro z; cases z))
theorem Pot.lst {H : Hp} {p : Addr} {n : Nat} (h : Pot H p n) : ∃ xs, H p = some (.lst xs) := by
  obtain ⟨own, mix, c, e, _⟩ := h
  exact ⟨_, e⟩
theorem prime_at (c : Int) (h : 0 ≤ c) : ∃ q : Int, atI [V.int 2147483647, V.int 2147483629, V.int 2147483587, V.int 2147483579, V.int 2147483563] (c % 5) = some (.int q) ∧ 0 < q ∧ q < 2 ^ 32 := by
  have h1 := Int.emod_nonneg c (show (5 : Int) ≠ 0 by decide)
  have h2 := Int.emod_lt_of_pos c (show (0 : Int) < 5 by decide)
  have h3 : c % 5 = 0 ∨ c % 5 = 1 ∨ c % 5 = 2 ∨ c % 5 = 3 ∨ c % 5 = 4 := by omega
  rcases h3 with e | e | e | e | e <;> rw [e]
  · exact ⟨_, rfl, by decide, by decide⟩
  · exact ⟨_, rfl, by decide, by decide⟩
  · exact ⟨_, rfl, by decide, by decide⟩
  · exact ⟨_, rfl, by decide, by decide⟩
  · exact ⟨_, rfl, by decide, by decide⟩
theorem at_mem {α : Type} {xs : List α} {i : Int} (h0 : 0 ≤ i) (h1 : i < xs.length) : ∃ v, atI xs i = some v ∧ v ∈ xs := by
  have hl : i.toNat < xs.length := by omega
  have e : ((i.toNat : Nat) : Int) = i := by omega
  have h := atI_nat (xs := xs) (j := i.toNat) (v := xs[i.toNat]) (by simp [hl])
  rw [e] at h
  exact ⟨_, h, List.getElem_mem hl⟩
theorem bit_lt (c : Bool) : -(2 ^ 64) < (if c = true then (1 : Int) else 0) ∧ (if c = true then (1 : Int) else 0) < 2 ^ 64 := by cases c <;> decide
theorem bit_nn (c : Bool) : 0 ≤ (if c = true then (1 : Int) else 0) := by cases c <;> decide
/-- the answer is an int, whichever way -/
theorem with_int {Q : VK} {te : TE} {σ : L2.St} {H : Hp} (h : (∀ i : Int, Q (.int i) H) → te σ H Q) (hq : ∀ i : Int, Q (.int i) H) : te σ H Q := h hq
theorem SameBut.free {p x : Addr} {H H' : Hp} (a : SameBut p H H') (hp : ∃ xs, H p = some (.lst xs)) (hq : ∃ xs, H' p = some (.lst xs)) (h : H' x = none) : H x = none := by
  cases e : H x with
  | none => rfl
  | some o =>
    by_cases n : x = p
    · obtain ⟨xs, ex⟩ := hq
      rw [n, ex] at h
      cases h
    · rw [a x o e n] at h
      cases h
section
variable {P : Program} {w : World} {K : PySem.W.Frag} {mg : Str → Option Value} {base : Heap} {A : Ad}
/-- _law_pot(script, k) -/
def spPot (K : PySem.W.Frag) : Sp := fun vs H Q _ => ∃ (a : Addr) (ns : List Int) (k : Int), vs = [.ref a, .int k] ∧ SqL K H a (ns.map V.int) ∧ 0 ≤ k ∧ k ≤ 100 ∧ ∀ p H', Same H H' → H p = none → Pot H' p 0 → Q (.ref p) H'
theorem ok_law_pot (T : Txt K mg A) : FnOk P w K mg base CX0 1 A.f_law_pot A.d_law_pot ["script", "k"] (spPot K) := by
  refine T.F_law_pot.ok sc_law_pot (fun vs H Q E h => ?_) (fun cdv B outer s H vs Q E hr h => ?_)
  · obtain ⟨a, ns, k, rfl, _⟩ := h
    rfl
  · obtain ⟨a, ns, k, rfl, hS, k0, k1, kq⟩ := h
    refine ⟨_, pss_cons (ps_set (i := 2) sc_law_pot.nd rfl (Or.inl rfl) (pe_ifExp (pt_cmpR op_lt (pv 1) (pe_callB call_len_seq (by rfl) T.z_len (by decide +kernel) (pa_cons (pv 0) pa_nil)) (nomark _))
        (pe_callTy call_int1 (by rfl) T.z_int (by decide +kernel) (pa_cons (pe_ix ix_list (pv 0) (pv 1) (fun _ _ => rfl)) pa_nil)) (pe_op op_add (pe_op op_mul pe_int (pv 1)) pe_int)))
      (pss_cons (ps_set (i := 3) sc_law_pot.nd rfl (Or.inl rfl) (pe_op op_mul (pe_op op_mod (pe_callTy call_int1 (by rfl) T.z_int (by decide +kernel) (pa_cons (pe_callB call_abs (by rfl) T.z_abs (by decide +kernel) (pa_cons (pv 2) pa_nil)) pa_nil))
          (pe_op op_powW (pe_op op_powW pe_int pe_int) pe_int)) (pe_callTy call_int1 (by rfl) T.z_int (by decide +kernel) (pa_cons (pe_cmpR op_ge (pe_callB call_abs (by rfl) T.z_abs (by decide +kernel) (pa_cons (pv 2) pa_nil)) (pe_op op_powW pe_int pe_int) (nomark _)) pa_nil))))
      (pss_one (ps_ret (pe_lst (pa_cons (pv 3) (pa_cons (pe_op op_mod (pe_callTy call_int1 (by rfl) T.z_int (by decide +kernel) (pa_cons (pe_op op_add (pe_op op_add (pe_op op_mul (pe_op op_mod (pe_callTy call_int1 (by rfl) T.z_int (by decide +kernel) (pa_cons (pv 2) pa_nil)) pe_int) pe_int)
          (pe_op op_mul (pe_op op_mul pe_int (pv 1)) (pv 1))) pe_int) pa_nil)) pe_int) (pa_cons pe_int pa_nil))))))), ?_⟩
    refine with_int (fun rest => ?_) (fun cell => ?_)
    · refine ⟨_, rfl, _, rfl, a, _, rfl, Or.inl hS, _, _, rfl, rfl, _, rfl, ?_⟩
      refine ite2 (fun e => ?_) (fun e => ?_)
      · have hk := of_decide_eq_true e
        have hk' : k < (ns.map V.int).length := hk
        obtain ⟨v, hv, hm⟩ := at_mem (xs := ns.map V.int) k0 hk'
        obtain ⟨n, _, rfl⟩ := List.mem_map.mp hm
        exact ⟨_, rfl, _, rfl, a, _, _, _, rfl, rfl, hS, hv, Or.inl ⟨n, rfl, rest n⟩⟩
      · exact ⟨_, rfl, _, _, rfl, rfl, Or.inl (by decide), _, _, rfl, rfl, rest _⟩
    · refine ⟨_, rfl, _, rfl, Or.inl ⟨_, rfl, _, _, rfl, rfl, ⟨by decide, by decide⟩, _, _, rfl, rfl, ⟨by decide, by decide +kernel⟩, _, _, rfl, rfl, Int.pow_pos (Int.pow_pos (by decide)), ?_⟩⟩
      refine ⟨_, rfl, _, rfl, _, _, rfl, rfl, ⟨by decide, by decide⟩, _, _, rfl, rfl, Or.inr ⟨_, rfl, _, _, rfl, rfl, Or.inr (bit_lt _), ?_⟩⟩
      refine ⟨_, rfl, _, rfl, Or.inl ⟨_, rfl, _, _, rfl, rfl, (by show (0 : Int) < 2305843009213693951; decide), _, _, rfl, rfl, Or.inr (by decide), _, rfl, _, _, rfl, rfl, Or.inl (by decide), _, rfl, _, _, rfl, rfl, Or.inr ⟨by omega, by omega⟩, _, _, rfl, rfl, _, _, rfl, rfl, Or.inl ⟨_, rfl, _, _, rfl, rfl, (by show (0 : Int) < 2305843009213693921; decide), ?_⟩⟩⟩
      refine ⟨by show 3 ≤ sizeLine; decide, fun p hp => ?_⟩
      refine kq p _ (same_new hp) hp ⟨_, _, _, upd_same, ?_, Int.emod_nonneg _ (by decide), Int.emod_lt_of_pos _ (by decide), Int.le_refl _, by decide⟩
      exact Int.mul_nonneg (Int.emod_nonneg _ (Int.ne_of_gt (Int.pow_pos (Int.pow_pos (by decide))))) (bit_nn _)
end
section
variable {P : Program} {w : World} {K : PySem.W.Frag} {mg : Str → Option Value} {base : Heap} {A : Ad}
/-- _law_take(pot, upto): some number from 0 to upto - 1 -/
def spTake : Sp := fun vs H Q _ => ∃ (p : Addr) (u : Int) (n : Nat), vs = [.ref p, .int u] ∧ 0 < u ∧ u.natAbs < 2 ^ 9000 ∧ Pot H p n ∧ n ≤ 100000 ∧ ∀ r H', 0 ≤ r → r < u → Pot H' p (n + 1) → SameBut p H H' → Q (.int r) H'
theorem ok_law_take (T : Txt K mg A) : FnOk P w K mg base CX0 1 A.f_law_take A.d_law_take ["pot", "upto"] spTake := by
  refine T.F_law_take.ok sc_law_take (fun vs H Q E h => ?_) (fun cdv B outer s H vs Q E hr h => ?_)
  · obtain ⟨p, u, n, rfl, _⟩ := h
    rfl
  · obtain ⟨p, u, n, rfl, u0, u1, ⟨own, mix, c, hp, o0, m0, m1, c0, c1⟩, hn, k⟩ := h
    refine ⟨_, pss_cons (ps_if (pt_cmpR op_gt (pe_ix ix_list (pv 0) pe_int (fun _ _ => rfl)) pe_int (nomark _))
        (pss_cons (ps_set (i := 2) sc_law_take.nd rfl (Or.inl rfl) (pe_op op_mod (pe_callTy call_int1 (by rfl) T.z_int (by decide +kernel) (pa_cons (pe_ix ix_list (pv 0) pe_int (fun _ _ => rfl)) pa_nil)) (pv 1)))
        (pss_cons (ps_asg (pe_op op_fdivG (pe_ix ix_list (pv 0) pe_int (fun _ _ => rfl)) (pv 1)) (pg_sub (pv 0) pe_int set_list))
        (pss_one (ps_ret (pv 2))))) pss_nil)
      (pss_cons (ps_asg (pe_op op_add (pe_ix ix_list (pv 0) pe_int (fun _ _ => rfl)) pe_int) (pg_sub (pv 0) pe_int set_list))
      (pss_cons (ps_set (i := 3) sc_law_take.nd rfl (Or.inl rfl) (pe_ix ix_list (pe_lst (pa_cons pe_int (pa_cons pe_int (pa_cons pe_int (pa_cons pe_int (pa_cons pe_int pa_nil))))))
          (pe_op op_mod (pe_callTy call_int1 (by rfl) T.z_int (by decide +kernel) (pa_cons (pe_ix ix_list (pv 0) pe_int (fun _ _ => rfl)) pa_nil)) pe_int) (fun _ _ => rfl)))
      (pss_cons (ps_set (i := 4) sc_law_take.nd rfl (Or.inl rfl) (pe_op op_mod (pe_callTy call_int1 (by rfl) T.z_int (by decide +kernel) (pa_cons (pe_op op_pow (pe_op op_add (pe_op op_add (pe_ix ix_list (pv 0) pe_int (fun _ _ => rfl))
          (pe_op op_mul (pe_op op_mul pe_int (pe_ix ix_list (pv 0) pe_int (fun _ _ => rfl))) (pe_ix ix_list (pv 0) pe_int (fun _ _ => rfl)))) pe_int) pe_int) pa_nil)) (pv 3)))
      (pss_one (ps_ret (pe_op op_mod (pe_callTy call_int1 (by rfl) T.z_int (by decide +kernel) (pa_cons (pe_op op_fdiv (pe_op op_mul (pv 4) (pe_op op_add (pe_op op_mod (pe_callTy call_int1 (by rfl) T.z_int (by decide +kernel) (pa_cons (pv 4) pa_nil)) pe_int)
          (pe_op op_mul pe_int (pe_ix ix_list (pv 0) pe_int (fun _ _ => rfl))))) pe_int) pa_nil)) (pv 1))))))), ?_⟩
    refine ⟨_, rfl, p, _, _, _, rfl, rfl, SqL.of hp, rfl, _, _, rfl, rfl, _, rfl, ?_⟩
    refine ite2 (fun e => ?_) (fun e => ?_)
    · have ho : 0 < own := of_decide_eq_true e
      refine ⟨_, rfl, p, _, _, _, rfl, rfl, SqL.of hp, rfl, Or.inl ⟨_, rfl, _, rfl, _, _, rfl, rfl, u0, ?_⟩⟩
      refine ⟨_, rfl, p, _, _, _, rfl, rfl, SqL.of hp, rfl, _, rfl, _, _, rfl, rfl, ⟨by omega, log2_lt (by decide) u1⟩, _, rfl, ?_⟩
      refine ⟨p, _, _, 0, rfl, rfl, hp, rfl, _, rfl, ?_⟩
      refine k _ _ (Int.emod_nonneg _ (by omega)) (Int.emod_lt_of_pos _ u0) ⟨_, _, _, upd_same, ?_, m0, m1, c0, by omega⟩ but_upd
      rw [Int.fdiv_eq_ediv_of_nonneg _ (by omega)]
      exact Int.ediv_nonneg o0 (by omega)
    · refine ⟨_, rfl, p, _, _, _, rfl, rfl, SqL.of hp, rfl, _, _, rfl, rfl, _, rfl, p, _, _, 2, rfl, rfl, hp, rfl, ?_⟩
      refine ⟨by show 5 ≤ sizeLine; decide, fun l hl => ?_⟩
      have npl : p ≠ l := ne_of_none upd_same hl
      have hp1 : ∀ {o : HO}, (upd (upd H p (.lst [.int own, .int mix, .int (c + 1)])) l o) p = some (.lst [.int own, .int mix, .int (c + 1)]) := by
        intro o
        rw [upd_ne npl]
        exact upd_same
      obtain ⟨pr, e1, e2, e3⟩ := prime_at (c + 1) (by omega)
      refine ⟨_, rfl, p, _, _, _, rfl, rfl, SqL.of hp1, rfl, Or.inl ⟨_, rfl, _, _, rfl, rfl, (by show (0 : Int) < 5; decide), l, _, _, _, rfl, rfl, SqL.of upd_same, e1, ?_⟩⟩
      have hc : (c + 1) * (c + 1) ≤ 100001 * 100001 := Int.mul_le_mul (by omega) (by omega) (by omega) (by decide)
      have hc' : 0 ≤ (c + 1) * (c + 1) := Int.mul_nonneg (by omega) (by omega)
      have hcc : 99961 * (c + 1) * (c + 1) = 99961 * ((c + 1) * (c + 1)) := Int.mul_assoc _ _ _
      refine ⟨_, rfl, p, _, _, _, rfl, rfl, SqL.of hp1, rfl, _, rfl, p, _, _, _, rfl, rfl, SqL.of hp1, rfl, _, _, rfl, rfl, Or.inl (by decide), _, rfl, p, _, _, _, rfl, rfl, SqL.of hp1, rfl, _, _, rfl, rfl, Or.inr ⟨by omega, by omega⟩, _, _, rfl, rfl, _, _, rfl, rfl,
        _, _, rfl, rfl, ⟨by decide, by decide, by omega⟩, Or.inl ⟨_, rfl, _, rfl, _, _, rfl, rfl, e2, ?_⟩⟩
      have n0 := Int.emod_nonneg (((mix + 99961 * (c + 1) * (c + 1) + 47) ^ (3 : Int).toNat)) (show pr ≠ 0 by omega)
      have n1 := Int.emod_lt_of_pos (((mix + 99961 * (c + 1) * (c + 1) + 47) ^ (3 : Int).toNat)) e2
      refine ⟨_, rfl, _, rfl, Or.inl ⟨_, rfl, _, _, rfl, rfl, (by show (0 : Int) < 10009; decide), _, rfl, p, _, _, _, rfl, rfl, SqL.of hp1, rfl, _, _, rfl, rfl, Or.inl (by decide), _, _, rfl, rfl, _, _, rfl, rfl, Or.inl ⟨by omega, by omega⟩, _, _, rfl, rfl, ⟨by decide, by decide⟩,
        Or.inl ⟨_, rfl, _, rfl, _, _, rfl, rfl, u0, ?_⟩⟩⟩
      refine k _ _ (Int.emod_nonneg _ (by omega)) (Int.emod_lt_of_pos _ u0) ⟨_, _, _, hp1, o0, m0, m1, by omega, by omega⟩ fun b o eb nb => ?_
      have hb2 : (upd H p (.lst [.int own, .int mix, .int (c + 1)])) b = some o := by rw [upd_ne nb]; exact eb
      rw [upd_ne (ne_of_none hb2 hl)]
      exact hb2
end
section
variable {P : Program} {w : World} {K : PySem.W.Frag} {mg : Str → Option Value} {base : Heap} {A : Ad}
/-- _law_of(pot, some): one of a list's items -/
def spOf : Sp := fun vs H Q _ => ∃ (p l : Addr) (xs : List V) (n : Nat), vs = [.ref p, .ref l] ∧ H l = some (.lst xs) ∧ l ≠ p ∧ xs ≠ [] ∧ xs.length ≤ 1000 ∧ Pot H p n ∧ n ≤ 100000 ∧ ∀ v H', v ∈ xs → Pot H' p (n + 1) → SameBut p H H' → Q v H'
theorem ok_law_of (T : Txt K mg A) : FnOk P w K mg base CX0 2 A.f_law_of A.d_law_of ["pot", "some"] spOf := by
  refine T.F_law_of.ok sc_law_of (fun vs H Q E h => ?_) (fun cdv B outer s H vs Q E hr h => ?_)
  · obtain ⟨p, l, xs, n, rfl, _⟩ := h
    rfl
  · obtain ⟨p, l, xs, n, rfl, hl, nlp, ne, hlen, hP, hn, k⟩ := h
    refine ⟨_, pss_one (ps_ret (pe_ix ix_list (pv 1) (pe_call (ok_law_take T) hr rfl T.g_law_take T.F_law_take.kp T.b_law_take .nil pass0 (pa_cons (pv 0) (pa_cons (pe_callB call_len_seq (by rfl) T.z_len (by decide +kernel) (pa_cons (pv 1) pa_nil)) pa_nil))) (fun _ _ => rfl))), ?_⟩
    have h0 : 0 < xs.length := List.length_pos_iff.mpr ne
    refine ⟨_, rfl, _, rfl, _, rfl, l, _, rfl, Or.inl (SqL.of hl), p, _, n, rfl, (by omega), ?_, hP, hn, fun r H' r0 r1 hP' sb => ?_⟩
    · have : ((xs.length : Int)).natAbs < 2 ^ 10 := by omega
      exact up_lt this (by decide)
    · obtain ⟨v, hv, hm⟩ := at_mem r0 r1
      exact ⟨l, _, _, _, rfl, rfl, SqL.of (sb _ _ hl nlp), hv, k v H' hm hP' sb⟩
end
/-! ### the law's own fractions -/
/-- a pair of ints at r -/
structure Pr (H : Hp) (r : Addr) (t b : Int) (n : Nat) : Prop where
  at_ : H r = some (.tup [.int t, .int b])
  lt : t.natAbs < 2 ^ n
  pos : 0 < b
  lb : b.natAbs < 2 ^ n
theorem Pr.but {p r : Addr} {H H' : Hp} {t b : Int} {n : Nat} (h : Pr H r t b n) (s : SameBut p H H') (hp : ∃ xs, H p = some (.lst xs)) : Pr H' r t b n := ⟨tup_but h.at_ s hp, h.lt, h.pos, h.lb⟩
theorem Pr.same {r : Addr} {H H' : Hp} {t b : Int} {n : Nat} (h : Pr H r t b n) (s : Same H H') : Pr H' r t b n := ⟨s _ _ h.at_, h.lt, h.pos, h.lb⟩
theorem Pr.bd {r : Addr} {H : Hp} {t b : Int} {n : Nat} (h : Pr H r t b n) : Bd n (Rat.divInt t b) := Bd.mk' (Int.ne_of_gt h.pos) h.lt h.lb
def BI (n : Nat) (v : V) : Prop := ∃ t : Int, v = .int t ∧ t.natAbs < 2 ^ n
def BP (n : Nat) (v : V) : Prop := ∃ t : Int, v = .int t ∧ 0 < t ∧ t.natAbs < 2 ^ n
/-! ### one turn of the law -/
theorem same_mut {H0 H : Hp} {D : Addr} {o : HO} (s : Same H0 H) (h : H0 D = none) : Same H0 (upd H D o) := fun b u e => by
  rw [upd_ne (ne_of_none e h)]
  exact s b u e
theorem Num.upl {C D a : Addr} {H : Hp} {q : Rat} {xs : List V} {o : HO} (h : Num C H a q) (hD : H D = some (.lst xs)) : Num C (upd H D o) a q := h.but but_upd ⟨_, hD⟩
theorem memq {α : Type} {xs : List α} {i : Nat} {v : α} {R : α → Prop} (h : xs[i]? = some v) (hR : ∀ x ∈ xs, R x) : R v := hR v (List.mem_of_getElem? h)
theorem yes_of {σ : L2.St} {H : Hp} {Q : Bool → Hp → Prop} (h : Q true H) : tYes σ H Q := h
theorem get_nil {R : Prop} {j : Nat} {a : Addr} (h : ([] : List Addr)[j]? = some a) : R := by simp at h
theorem get_snoc {α : Type} {xs : List α} {y v : α} {j : Nat} (h : (xs ++ [y])[j]? = some v) : xs[j]? = some v ∨ (j = xs.length ∧ v = y) := by
  by_cases hj : j < xs.length
  · rw [List.getElem?_append_left hj] at h
    exact .inl h
  · rw [List.getElem?_append_right (by omega)] at h
    have : j - xs.length = 0 := by
      rcases Nat.eq_zero_or_pos (j - xs.length) with e | e
      · exact e
      · rw [List.getElem?_eq_none (by simpa using (show 1 ≤ j - xs.length from e))] at h
        cases h
    rw [this] at h
    exact .inr ⟨by omega, (Option.some.inj h).symm⟩
theorem get_map {xs : List Addr} {i : Nat} {v : V} (h : (xs.map V.ref)[i]? = some v) : ∃ a, xs[i]? = some a ∧ v = .ref a := by
  rw [List.getElem?_map] at h
  cases e : xs[i]? with
  | none => rw [e] at h; cases h
  | some a => rw [e] at h; exact ⟨a, rfl, (Option.some.inj h).symm⟩
theorem iteT' {c : Bool} {A B : Prop} (hc : c = true) (h : A) : if c = true then A else B := by
  rw [if_pos hc]
  exact h
theorem iteF' {c : Bool} {A B : Prop} (hc : c = false) (h : B) : if c = true then A else B := by
  rw [hc, if_neg Bool.false_ne_true]
  exact h
/-! ### whole(n) -/
section
variable {P : Program} {w : World} {K : PySem.W.Frag} {mg : Str → Option Value} {base : Heap} {A : Ad}
def spWhole (A : Ad) : Sp := fun vs H Q _ => ∃ n : Int, vs = [.int n] ∧ ∀ x H', Same H H' → H x = none → Num A.c_Number H' x (Rat.divInt n 1) → Q (.ref x) H'
theorem ok_whole (T : Txt K mg A) : FnOk P w K mg base CX0 4 A.f_whole A.d_whole ["count"] (spWhole A) := by
  refine T.F_whole.ok sc_whole (fun vs H Q E h => ?_) (fun cdv B outer s H vs Q E hr h => ?_)
  · obtain ⟨n, rfl, _⟩ := h
    rfl
  · obtain ⟨n, rfl, k⟩ := h
    have hr3 : Room 3 _ := hr.mono (by decide)
    obtain ⟨_, r1Number, b1Number⟩ := b1_Number T
    refine ⟨_, (pss_one (ps_ret (pe_make T.M_Number (ok_Number_init T) hr3 rfl T.g_Number b1Number r1Number pass0 (pa_cons (pv 0) pa_nil)))), ?_⟩
    refine ⟨_, rfl, ?_⟩
    intro x dx nx ndx nex
    refine ⟨x, dx, n, 1, rfl, by decide, up_lt (n := 9000) (show (1 : Int).natAbs < 2 ^ 1 by decide) (by decide), upd_same, rfl, ?_⟩
    exact k x _ (made_num (C := A.c_Number) (Rat.divInt n 1) nx ndx).1 nx (made_num (C := A.c_Number) (Rat.divInt n 1) nx ndx).2
end
/-! ### Stretch -/
def sf (lo hi mi : Addr) (b1 b2 : Bool) : List (Str × V) := [("own_low", .ref lo), ("own_high", .ref hi), ("includes_low", .bl b1), ("includes_high", .bl b2), ("own_middle", .ref mi)]
theorem sf_own_low (lo hi mi : Addr) (b1 b2 : Bool) : (sf lo hi mi b1 b2).lookup ("own_low" : Str) = some (.ref lo) := by
  simp [sf, List.lookup]
theorem sf_own_high (lo hi mi : Addr) (b1 b2 : Bool) : (sf lo hi mi b1 b2).lookup ("own_high" : Str) = some (.ref hi) := by
  have h0 : (("own_high" : Str) == ("own_low" : Str)) = false := by decide +kernel
  simp [sf, List.lookup, h0]
theorem sf_includes_low (lo hi mi : Addr) (b1 b2 : Bool) : (sf lo hi mi b1 b2).lookup ("includes_low" : Str) = some (.bl b1) := by
  have h0 : (("includes_low" : Str) == ("own_low" : Str)) = false := by decide +kernel
  have h1 : (("includes_low" : Str) == ("own_high" : Str)) = false := by decide +kernel
  simp [sf, List.lookup, h0, h1]
theorem sf_includes_high (lo hi mi : Addr) (b1 b2 : Bool) : (sf lo hi mi b1 b2).lookup ("includes_high" : Str) = some (.bl b2) := by
  have h0 : (("includes_high" : Str) == ("own_low" : Str)) = false := by decide +kernel
  have h1 : (("includes_high" : Str) == ("own_high" : Str)) = false := by decide +kernel
  have h2 : (("includes_high" : Str) == ("includes_low" : Str)) = false := by decide +kernel
  simp [sf, List.lookup, h0, h1, h2]
theorem sf_own_middle (lo hi mi : Addr) (b1 b2 : Bool) : (sf lo hi mi b1 b2).lookup ("own_middle" : Str) = some (.ref mi) := by
  have h0 : (("own_middle" : Str) == ("own_low" : Str)) = false := by decide +kernel
  have h1 : (("own_middle" : Str) == ("own_high" : Str)) = false := by decide +kernel
  have h2 : (("own_middle" : Str) == ("includes_low" : Str)) = false := by decide +kernel
  have h3 : (("own_middle" : Str) == ("includes_high" : Str)) = false := by decide +kernel
  simp [sf, List.lookup, h0, h1, h2, h3]
theorem sf_no (lo hi mi : Addr) (b1 b2 : Bool) {m : Str} (h : ∀ f ∈ (["own_low", "own_high", "includes_low", "includes_high", "own_middle"] : List Str), (m == f) = false) : (sf lo hi mi b1 b2).lookup m = none := by
  have h0 := h "own_low" (by simp)
  have h1 := h "own_high" (by simp)
  have h2 := h "includes_low" (by simp)
  have h3 := h "includes_high" (by simp)
  have h4 := h "own_middle" (by simp)
  simp [sf, List.lookup, h0, h1, h2, h3, h4]
theorem sf_put (lo hi mi : Addr) (b1 b2 : Bool) : (putF "own_middle" (.ref mi) (putF "includes_high" (.bl b2) (putF "includes_low" (.bl b1) (putF "own_high" (.ref hi) (putF "own_low" (.ref lo) []))))) = sf lo hi mi b1 b2 := by
  simp only [putF]
  repeat rw [if_neg (by decide +kernel)]
  rfl
/-- a stretch at a: its ends p and q, whether they belong to it -/
def Strh (A : Ad) (H : Hp) (a : Addr) (p q : Rat) (b1 b2 : Bool) : Prop := ∃ dx lo hi mi, H a = some (.ins A.c_Stretch dx (sf lo hi mi b1 b2)) ∧ Num A.c_Number H lo p ∧ Num A.c_Number H hi q ∧ Num A.c_Number H mi ((p + q) / 2)
theorem Strh.mono {A : Ad} {H H' : Hp} {a : Addr} {p q : Rat} {b1 b2 : Bool} (h : Strh A H a p q b1 b2) (s : Same H H') : Strh A H' a p q b1 b2 := by
  obtain ⟨dx, lo, hi, mi, e, h1, h2, h3⟩ := h
  exact ⟨dx, lo, hi, mi, s _ _ e, h1.mono s, h2.mono s, h3.mono s⟩
theorem num_ne_ins {C : Addr} {H : Hp} {a o D dx : Addr} {q : Rat} (h : Num C H a q) (e : H o = some (.ins D dx [])) : a ≠ o := fun z => by
  obtain ⟨dy, h⟩ := h
  rw [z, e] at h
  injection h with h
  injection h with _ _ h
  cases h
theorem Num.upn {C : Addr} {H : Hp} {a o : Addr} {q : Rat} {u : HO} (h : Num C H a q) (n : a ≠ o) : Num C (upd H o u) a q := by
  obtain ⟨dy, e⟩ := h
  exact ⟨dy, by rw [upd_ne n]; exact e⟩
theorem half_eq (p q : Rat) : (p + q) / Rat.divInt 2 1 = (p + q) / 2 := by
  rw [show Rat.divInt 2 1 = 2 by decide]
section
variable {P : Program} {w : World} {K : PySem.W.Frag} {mg : Str → Option Value} {base : Heap} {A : Ad}
def spStrI (A : Ad) : Sp := fun vs H Q _ => ∃ (o dx lo hi : Addr) (p q : Rat) (b1 b2 : Bool), vs = [.ref o, .ref lo, .ref hi, .bl b1, .bl b2] ∧ Num A.c_Number H lo p ∧ Num A.c_Number H hi q ∧ Bd 1000 p ∧ Bd 1000 q ∧ (p < q ∨ (p = q ∧ b1 = true ∧ b2 = true)) ∧
  H o = some (.ins A.c_Stretch dx []) ∧ ∀ mi H', SameBut o H H' → H' o = some (.ins A.c_Stretch dx (sf lo hi mi b1 b2)) → Num A.c_Number H' mi ((p + q) / 2) → Q .non H'
theorem ok_Stretch_init (T : Txt K mg A) : FnOk P w K mg base CX0 6 A.f_Stretch_init A.d_Stretch_init ["self", "low", "high", "has_low", "has_high"] (spStrI A) := by
  refine T.F_Stretch_init.ok sc_Stretch_init (fun vs H Q E h => ?_) (fun cdv B outer s H vs Q E hr h => ?_)
  · obtain ⟨o, dx, lo, hi, p, q, b1, b2, rfl, _⟩ := h
    rfl
  · obtain ⟨o, dx, lo, hi, p, q, b1, b2, rfl, hp, hq, bp, bq, good, ho, k⟩ := h
    have nlo := num_ne_ins hp ho
    have nhi := num_ne_ins hq ho
    have hr1 : Room 1 _ := hr.mono (by decide)
    have hr4 : Room 4 _ := hr.mono (by decide)
    refine ⟨_, (pss_cons (ps_if (PW.pt (pw_or (pt_not (pt_val (pe_callB call_isi (by rfl) T.z_isinstance (by decide +kernel) (pa_cons (pv 1) (pa_cons (pe_glob (v := .ref A.c_Number) (by rfl) T.g_Number rfl) pa_nil))))) (pw_or1 (pt_not (pt_val (pe_callB call_isi (by rfl) T.z_isinstance (by decide +kernel) (pa_cons (pv 2) (pa_cons (pe_glob (v := .ref A.c_Number) (by rfl) T.g_Number rfl) pa_nil)))))))) (pss_one ps_never) pss_nil)
      (pss_cons (ps_if (PW.pt (pw_or (pt_not (pt_val (pe_callB call_isi (by rfl) T.z_isinstance (by decide +kernel) (pa_cons (pv 3) (pa_cons (pe_bltn (v := .ty "bool") (by rfl) T.z_bool (by decide +kernel) rfl) pa_nil))))) (pw_or1 (pt_not (pt_val (pe_callB call_isi (by rfl) T.z_isinstance (by decide +kernel) (pa_cons (pv 4) (pa_cons (pe_bltn (v := .ty "bool") (by rfl) T.z_bool (by decide +kernel) rfl) pa_nil)))))))) (pss_one ps_never) pss_nil)
      (Evl.pss_cut (ps_if (PW.pt (pw_or (pt_val (pe_meth (pv 2) T.cl_Number T.m_Number_is_less (ok_Number_is_less T) hr1 T.b_Number_is_less .nil pass0 (pa_cons (pv 1) pa_nil))) (pw_or1 (PW.pt (pw_and (pt_cmpR (opOwnEq K (ok_Number_eq T) T.b_Number_eq T.m_Number_eq.at_ T.m_Number_eq.fn hr1 pass0) (pv 1) (pv 2) (nomark _)) (pw_and1 (pt_not (PW.pt (pw_and (pt_val (pv 3)) (pw_and1 (pt_val (pv 4)))))))))))) (pss_one ps_never) pss_nil)
      (pss_cons (ps_fld (pv 0) (pv 1) rfl)
      (pss_cons (ps_fld (pv 0) (pv 2) rfl)
      (pss_cons (ps_fld (pv 0) (pv 3) rfl)
      (pss_cons (ps_fld (pv 0) (pv 4) rfl)
      (pss_one (ps_fld (pv 0) (pe_meth (pe_op (op_own2 (ok_Number_add T) T.b_Number_add T.m_Number_add.at_ T.m_Number_add.fn T.sf_Number hr4 pass0) (pv 1) (pv 2)) T.cl_Number T.m_Number_divided_by (ok_Number_divided_by T) hr4 T.b_Number_divided_by .nil pass0 (pa_cons (pe_call (ok_whole T) hr4 rfl T.g_whole T.F_whole.kp T.b_whole .nil pass0 (pa_cons pe_int pa_nil)) pa_nil)) rfl))))))))), ?_⟩
    refine ⟨_, rfl, _, _, _, _, true, rfl, .own _, .base (.ins hp.choose_spec T.cl_Number T.ca_Number T.cn T.ct T.cm_Number), T.kit_NumNum, true, rfl, ?_⟩
    refine iteF' rfl ?_
    refine ⟨_, rfl, _, _, _, _, true, rfl, .own _, .base (.ins hq.choose_spec T.cl_Number T.ca_Number T.cn T.ct T.cm_Number), T.kit_NumNum, true, rfl, ?_⟩
    refine iteF' rfl ?_
    refine ⟨_, rfl, _, _, _, _, true, rfl, .ty "bool", .base (.bl _), T.kit_blbl, true, rfl, ?_⟩
    refine iteF' rfl ?_
    refine ⟨_, rfl, _, _, _, _, true, rfl, .ty "bool", .base (.bl _), T.kit_blbl, true, rfl, ?_⟩
    refine iteF' rfl ?_
    refine ⟨fun σ' H' => σ' = [some (.ref o), some (.ref lo), some (.ref hi), some (.bl b1), some (.bl b2)] ∧ H = H', ?_, ?_⟩
    · refine ⟨_, rfl, hi, _, _, rfl, hq.choose_spec, nf_no _ (by decide +kernel) (by decide +kernel), _, rfl, hi, lo, q, p, rfl, hq, hp, bq.mono (by decide), bp.mono (by decide), _, rfl, ?_⟩
      have nlt : decide (q < p) = false := decide_eq_false (by rcases good with h | ⟨h, _⟩ <;> grind)
      refine iteF' nlt ?_
      refine ⟨_, rfl, _, rfl, lo, _, _, _, rfl, hp.choose_spec, .base (.ins hq.choose_spec T.cl_Number T.ca_Number T.cn T.ct T.cm_Number), (by simp [PySem.W.notFirst]), lo, hi, p, q, rfl, hp, hq, _, rfl, ?_⟩
      refine ite2 (fun h => ?_) (fun h => ?_)
      · have h := of_decide_eq_true h
        rcases good with g | ⟨_, rfl, rfl⟩
        · grind
        · refine ⟨_, rfl, _, rfl, ?_⟩
          refine iteT' rfl ?_
          refine ⟨_, rfl, _, rfl, ?_⟩
          exact iteF' rfl ⟨rfl, rfl⟩
      · exact iteF' rfl ⟨rfl, rfl⟩
    rintro σ' H' ⟨rfl, rfl⟩
    refine ⟨_, rfl, _, rfl, o, A.c_Stretch, dx, [], rfl, ho, T.cl_Stretch, T.n_Stretch_own_low, (by decide), ?_⟩
    dsimp only
    refine ⟨_, rfl, _, rfl, o, A.c_Stretch, dx, _, rfl, upd_same, T.cl_Stretch, T.n_Stretch_own_high, (by show 1 < 1000; decide), ?_⟩
    dsimp only
    rw [upd_upd]
    refine ⟨_, rfl, _, rfl, o, A.c_Stretch, dx, _, rfl, upd_same, T.cl_Stretch, T.n_Stretch_includes_low, (by show _ < 1000; simp only [putF]; rw [if_neg (by decide +kernel)]; show 2 < 1000; decide), ?_⟩
    dsimp only
    rw [upd_upd]
    refine ⟨_, rfl, _, rfl, o, A.c_Stretch, dx, _, rfl, upd_same, T.cl_Stretch, T.n_Stretch_includes_high, (by simp only [putF]; repeat rw [if_neg (by decide +kernel)]; show 3 < 1000; decide), ?_⟩
    dsimp only
    rw [upd_upd]
    generalize hf4 : putF "includes_high" (V.bl b2) (putF "includes_low" (V.bl b1) (putF "own_high" (V.ref hi) (putF "own_low" (V.ref lo) []))) = f4
    have l4 : f4.length < 1000 := by
      rw [← hf4]
      simp only [putF]
      repeat rw [if_neg (by decide +kernel)]
      show 4 < 1000
      decide
    have sb := but_upd (p := o) (H := H) (o := .ins A.c_Stretch dx f4)
    have hp1 := hp.upn (u := .ins A.c_Stretch dx f4) nlo
    have hq1 := hq.upn (u := .ins A.c_Stretch dx f4) nhi
    have eo : (upd H o (.ins A.c_Stretch dx f4)) o = some (.ins A.c_Stretch dx f4) := upd_same
    generalize upd H o (.ins A.c_Stretch dx f4) = H1 at *
    refine ⟨_, rfl, _, rfl, lo, _, _, hi, _, _, rfl, rfl, hp1.choose_spec, hq1.choose_spec, lo, hi, p, q, rfl, hp1, hq1, bp.mono (by decide), bq.mono (by decide), fun x H2 s2 n2 h2 => ?_⟩
    refine ⟨x, _, _, rfl, h2.choose_spec, nf_no _ (by decide +kernel) (by decide +kernel), 2, rfl, fun y H3 s3 n3 h3 => ?_⟩
    have b2' : Bd 2 (Rat.divInt 2 1) := ⟨by decide, by decide⟩
    refine ⟨x, y, p + q, Rat.divInt 2 1, rfl, h2.mono s3, h3, (bp.add bq).mono (by decide), b2'.mono (by decide), by decide, fun z H4 s4 n4 h4 => ?_⟩
    have s14 := (s2.trans s3).trans s4
    refine ⟨_, rfl, o, A.c_Stretch, dx, f4, rfl, s14 _ _ eo, T.cl_Stretch, T.n_Stretch_own_middle, l4, ?_⟩
    rw [half_eq] at h4
    have nz : z ≠ o := fun e => by
      rw [e] at n4
      have q4 := (s2.trans s3) _ _ eo
      rw [n4] at q4
      cases q4
    refine k z _ ((sb.same s14).trans but_upd) ?_ (h4.upn nz)
    rw [← hf4, sf_put, upd_same]
/-- a new stretch -/
theorem made_str {H H' : Hp} {x dx lo hi mi : Addr} {p q : Rat} {b1 b2 : Bool} (nx : H x = none) (ndx : H dx = none) (sb : SameBut x (upd (upd H dx (.own x)) x (.ins A.c_Stretch dx [])) H') (e : H' x = some (.ins A.c_Stretch dx (sf lo hi mi b1 b2))) (hp : Num A.c_Number H lo p) (hq : Num A.c_Number H hi q) (hm : Num A.c_Number H' mi ((p + q) / 2)) :
    Same H H' ∧ Strh A H' x p q b1 b2 := by
  have s : Same H H' := fun b o h => sb b o (by rw [upd_ne (ne_of_none h nx), upd_ne (ne_of_none h ndx)]; exact h) (ne_of_none h nx)
  exact ⟨s, dx, lo, hi, mi, e, hp.mono s, hq.mono s, hm⟩
end
/-! ### Line -/
def lf (p q : Addr) : List (Str × V) := [("own_base", .ref p), ("own_slope", .ref q)]
theorem lf_put (p q : Addr) : putF "own_slope" (.ref q) (putF "own_base" (.ref p) []) = lf p q := by
  show (if ("own_base" : Str) = "own_slope" then [(("own_slope" : Str), V.ref q)] else (("own_base" : Str), V.ref p) :: putF "own_slope" (.ref q) []) = lf p q
  rw [if_neg (by decide +kernel)]
  rfl
theorem lf_base (p q : Addr) : (lf p q).lookup ("own_base" : Str) = some (.ref p) := by simp [lf, List.lookup]
theorem lf_slope (p q : Addr) : (lf p q).lookup ("own_slope" : Str) = some (.ref q) := by
  have : (("own_slope" : Str) == ("own_base" : Str)) = false := by decide +kernel
  simp [lf, List.lookup, this]
theorem lf_no (p q : Addr) {m : Str} (h1 : (m == ("own_base" : Str)) = false) (h2 : (m == ("own_slope" : Str)) = false) : (lf p q).lookup m = none := by simp [lf, List.lookup, h1, h2]
/-- a line at a: the numbers b and s at p and q -/
structure Lin (A : Ad) (H : Hp) (a : Addr) (b s : Rat) : Prop where
  ex : ∃ dx p q, H a = some (.ins A.c_Line dx (lf p q)) ∧ Num A.c_Number H p b ∧ Num A.c_Number H q s
theorem Lin.mono {A : Ad} {H H' : Hp} {a : Addr} {b t : Rat} (h : Lin A H a b t) (s : Same H H') : Lin A H' a b t := by
  obtain ⟨dx, p, q, e, h1, h2⟩ := h.ex
  exact ⟨dx, p, q, s _ _ e, h1.mono s, h2.mono s⟩
section
variable {P : Program} {w : World} {K : PySem.W.Frag} {mg : Str → Option Value} {base : Heap} {A : Ad}
def spLineI (C : Addr) : Sp := fun vs H Q _ => ∃ (o dx p q : Addr), vs = [.ref o, .ref p, .ref q] ∧ H o = some (.ins C dx []) ∧ Q .non (upd H o (.ins C dx (lf p q)))
theorem ok_Line_init (T : Txt K mg A) : FnOk P w K mg base CX0 1 A.f_Line_init A.d_Line_init ["self", "base", "slope"] (spLineI A.c_Line) := by
  refine T.F_Line_init.ok sc_Line_init (fun vs H Q E h => ?_) (fun cdv B outer s H vs Q E hr h => ?_)
  · obtain ⟨o, dx, p, q, rfl, _⟩ := h
    rfl
  · obtain ⟨o, dx, p, q, rfl, hp, k⟩ := h
    refine ⟨_, pss_cons (ps_fld (pv 0) (pv 1) rfl) (pss_one (ps_fld (pv 0) (pv 2) rfl)), ?_⟩
    refine ⟨_, rfl, _, rfl, o, A.c_Line, dx, [], rfl, hp, T.cl_Line, T.n_Line_own_base, (by decide), ?_⟩
    refine ⟨_, rfl, _, rfl, o, A.c_Line, dx, _, rfl, upd_same, T.cl_Line, T.n_Line_own_slope, (by show 1 < 1000; decide), ?_⟩
    dsimp only
    rw [upd_upd, lf_put]
    exact k
/-- Line(p, q) gives a new line -/
theorem made_lin {H : Hp} {x dx p q : Addr} {b t : Rat} (hp : Num A.c_Number H p b) (hq : Num A.c_Number H q t) (nx : H x = none) (ndx : H dx = none) :
    Same H (upd (upd (upd H dx (.own x)) x (.ins A.c_Line dx [])) x (.ins A.c_Line dx (lf p q))) ∧ Lin A (upd (upd (upd H dx (.own x)) x (.ins A.c_Line dx [])) x (.ins A.c_Line dx (lf p q))) x b t :=
  ⟨same_made nx ndx, ⟨dx, p, q, upd_same, hp.mono (same_made nx ndx), hq.mono (same_made nx ndx)⟩⟩
end
/-! ### Stretch of any values -/
/-- what is neither a Number nor a truth -/
def Odd7 (K : PySem.W.Frag) (A : Ad) (H : Hp) (y : V) : Prop := Sm y ∧ ∀ Hh, Same H Hh → ∃ ty, TyX K Hh y ty ∧ PySem.W.kitOne K ty (.ref A.c_Number) = some false ∧ PySem.W.kitOne K ty (.type "bool") = some false
def Lo (K : PySem.W.Frag) (A : Ad) (H : Hp) (y : V) : Option Rat → Prop
  | some q => ∃ a, y = .ref a ∧ Num A.c_Number H a q ∧ Bd 900 q
  | none => Odd7 K A H y
def Tr (K : PySem.W.Frag) (A : Ad) (H : Hp) (y : V) : Option Bool → Prop
  | some b => y = .bl b
  | none => Odd7 K A H y
theorem Odd7.mono {K : PySem.W.Frag} {A : Ad} {H H' : Hp} {y : V} (h : Odd7 K A H y) (s : Same H H') : Odd7 K A H' y := ⟨h.1, fun Hh z => h.2 Hh (s.trans z)⟩
theorem Lo.mono {K : PySem.W.Frag} {A : Ad} {H H' : Hp} {y : V} : ∀ {o : Option Rat}, Lo K A H y o → Same H H' → Lo K A H' y o
  | some _, ⟨a, e, n, b⟩, s => ⟨a, e, n.mono s, b⟩
  | none, h, s => Odd7.mono h s
theorem Tr.mono {K : PySem.W.Frag} {A : Ad} {H H' : Hp} {y : V} : ∀ {o : Option Bool}, Tr K A H y o → Same H H' → Tr K A H' y o
  | some _, h, _ => h
  | none, h, s => Odd7.mono h s
theorem Lo.sm {K : PySem.W.Frag} {A : Ad} {H : Hp} {y : V} : ∀ {o : Option Rat}, Lo K A H y o → Sm y
  | some _, ⟨a, e, _⟩ => .inr ⟨a, e⟩
  | none, h => h.1
def fine : Option Rat → Option Rat → Option Bool → Option Bool → Bool
  | some p, some q, some b1, some b2 => decide (p < q) || (decide (p = q) && b1 && b2)
  | _, _, _, _ => false
theorem fine3 {o1 o2 : Option Rat} {o4 : Option Bool} : fine o1 o2 none o4 = false := by
  cases o1 <;> cases o2 <;> rfl
theorem fine4 {o1 o2 : Option Rat} {o3 : Option Bool} : fine o1 o2 o3 none = false := by
  cases o1 <;> cases o2 <;> cases o3 <;> rfl
theorem fine1 {o2 : Option Rat} {o3 o4 : Option Bool} : fine none o2 o3 o4 = false := rfl
theorem fine2 {o1 : Option Rat} {o3 o4 : Option Bool} : fine o1 none o3 o4 = false := by
  cases o1 <;> rfl
theorem same_exc {H H1 : Hp} {e dx C : Addr} {o1 o2 o3 o4 : HO} (s : Same H H1) (ne : H1 e = none) (nd : (upd H1 e o1) dx = none) (hd : dx ≠ e) : Same H (upd (del (upd (upd (upd H1 e o1) dx o2) e o3) e) dx o4) := fun b o h => by
  have h1 := s _ _ h
  have be : b ≠ e := ne_of_none h1 ne
  have bd : b ≠ dx := fun z => by
    rw [upd_ne hd, ← z, h1] at nd
    cases nd
  rw [upd_ne bd, del_ne be, upd_ne be, upd_ne bd, upd_ne be]
  exact h1
/-- the error's value -/
def BadAt (dd : Addr) (H : Hp) (v : V) : Prop := H dd = some (.xd [("value", v)])
theorem raised {R : Addr → Hp → Prop} {H : Hp} {t e dd : Addr} {xs : List V} {o1 o2 o3 : HO} (nt : H t = none) (ne : (upd H t (.tup xs)) e = none) (nd : (upd (upd H t (.tup xs)) e o1) dd = none) (hd : dd ≠ e)
    (k : ∀ dd t H', Same H H' → H' t = some (.tup xs) → BadAt dd H' (.ref t) → R dd H') : R dd (upd (del (upd (upd (upd (upd H t (.tup xs)) e o1) dd o2) e o3) e) dd (.xd [("value", .ref t)])) := by
  have het : t ≠ e := ne_of_none upd_same ne
  have hdt : t ≠ dd := fun z => by
    rw [upd_ne hd, ← z, upd_same] at nd
    cases nd
  refine k dd t _ (same_exc (C := e) (same_new nt) ne nd hd) ?_ upd_same
  rw [upd_ne hdt, del_ne het, upd_ne het, upd_ne hdt, upd_ne het, upd_same]
section
variable {P : Program} {w : World} {K : PySem.W.Frag} {mg : Str → Option Value} {base : Heap} {A : Ad}
theorem Lo.ty (T : Txt K mg A) {H : Hp} {y : V} : ∀ {o : Option Rat}, Lo K A H y o → ∃ t, TyX K H y t ∧ PySem.W.kitOne K t (.ref A.c_Number) = some o.isSome
  | some _, ⟨a, e, n, _⟩ => ⟨_, by rw [e]; exact .base (.ins n.choose_spec T.cl_Number T.ca_Number T.cn T.ct T.cm_Number), T.kit_NumNum⟩
  | none, h => by
    obtain ⟨ty, t1, t2, t3⟩ := h.2 _ (Same.refl _)
    exact ⟨_, t1, t2⟩
theorem Tr.ty (T : Txt K mg A) {H : Hp} {y : V} : ∀ {o : Option Bool}, Tr K A H y o → ∃ t, TyX K H y t ∧ PySem.W.kitOne K t (.type "bool") = some o.isSome
  | some _, h => ⟨_, by rw [show y = _ from h]; exact .base (.bl _), T.kit_blbl⟩
  | none, h => by
    obtain ⟨ty, t1, t2, t3⟩ := h.2 _ (Same.refl _)
    exact ⟨_, t1, t3⟩
def spStrX (K : PySem.W.Frag) (A : Ad) : Sp := fun vs H Q E => ∃ (o dx : Addr) (y1 y2 y3 y4 : V) (o1 o2 : Option Rat) (o3 o4 : Option Bool), vs = [.ref o, y1, y2, y3, y4] ∧ Lo K A H y1 o1 ∧ Lo K A H y2 o2 ∧ Tr K A H y3 o3 ∧ Tr K A H y4 o4 ∧ H o = some (.ins A.c_Stretch dx []) ∧
  (∀ lo hi p q b1 b2, y1 = .ref lo → y2 = .ref hi → o1 = some p → o2 = some q → o3 = some b1 → o4 = some b2 → fine (some p) (some q) (some b1) (some b2) = true → ∀ mi H', SameBut o H H' → H' o = some (.ins A.c_Stretch dx (sf lo hi mi b1 b2)) → Num A.c_Number H' mi ((p + q) / 2) → Q .non H') ∧
  (fine o1 o2 o3 o4 = false → ∀ dd t H', Same H H' → H' t = some (.tup [y1, y2]) → BadAt dd H' (.ref t) → E (.ref A.c_BadStretch) (some dd) H')
theorem ok_Stretch_initX (T : Txt K mg A) : FnOk PP w K mg base (L2.CX PP w) 6 A.f_Stretch_init A.d_Stretch_init ["self", "low", "high", "has_low", "has_high"] (spStrX K A) := by
  refine T.F_Stretch_init.ok (CX := L2.CX PP w) sc_Stretch_init (fun vs H Q E h => ?_) (fun cdv B outer s H vs Q E hr h => ?_)
  · obtain ⟨o, dx, y1, y2, y3, y4, o1, o2, o3, o4, rfl, _⟩ := h
    rfl
  · obtain ⟨o, dx, y1, y2, y3, y4, o1, o2, o3, o4, rfl, h1, h2, h3, h4, ho, k1, k2⟩ := h
    have hr1 : Room 1 _ := hr.mono (by decide)
    have hr2 : Room 2 _ := hr.mono (by decide)
    have hr4 : Room 4 _ := hr.mono (by decide)
    refine ⟨_, (pss_cons (ps_if (PW.pt (pw_or (pt_not (pt_val (pe_callB call_isi (by rfl) T.z_isinstance (by decide +kernel) (pa_cons (pv 1) (pa_cons (pe_glob (v := .ref A.c_Number) (by rfl) T.g_Number rfl) pa_nil))))) (pw_or1 (pt_not (pt_val (pe_callB call_isi (by rfl) T.z_isinstance (by decide +kernel) (pa_cons (pv 2) (pa_cons (pe_glob (v := .ref A.c_Number) (by rfl) T.g_Number rfl) pa_nil)))))))) (pss_one (ps_raise rfl (takes_of rfl rfl rfl rfl) (pmk_oex T.X_BadStretch T.in_BadStretch T.ti_BadStretch (T.I_BadStretch _ _) hr2 T.b_BadStretch_init .nil pass0 rfl T.g_BadStretch (pa_cons (pe_tup (pa_cons (pv 1) (pa_cons (pv 2) pa_nil))) pa_nil)))) pss_nil)
      (pss_cons (ps_if (PW.pt (pw_or (pt_not (pt_val (pe_callB call_isi (by rfl) T.z_isinstance (by decide +kernel) (pa_cons (pv 3) (pa_cons (pe_bltn (v := .ty "bool") (by rfl) T.z_bool (by decide +kernel) rfl) pa_nil))))) (pw_or1 (pt_not (pt_val (pe_callB call_isi (by rfl) T.z_isinstance (by decide +kernel) (pa_cons (pv 4) (pa_cons (pe_bltn (v := .ty "bool") (by rfl) T.z_bool (by decide +kernel) rfl) pa_nil)))))))) (pss_one (ps_raise rfl (takes_of rfl rfl rfl rfl) (pmk_oex T.X_BadStretch T.in_BadStretch T.ti_BadStretch (T.I_BadStretch _ _) hr2 T.b_BadStretch_init .nil pass0 rfl T.g_BadStretch (pa_cons (pe_tup (pa_cons (pv 1) (pa_cons (pv 2) pa_nil))) pa_nil)))) pss_nil)
      (Evl.pss_cut (ps_if (PW.pt (pw_or (pt_val (pe_meth (pv 2) T.cl_Number T.m_Number_is_less (ok_Number_is_less T) hr1 T.b_Number_is_less .nil pass0 (pa_cons (pv 1) pa_nil))) (pw_or1 (PW.pt (pw_and (pt_cmpR (opOwnEq K (ok_Number_eq T) T.b_Number_eq T.m_Number_eq.at_ T.m_Number_eq.fn hr1 pass0) (pv 1) (pv 2) (nomark _)) (pw_and1 (pt_not (PW.pt (pw_and (pt_val (pv 3)) (pw_and1 (pt_val (pv 4)))))))))))) (pss_one (ps_raise rfl (takes_of rfl rfl rfl rfl) (pmk_oex T.X_BadStretch T.in_BadStretch T.ti_BadStretch (T.I_BadStretch _ _) hr2 T.b_BadStretch_init .nil pass0 rfl T.g_BadStretch (pa_cons (pe_tup (pa_cons (pv 1) (pa_cons (pv 2) pa_nil))) pa_nil)))) pss_nil)
      (pss_cons (ps_fld (pv 0) (pv 1) rfl)
      (pss_cons (ps_fld (pv 0) (pv 2) rfl)
      (pss_cons (ps_fld (pv 0) (pv 3) rfl)
      (pss_cons (ps_fld (pv 0) (pv 4) rfl)
      (pss_one (ps_fld (pv 0) (pe_meth (pe_op (op_own2 (ok_Number_add T) T.b_Number_add T.m_Number_add.at_ T.m_Number_add.fn T.sf_Number hr4 pass0) (pv 1) (pv 2)) T.cl_Number T.m_Number_divided_by (ok_Number_divided_by T) hr4 T.b_Number_divided_by .nil pass0 (pa_cons (pe_call (ok_whole T) hr4 rfl T.g_whole T.F_whole.kp T.b_whole .nil pass0 (pa_cons pe_int pa_nil)) pa_nil)) rfl))))))))), ?_⟩
    obtain ⟨t1, x1, e1⟩ := h1.ty T
    refine ⟨_, rfl, _, _, _, _, _, rfl, .own _, x1, e1, _, rfl, ?_⟩
    cases o1 with
    | none =>
      refine iteT' rfl ?_
      refine ⟨_, rfl, _, rfl, (by show 2 ≤ sizeLine; decide), fun t nt => ?_⟩
      refine ⟨by show 1 ≤ 1000; decide, fun e ne => ⟨e, .ref t, rfl, upd_same, fun dd nd hd => ⟨rfl, dd, [("value", .ref t)], upd_same, by rw [upd_ne hd, upd_same], by rw [← nd, upd_ne hd], ?_⟩⟩⟩
      exact raised (R := fun dd H' => E (.ref A.c_BadStretch) (some dd) H') nt ne nd hd (k2 fine1)
    | some p =>
    refine iteF' rfl ?_
    obtain ⟨t2, x2, e2⟩ := h2.ty T
    refine ⟨_, rfl, _, _, _, _, _, rfl, .own _, x2, e2, _, rfl, ?_⟩
    cases o2 with
    | none =>
      refine iteT' rfl ?_
      refine ⟨_, rfl, _, rfl, (by show 2 ≤ sizeLine; decide), fun t nt => ?_⟩
      refine ⟨by show 1 ≤ 1000; decide, fun e ne => ⟨e, .ref t, rfl, upd_same, fun dd nd hd => ⟨rfl, dd, [("value", .ref t)], upd_same, by rw [upd_ne hd, upd_same], by rw [← nd, upd_ne hd], ?_⟩⟩⟩
      exact raised (R := fun dd H' => E (.ref A.c_BadStretch) (some dd) H') nt ne nd hd (k2 fine2)
    | some q =>
    refine iteF' rfl ?_
    obtain ⟨t3, x3, e3⟩ := h3.ty T
    refine ⟨_, rfl, _, _, _, _, _, rfl, .ty _, x3, e3, _, rfl, ?_⟩
    cases o3 with
    | none =>
      refine iteT' rfl ?_
      refine ⟨_, rfl, _, rfl, (by show 2 ≤ sizeLine; decide), fun t nt => ?_⟩
      refine ⟨by show 1 ≤ 1000; decide, fun e ne => ⟨e, .ref t, rfl, upd_same, fun dd nd hd => ⟨rfl, dd, [("value", .ref t)], upd_same, by rw [upd_ne hd, upd_same], by rw [← nd, upd_ne hd], ?_⟩⟩⟩
      exact raised (R := fun dd H' => E (.ref A.c_BadStretch) (some dd) H') nt ne nd hd (k2 fine3)
    | some b1 =>
    refine iteF' rfl ?_
    obtain ⟨t4, x4, e4⟩ := h4.ty T
    refine ⟨_, rfl, _, _, _, _, _, rfl, .ty _, x4, e4, _, rfl, ?_⟩
    cases o4 with
    | none =>
      refine iteT' rfl ?_
      refine ⟨_, rfl, _, rfl, (by show 2 ≤ sizeLine; decide), fun t nt => ?_⟩
      refine ⟨by show 1 ≤ 1000; decide, fun e ne => ⟨e, .ref t, rfl, upd_same, fun dd nd hd => ⟨rfl, dd, [("value", .ref t)], upd_same, by rw [upd_ne hd, upd_same], by rw [← nd, upd_ne hd], ?_⟩⟩⟩
      exact raised (R := fun dd H' => E (.ref A.c_BadStretch) (some dd) H') nt ne nd hd (k2 fine4)
    | some b2 =>
    refine iteF' rfl ?_
    obtain ⟨lo, rfl, hp, bp⟩ := h1
    obtain ⟨hi, rfl, hq, bq⟩ := h2
    cases (show y3 = V.bl b1 from h3)
    cases (show y4 = V.bl b2 from h4)
    have nlo := num_ne_ins hp ho
    have nhi := num_ne_ins hq ho
    refine ⟨fun σ' H' => (σ' = [some (.ref o), some (.ref lo), some (.ref hi), some (.bl b1), some (.bl b2)] ∧ H = H') ∧ fine (some p) (some q) (some b1) (some b2) = true, ?_, ?_⟩
    · refine ⟨_, rfl, hi, _, _, rfl, hq.choose_spec, nf_no _ (by decide +kernel) (by decide +kernel), _, rfl, hi, lo, q, p, rfl, hq, hp, bq.mono (by decide), bp.mono (by decide), _, rfl, ?_⟩
      refine ite2 (fun h => ?_) (fun h => ?_)
      · have h := of_decide_eq_true h
        have n1 : ¬ p < q := by grind
        have n2 : ¬ p = q := by grind
        have fz : fine (some p) (some q) (some b1) (some b2) = false := by simp [fine, n1, n2]
        refine ⟨_, rfl, _, rfl, (by show 2 ≤ sizeLine; decide), fun t nt => ?_⟩
        refine ⟨by show 1 ≤ 1000; decide, fun e ne => ⟨e, .ref t, rfl, upd_same, fun dd nd hd => ⟨rfl, dd, [("value", .ref t)], upd_same, by rw [upd_ne hd, upd_same], by rw [← nd, upd_ne hd], ?_⟩⟩⟩
        exact raised (R := fun dd H' => E (.ref A.c_BadStretch) (some dd) H') nt ne nd hd (k2 fz)
      have h : ¬ q < p := fun z => h (decide_eq_true z)
      refine ⟨_, rfl, _, rfl, lo, _, _, _, rfl, hp.choose_spec, .base (.ins hq.choose_spec T.cl_Number T.ca_Number T.cn T.ct T.cm_Number), (by simp [PySem.W.notFirst]), lo, hi, p, q, rfl, hp, hq, _, rfl, ?_⟩
      refine ite2 (fun h => ?_) (fun g => ?_)
      · have h := of_decide_eq_true h
        subst h
        have lt : ¬ p < p := by grind
        refine ⟨_, rfl, _, rfl, ?_⟩
        cases b1 with
        | false =>
          refine iteF' rfl ?_
          refine iteT' rfl ?_
          refine ⟨_, rfl, _, rfl, (by show 2 ≤ sizeLine; decide), fun t nt => ?_⟩
          refine ⟨by show 1 ≤ 1000; decide, fun e ne => ⟨e, .ref t, rfl, upd_same, fun dd nd hd => ⟨rfl, dd, [("value", .ref t)], upd_same, by rw [upd_ne hd, upd_same], by rw [← nd, upd_ne hd], ?_⟩⟩⟩
          exact raised (R := fun dd H' => E (.ref A.c_BadStretch) (some dd) H') nt ne nd hd (k2 (by simp [fine, lt]))
        | true =>
        refine iteT' rfl ?_
        refine ⟨_, rfl, _, rfl, ?_⟩
        cases b2 with
        | false =>
          refine iteT' rfl ?_
          refine ⟨_, rfl, _, rfl, (by show 2 ≤ sizeLine; decide), fun t nt => ?_⟩
          refine ⟨by show 1 ≤ 1000; decide, fun e ne => ⟨e, .ref t, rfl, upd_same, fun dd nd hd => ⟨rfl, dd, [("value", .ref t)], upd_same, by rw [upd_ne hd, upd_same], by rw [← nd, upd_ne hd], ?_⟩⟩⟩
          exact raised (R := fun dd H' => E (.ref A.c_BadStretch) (some dd) H') nt ne nd hd (k2 (by simp [fine, lt]))
        | true => exact iteF' rfl ⟨⟨rfl, rfl⟩, by simp [fine]⟩
      · have g : ¬ p = q := fun z => g (decide_eq_true z)
        have lt : p < q := by grind
        exact iteF' rfl ⟨⟨rfl, rfl⟩, by simp [fine, lt]⟩
    rintro σ' H' ⟨⟨rfl, rfl⟩, gd⟩
    refine ⟨_, rfl, _, rfl, o, A.c_Stretch, dx, [], rfl, ho, T.cl_Stretch, T.n_Stretch_own_low, (by decide), ?_⟩
    dsimp only
    refine ⟨_, rfl, _, rfl, o, A.c_Stretch, dx, _, rfl, upd_same, T.cl_Stretch, T.n_Stretch_own_high, (by show 1 < 1000; decide), ?_⟩
    dsimp only
    rw [upd_upd]
    refine ⟨_, rfl, _, rfl, o, A.c_Stretch, dx, _, rfl, upd_same, T.cl_Stretch, T.n_Stretch_includes_low, (by show _ < 1000; simp only [putF]; rw [if_neg (by decide +kernel)]; show 2 < 1000; decide), ?_⟩
    dsimp only
    rw [upd_upd]
    refine ⟨_, rfl, _, rfl, o, A.c_Stretch, dx, _, rfl, upd_same, T.cl_Stretch, T.n_Stretch_includes_high, (by simp only [putF]; repeat rw [if_neg (by decide +kernel)]; show 3 < 1000; decide), ?_⟩
    dsimp only
    rw [upd_upd]
    generalize hf4 : putF "includes_high" (V.bl b2) (putF "includes_low" (V.bl b1) (putF "own_high" (V.ref hi) (putF "own_low" (V.ref lo) []))) = f4
    have l4 : f4.length < 1000 := by
      rw [← hf4]
      simp only [putF]
      repeat rw [if_neg (by decide +kernel)]
      show 4 < 1000
      decide
    have sb := but_upd (p := o) (H := H) (o := .ins A.c_Stretch dx f4)
    have hp1 := hp.upn (u := .ins A.c_Stretch dx f4) nlo
    have hq1 := hq.upn (u := .ins A.c_Stretch dx f4) nhi
    have eo : (upd H o (.ins A.c_Stretch dx f4)) o = some (.ins A.c_Stretch dx f4) := upd_same
    generalize upd H o (.ins A.c_Stretch dx f4) = H1 at *
    refine ⟨_, rfl, _, rfl, lo, _, _, hi, _, _, rfl, rfl, hp1.choose_spec, hq1.choose_spec, lo, hi, p, q, rfl, hp1, hq1, bp.mono (by decide), bq.mono (by decide), fun x H2 s2 n2 h2 => ?_⟩
    refine ⟨x, _, _, rfl, h2.choose_spec, nf_no _ (by decide +kernel) (by decide +kernel), 2, rfl, fun y H3 s3 n3 h3 => ?_⟩
    have b2' : Bd 2 (Rat.divInt 2 1) := ⟨by decide, by decide⟩
    refine ⟨x, y, p + q, Rat.divInt 2 1, rfl, h2.mono s3, h3, (bp.add bq).mono (by decide), b2'.mono (by decide), by decide, fun z H4 s4 n4 h4 => ?_⟩
    have s14 := (s2.trans s3).trans s4
    refine ⟨_, rfl, o, A.c_Stretch, dx, f4, rfl, s14 _ _ eo, T.cl_Stretch, T.n_Stretch_own_middle, l4, ?_⟩
    rw [half_eq] at h4
    have nz : z ≠ o := fun e => by
      rw [e] at n4
      have q4 := (s2.trans s3) _ _ eo
      rw [n4] at q4
      cases q4
    refine k1 lo hi p q b1 b2 rfl rfl rfl rfl rfl rfl gd z _ ((sb.same s14).trans but_upd) ?_ (h4.upn nz)
    rw [← hf4, sf_put, upd_same]
end
/-! ### k07: the law's defs -/
theorem obj_but {p a : Addr} {H H' : Hp} {o : HO} (h : H a = some o) (s : SameBut p H H') (hp : ∃ xs, H p = some (.lst xs)) (hn : ∀ xs, o ≠ .lst xs) : H' a = some o := by
  obtain ⟨xs, ep⟩ := hp
  exact s _ _ h (ne_of h ep (hn xs))
theorem but_of {p : Addr} {H H' : Hp} (s : Same H H') : SameBut p H H' := fun b o e _ => s b o e
theorem Odd7.but {K : PySem.W.Frag} {A : Ad} {p : Addr} {H0 H H' : Hp} {y : V} (h : Odd7 K A H y) (s : Same H H') : Odd7 K A H' y := h.mono s
theorem fine_eq (p q : Rat) (b1 b2 : Bool) : fine (some p) (some q) (some b1) (some b2) = (decide (p.num * (q.den : Int) < q.num * (p.den : Int)) || (decide (p.num * (q.den : Int) = q.num * (p.den : Int)) && b1 && b2)) := by
  have h1 : (p < q) ↔ (p.num * (q.den : Int) < q.num * (p.den : Int)) := Rat.lt_iff p q
  have h2 : (p = q) ↔ (p.num * (q.den : Int) = q.num * (p.den : Int)) := Rat.eq_iff_mul_eq_mul
  show (decide (p < q) || (decide (p = q) && b1 && b2)) = _
  rw [decide_eq_decide.mpr h1, decide_eq_decide.mpr h2]
section
variable {P : Program} {w : World} {K : PySem.W.Frag} {mg : Str → Option Value} {base : Heap} {A : Ad}
theorem ok_Stretch_low (T : Txt K mg A) : FnOk P w K mg base CX0 1 A.f_Stretch_low A.d_Stretch_low ["self"] (getSp A.c_Stretch "own_low") := by
  refine T.F_Stretch_low.ok sc_Stretch_low (fun vs H Q E h => ?_) (fun cdv B outer s H vs Q E hr h => ?_)
  · obtain ⟨a, dx, fs, v, rfl, _⟩ := h
    rfl
  · obtain ⟨a, dx, fs, v, rfl, e, l, k⟩ := h
    exact ⟨_, pss_one (ps_ret (pe_fld (pv 0) rfl)), _, rfl, a, _, dx, fs, v, rfl, e, T.cl_Stretch, T.n_Stretch_own_low, l, k⟩
theorem ok_Stretch_high (T : Txt K mg A) : FnOk P w K mg base CX0 1 A.f_Stretch_high A.d_Stretch_high ["self"] (getSp A.c_Stretch "own_high") := by
  refine T.F_Stretch_high.ok sc_Stretch_high (fun vs H Q E h => ?_) (fun cdv B outer s H vs Q E hr h => ?_)
  · obtain ⟨a, dx, fs, v, rfl, _⟩ := h
    rfl
  · obtain ⟨a, dx, fs, v, rfl, e, l, k⟩ := h
    exact ⟨_, pss_one (ps_ret (pe_fld (pv 0) rfl)), _, rfl, a, _, dx, fs, v, rfl, e, T.cl_Stretch, T.n_Stretch_own_high, l, k⟩
theorem ok_Stretch_has_low (T : Txt K mg A) : FnOk P w K mg base CX0 1 A.f_Stretch_has_low A.d_Stretch_has_low ["self"] (getSp A.c_Stretch "includes_low") := by
  refine T.F_Stretch_has_low.ok sc_Stretch_has_low (fun vs H Q E h => ?_) (fun cdv B outer s H vs Q E hr h => ?_)
  · obtain ⟨a, dx, fs, v, rfl, _⟩ := h
    rfl
  · obtain ⟨a, dx, fs, v, rfl, e, l, k⟩ := h
    exact ⟨_, pss_one (ps_ret (pe_fld (pv 0) rfl)), _, rfl, a, _, dx, fs, v, rfl, e, T.cl_Stretch, T.n_Stretch_includes_low, l, k⟩
theorem ok_Stretch_has_high (T : Txt K mg A) : FnOk P w K mg base CX0 1 A.f_Stretch_has_high A.d_Stretch_has_high ["self"] (getSp A.c_Stretch "includes_high") := by
  refine T.F_Stretch_has_high.ok sc_Stretch_has_high (fun vs H Q E h => ?_) (fun cdv B outer s H vs Q E hr h => ?_)
  · obtain ⟨a, dx, fs, v, rfl, _⟩ := h
    rfl
  · obtain ⟨a, dx, fs, v, rfl, e, l, k⟩ := h
    exact ⟨_, pss_one (ps_ret (pe_fld (pv 0) rfl)), _, rfl, a, _, dx, fs, v, rfl, e, T.cl_Stretch, T.n_Stretch_includes_high, l, k⟩
theorem ok_Stretch_middle (T : Txt K mg A) : FnOk P w K mg base CX0 1 A.f_Stretch_middle A.d_Stretch_middle ["self"] (getSp A.c_Stretch "own_middle") := by
  refine T.F_Stretch_middle.ok sc_Stretch_middle (fun vs H Q E h => ?_) (fun cdv B outer s H vs Q E hr h => ?_)
  · obtain ⟨a, dx, fs, v, rfl, _⟩ := h
    rfl
  · obtain ⟨a, dx, fs, v, rfl, e, l, k⟩ := h
    exact ⟨_, pss_one (ps_ret (pe_fld (pv 0) rfl)), _, rfl, a, _, dx, fs, v, rfl, e, T.cl_Stretch, T.n_Stretch_own_middle, l, k⟩
theorem kb_Stretch_has_low_has_high (T : Txt K mg A) : KBn K A.d_Stretch_init ["self", "low", "high", "has_low", "has_high"] 3 ["has_low", "has_high"] (fun us ws => us ++ ws) (fun vs zs => vs ++ zs) := by
  obtain ⟨mv, h⟩ := T.F_Stretch_init.kbinds0 (ps := ["self", "low", "high", "has_low", "has_high"]) 3 ["has_low", "has_high"] [] (fun us _ ws => us ++ ws) (by simp) (fun q h => nomatch h) (fun r1 _ r3 => r1.append r3) (fun D doc pm an cd ct us mv ws h1 h2 h3 => by
    match us, h1, mv, h2, ws, h3 with
    | [_, _, _], _, [], _, [_, _], _ => rfl)
  exact h
theorem b2_Stretch (T : Txt K mg A) : ∃ ds, Vals [V.bl true, V.bl true] ds ∧ Binds K A.d_Stretch_init ["self", "low", "high", "has_low", "has_high"] ds := by
  obtain ⟨ds, r, b⟩ := T.F_Stretch_init.binds0 (ps := ["self", "low", "high", "has_low", "has_high"]) 3 (by simp) rfl (fun D dc pm an cd ct us ks hu hk => by
    match us, hu, ks, hk with
    | [u1, u2, u3], _, [k1, k2], _ => exact ⟨_, _, _, _, _, _, rfl, rfl, _, _, _, _, _, _, rfl, rfl, rfl⟩)
  exact ⟨ds, r, b⟩
def spDrawn7 (A : Ad) : Sp := fun vs H Q _ => ∃ (p : Addr) (c : Nat), vs = [.ref p] ∧ Pot H p c ∧ c ≤ 90000 ∧ ∀ q r H', Num A.c_Number H' r q → Bd 80 q → Pot H' p (c + 2) → SameBut p H H' → Q (.ref r) H'
theorem ok_law_drawn (T : Txt K mg A) : FnOk P w K mg base CX0 4 A.f_law_drawn A.d_law_drawn ["pot"] (spDrawn7 A) := by
  refine T.F_law_drawn.ok sc_law_drawn (fun vs H Q E h => ?_) (fun cdv B outer s H vs Q E hr h => ?_)
  · obtain ⟨p, n, rfl, _⟩ := h
    rfl
  · obtain ⟨p, n, rfl, hP, hn, k⟩ := h
    have hr1 : Room 1 _ := hr.mono (by decide)
    have hr2 : Room 2 _ := hr.mono (by decide)
    have hr3 : Room 3 _ := hr.mono (by decide)
    refine ⟨_, (pss_one (ps_ret (pe_make T.M_Number (ok_Number_init T) hr3 rfl T.g_Number (b_Number T) .nil pass0 (pa_cons (pe_op op_sub (pe_call (ok_law_take T) hr1 rfl T.g_law_take T.F_law_take.kp T.b_law_take .nil pass0 (pa_cons (pv 0) (pa_cons pe_int pa_nil))) pe_int) (pa_cons (pe_call (ok_law_of T) hr2 rfl T.g_law_of T.F_law_of.kp T.b_law_of .nil pass0 (pa_cons (pv 0) (pa_cons (pe_lst (pa_cons pe_int (pa_cons pe_int (pa_cons pe_int (pa_cons pe_int pa_nil))))) pa_nil))) pa_nil))))), ?_⟩
    refine ⟨_, rfl, p, 5, n, rfl, (by decide), up_lt (n := 9000) (show (5 : Int).natAbs < 2 ^ 8 by decide) (by decide), hP, (by omega), fun r H1 r0 r1 hP1 s1 => ?_⟩
    refine ⟨_, _, rfl, rfl, _, rfl, (by show 4 ≤ sizeLine; decide), fun l hl => ?_⟩
    obtain ⟨xs1, e1⟩ := hP1.lst
    refine ⟨p, l, _, n + 1, rfl, upd_same, (ne_of_none e1 hl).symm, by simp, by show 4 ≤ 1000; decide, hP1.same (same_new hl), (by omega), fun v H2 hv hP2 s2 => ?_⟩
    have h2 : ∀ v ∈ ([V.int 1, V.int 1, V.int 2, V.int 3] : List V), ∃ t : Int, v = .int t ∧ t ≠ 0 ∧ t.natAbs < 2 ^ 80 := by
      repeat (first | exact List.forall_mem_nil _ | refine List.forall_mem_cons.mpr ⟨⟨_, rfl, by first | decide | omega, by first | decide | omega⟩, ?_⟩)
    obtain ⟨b, rfl, hb0, hb⟩ := h2 v hv
    have ht : (r - 2).natAbs < 2 ^ 80 := by omega
    intro x dx nx ndx nex
    refine ⟨x, dx, r - 2, b, rfl, hb0, up_lt hb (by decide), upd_same, rfl, ?_⟩
    obtain ⟨s5, hx⟩ := made_num (C := A.c_Number) (Rat.divInt (r - 2) b) nx ndx
    have sb := (s1.same (same_new hl)).trans s2
    exact k _ x _ hx (Bd.mk' hb0 ht hb) (hP2.same s5) (sb.same s5)
def spOdd7 (K : PySem.W.Frag) (A : Ad) : Sp := fun vs H Q _ => ∃ (p : Addr) (c : Nat), vs = [.ref p] ∧ Pot H p c ∧ c ≤ 90000 ∧ ∀ y H', Odd7 K A H' y → Pot H' p (c + 1) → SameBut p H H' → Q y H'
theorem ok_law_odd (T : Txt K mg A) : FnOk P w K mg base CX0 4 A.f_law_odd A.d_law_odd ["pot"] (spOdd7 K A) := by
  refine T.F_law_odd.ok sc_law_odd (fun vs H Q E h => ?_) (fun cdv B outer s H vs Q E hr h => ?_)
  · obtain ⟨p, n, rfl, _⟩ := h
    rfl
  · obtain ⟨p, n, rfl, hP, hn, k⟩ := h
    have hr2 : Room 2 _ := hr.mono (by decide)
    have hr3 : Room 3 _ := hr.mono (by decide)
    obtain ⟨_, r1Number, b1Number⟩ := b1_Number T
    refine ⟨_, (pss_cons (ps_set (i := 1) sc_law_odd.nd rfl (Or.inl rfl) (pe_lst (pa_cons pe_non (pa_cons pe_int (pa_cons pe_int (pa_cons (pe_un un_neg pe_int) (pa_cons pe_str (pa_cons pe_str (pa_cons (pe_tup pa_nil) (pa_cons (pe_lst pa_nil) (pa_cons pe_dnewK (pa_cons (pe_tup (pa_cons pe_int (pa_cons pe_int pa_nil))) (pa_cons (pe_make T.M_Line (ok_Line_init T) hr2 rfl T.g_Line T.b_Line_init .nil pass0 (pa_cons (pe_make T.M_Number (ok_Number_init T) hr3 rfl T.g_Number b1Number r1Number pass0 (pa_cons pe_int pa_nil)) (pa_cons (pe_make T.M_Number (ok_Number_init T) hr3 rfl T.g_Number b1Number r1Number pass0 (pa_cons pe_int pa_nil)) pa_nil))) (pa_cons (pe_lst (pa_cons (pe_make T.M_Number (ok_Number_init T) hr3 rfl T.g_Number b1Number r1Number pass0 (pa_cons pe_int pa_nil)) pa_nil)) (pa_cons (pe_tup (pa_cons (pe_make T.M_Number (ok_Number_init T) hr3 rfl T.g_Number b1Number r1Number pass0 (pa_cons pe_int pa_nil)) pa_nil)) pa_nil)))))))))))))))
      (pss_one (ps_ret (pe_call (ok_law_of T) hr2 rfl T.g_law_of T.F_law_of.kp T.b_law_of .nil pass0 (pa_cons (pv 0) (pa_cons (pv 1) pa_nil)))))), ?_⟩
    obtain ⟨xsp, ep⟩ := hP.lst
    refine ⟨_, rfl, by show 0 ≤ sizeLine; decide, fun o1 no1 => ⟨by show 0 ≤ sizeLine; decide, fun o2 no2 => fun o3 no3 => ⟨by show 2 ≤ sizeLine; decide, fun o4 no4 => ?_⟩⟩⟩
    have z1 := same_new (o := .tup []) no1
    have z2 := same_new (o := .lst []) no2
    have z3 := same_new (o := .dK []) no3
    have z4 := same_new (o := .tup [.int 0, .int 1]) no4
    have np2 : o2 ≠ p := (ne_of_none (z1 _ _ ep) no2).symm
    have eo1 := z4 _ _ (z3 _ _ (z2 _ _ (show (upd H o1 (.tup [])) o1 = some (.tup []) from upd_same)))
    have eo2 := z4 _ _ (z3 _ _ (show (upd (upd H o1 (.tup [])) o2 (.lst [])) o2 = some (.lst []) from upd_same))
    have eo3 := z4 _ _ (show (upd (upd (upd H o1 (.tup [])) o2 (.lst [])) o3 (.dK [])) o3 = some (.dK []) from upd_same)
    have eo4 : (upd (upd (upd (upd H o1 (.tup [])) o2 (.lst [])) o3 (.dK [])) o4 (.tup [.int 0, .int 1])) o4 = some (.tup [.int 0, .int 1]) := upd_same
    have s4 := ((z1.trans z2).trans z3).trans z4
    clear z1 z2 z3 z4
    generalize upd (upd (upd (upd H o1 (.tup [])) o2 (.lst [])) o3 (.dK [])) o4 (.tup [.int 0, .int 1]) = H4 at *
    intro x dx nx ndx nex
    refine ⟨x, dx, 0, 1, rfl, by decide, up_lt (n := 9000) (show (1 : Int).natAbs < 2 ^ 1 by decide) (by decide), upd_same, rfl, ?_⟩
    obtain ⟨sx, _⟩ := made_num (C := A.c_Number) (Rat.divInt 0 1) nx ndx
    generalize upd (upd (upd H4 dx (.own x)) x (.ins A.c_Number dx [])) x (.ins A.c_Number dx (nf (Rat.divInt 0 1))) = H5 at *
    intro y dy ny ndy ney
    refine ⟨y, dy, 1, 1, rfl, by decide, up_lt (n := 9000) (show (1 : Int).natAbs < 2 ^ 1 by decide) (by decide), upd_same, rfl, ?_⟩
    obtain ⟨sy, _⟩ := made_num (C := A.c_Number) (Rat.divInt 1 1) ny ndy
    generalize upd (upd (upd H5 dy (.own y)) y (.ins A.c_Number dy [])) y (.ins A.c_Number dy (nf (Rat.divInt 1 1))) = H6 at *
    intro l dl nl ndl nel
    refine ⟨l, dl, x, y, rfl, upd_same, rfl, ?_⟩
    have sl : Same H6 (upd (upd (upd H6 dl (.own l)) l (.ins A.c_Line dl [])) l (.ins A.c_Line dl (lf x y))) := same_made nl ndl
    have el : (upd (upd (upd H6 dl (.own l)) l (.ins A.c_Line dl [])) l (.ins A.c_Line dl (lf x y))) l = some (.ins A.c_Line dl (lf x y)) := upd_same
    generalize upd (upd (upd H6 dl (.own l)) l (.ins A.c_Line dl [])) l (.ins A.c_Line dl (lf x y)) = H7 at *
    intro u du nu ndu neu
    refine ⟨u, du, 0, 1, rfl, by decide, up_lt (n := 9000) (show (1 : Int).natAbs < 2 ^ 1 by decide) (by decide), upd_same, rfl, ?_⟩
    obtain ⟨su, _⟩ := made_num (C := A.c_Number) (Rat.divInt 0 1) nu ndu
    generalize upd (upd (upd H7 du (.own u)) u (.ins A.c_Number du [])) u (.ins A.c_Number du (nf (Rat.divInt 0 1))) = H8 at *
    refine ⟨by show 1 ≤ sizeLine; decide, fun o5 no5 => ?_⟩
    have s48 := ((sx.trans sy).trans sl).trans su
    have np5 : o5 ≠ p := (ne_of_none (s48 _ _ (s4 _ _ ep)) no5).symm
    have s9 := same_new (o := .lst [.ref u]) no5
    have eo5 : (upd H8 o5 (.lst [.ref u])) o5 = some (.lst [.ref u]) := upd_same
    generalize upd H8 o5 (.lst [.ref u]) = H9 at *
    intro v dv nv ndv nev
    refine ⟨v, dv, 1, 1, rfl, by decide, up_lt (n := 9000) (show (1 : Int).natAbs < 2 ^ 1 by decide) (by decide), upd_same, rfl, ?_⟩
    obtain ⟨sv, _⟩ := made_num (C := A.c_Number) (Rat.divInt 1 1) nv ndv
    generalize upd (upd (upd H9 dv (.own v)) v (.ins A.c_Number dv [])) v (.ins A.c_Number dv (nf (Rat.divInt 1 1))) = H10 at *
    refine ⟨by show 1 ≤ sizeLine; decide, fun o6 no6 => ⟨by show 13 ≤ sizeLine; decide, fun ob nob => ?_⟩⟩
    have s11 := same_new (o := .tup [.ref v]) no6
    have eo6 : (upd H10 o6 (.tup [.ref v])) o6 = some (.tup [.ref v]) := upd_same
    generalize upd H10 o6 (.tup [.ref v]) = H11 at *
    have s12 := same_new (o := .lst [.non, .int 0, .int 1, .int (-1), .str "", .str "0", .ref o1, .ref o2, .ref o3, .ref o4, .ref l, .ref o5, .ref o6]) nob
    have s411 := ((s48.trans s9).trans sv).trans s11
    have npb : ob ≠ p := (ne_of_none (s411 _ _ (s4 _ _ ep)) nob).symm
    have eob : (upd H11 ob (.lst [.non, .int 0, .int 1, .int (-1), .str "", .str "0", .ref o1, .ref o2, .ref o3, .ref o4, .ref l, .ref o5, .ref o6])) ob = some (.lst [.non, .int 0, .int 1, .int (-1), .str "", .str "0", .ref o1, .ref o2, .ref o3, .ref o4, .ref l, .ref o5, .ref o6]) := upd_same
    generalize upd H11 ob (.lst [.non, .int 0, .int 1, .int (-1), .str "", .str "0", .ref o1, .ref o2, .ref o3, .ref o4, .ref l, .ref o5, .ref o6]) = H12 at *
    have t4 := s411.trans s12
    have t7 := (((su.trans s9).trans sv).trans s11).trans s12
    have t9 := (sv.trans s11).trans s12
    have eo1 := t4 _ _ eo1
    have eo2 := t4 _ _ eo2
    have eo3 := t4 _ _ eo3
    have eo4 := t4 _ _ eo4
    have el := t7 _ _ el
    have eo5 := t9 _ _ eo5
    have eo6 := s12 _ _ eo6
    have sH := s4.trans t4
    have hP12 := hP.same sH
    refine stT (σ' := [some (.ref p), some (.ref ob)]) rfl ?_
    refine ⟨_, rfl, _, rfl, p, ob, _, n, rfl, eob, npb, by simp, by show 13 ≤ 1000; decide, hP12, (by omega), fun w H13 hw hP13 s13 => ?_⟩
    have hl := hP12.lst
    have eo1 := obj_but eo1 s13 hl (by intro xs z; cases z)
    have eo2 := s13 _ _ eo2 np2
    have eo3 := obj_but eo3 s13 hl (by intro xs z; cases z)
    have eo4 := obj_but eo4 s13 hl (by intro xs z; cases z)
    have el := obj_but el s13 hl (by intro xs z; cases z)
    have eo5 := s13 _ _ eo5 np5
    have eo6 := obj_but eo6 s13 hl (by intro xs z; cases z)
    have odds : ∀ y ∈ ([.non, .int 0, .int 1, .int (-1), .str "", .str "0", .ref o1, .ref o2, .ref o3, .ref o4, .ref l, .ref o5, .ref o6] : List V), Odd7 K A H13 y := List.forall_mem_cons.mpr ⟨⟨.inl rfl, fun Hh z => ⟨_, .base .non, T.kit_nonNum, T.kit_nonbl⟩⟩, List.forall_mem_cons.mpr ⟨⟨.inl rfl, fun Hh z => ⟨_, .base (.int _), T.kit_intNum, T.kit_intbl⟩⟩, List.forall_mem_cons.mpr ⟨⟨.inl rfl, fun Hh z => ⟨_, .base (.int _), T.kit_intNum, T.kit_intbl⟩⟩, List.forall_mem_cons.mpr ⟨⟨.inl rfl, fun Hh z => ⟨_, .base (.int _), T.kit_intNum, T.kit_intbl⟩⟩, List.forall_mem_cons.mpr ⟨⟨.inl rfl, fun Hh z => ⟨_, .base (.str _), T.kit_strNum, T.kit_strbl⟩⟩, List.forall_mem_cons.mpr ⟨⟨.inl rfl, fun Hh z => ⟨_, .base (.str _), T.kit_strNum, T.kit_strbl⟩⟩, List.forall_mem_cons.mpr ⟨⟨.inr ⟨_, rfl⟩, fun Hh z => ⟨_, .base (.tup (z _ _ eo1)), T.kit_tupNum, T.kit_tupbl⟩⟩, List.forall_mem_cons.mpr ⟨⟨.inr ⟨_, rfl⟩, fun Hh z => ⟨_, .base (.lst (z _ _ eo2)), T.kit_lstNum, T.kit_lstbl⟩⟩, List.forall_mem_cons.mpr ⟨⟨.inr ⟨_, rfl⟩, fun Hh z => ⟨_, .base (.dK (z _ _ eo3)), T.kit_dctNum, T.kit_dctbl⟩⟩, List.forall_mem_cons.mpr ⟨⟨.inr ⟨_, rfl⟩, fun Hh z => ⟨_, .base (.tup (z _ _ eo4)), T.kit_tupNum, T.kit_tupbl⟩⟩, List.forall_mem_cons.mpr ⟨⟨.inr ⟨_, rfl⟩, fun Hh z => ⟨_, .base (.ins (z _ _ el) T.cl_Line T.ca_Line T.cn T.ct T.cm_Line), T.kit_LinNum, T.kit_Linbl⟩⟩, List.forall_mem_cons.mpr ⟨⟨.inr ⟨_, rfl⟩, fun Hh z => ⟨_, .base (.lst (z _ _ eo5)), T.kit_lstNum, T.kit_lstbl⟩⟩, List.forall_mem_cons.mpr ⟨⟨.inr ⟨_, rfl⟩, fun Hh z => ⟨_, .base (.tup (z _ _ eo6)), T.kit_tupNum, T.kit_tupbl⟩⟩, List.forall_mem_nil _⟩⟩⟩⟩⟩⟩⟩⟩⟩⟩⟩⟩⟩
    exact k w H13 (odds w hw) hP13 ((but_of sH).trans s13)
def spFine (K : PySem.W.Frag) (A : Ad) : Sp := fun vs H Q _ => ∃ (y1 y2 y3 y4 : V) (o1 o2 : Option Rat) (o3 o4 : Option Bool), vs = [y1, y2, y3, y4] ∧ Lo K A H y1 o1 ∧ Lo K A H y2 o2 ∧ Tr K A H y3 o3 ∧ Tr K A H y4 o4 ∧ Q (.bl (fine o1 o2 o3 o4)) H
theorem ok_law_is_fine (T : Txt K mg A) : FnOk P w K mg base CX0 3 A.f_law_is_fine A.d_law_is_fine ["low", "high", "is_low", "is_high"] (spFine K A) := by
  refine T.F_law_is_fine.ok sc_law_is_fine (fun vs H Q E h => ?_) (fun cdv B outer s H vs Q E hr h => ?_)
  · obtain ⟨y1, y2, y3, y4, o1, o2, o3, o4, rfl, _⟩ := h
    rfl
  · obtain ⟨y1, y2, y3, y4, o1, o2, o3, o4, rfl, h1, h2, h3, h4, k⟩ := h
    have hr2 : Room 2 _ := hr.mono (by decide)
    refine ⟨_, (pss_cons (ps_if (PW.pt (pw_or (pt_not (pt_val (pe_callB call_isi (by rfl) T.z_isinstance (by decide +kernel) (pa_cons (pv 0) (pa_cons (pe_glob (v := .ref A.c_Number) (by rfl) T.g_Number rfl) pa_nil))))) (pw_or1 (pt_not (pt_val (pe_callB call_isi (by rfl) T.z_isinstance (by decide +kernel) (pa_cons (pv 1) (pa_cons (pe_glob (v := .ref A.c_Number) (by rfl) T.g_Number rfl) pa_nil)))))))) (pss_one (ps_ret pe_bl)) pss_nil)
      (pss_cons (ps_if (PW.pt (pw_or (pt_not (pt_val (pe_callB call_isi (by rfl) T.z_isinstance (by decide +kernel) (pa_cons (pv 2) (pa_cons (pe_bltn (v := .ty "bool") (by rfl) T.z_bool (by decide +kernel) rfl) pa_nil))))) (pw_or1 (pt_not (pt_val (pe_callB call_isi (by rfl) T.z_isinstance (by decide +kernel) (pa_cons (pv 3) (pa_cons (pe_bltn (v := .ty "bool") (by rfl) T.z_bool (by decide +kernel) rfl) pa_nil)))))))) (pss_one (ps_ret pe_bl)) pss_nil)
      (pss_cons (ps_par (i := 4) (j := 5) rfl sc_law_is_fine.nd rfl rfl (by decide) rfl rfl (pa_cons (pe_op op_mulW (pe_prop (pv 0) T.cl_Number T.P_Number_top (ok_Number_top T) hr2 T.b_Number_top .nil pass0 rfl) (pe_prop (pv 1) T.cl_Number T.P_Number_bottom (ok_Number_bottom T) hr2 T.b_Number_bottom .nil pass0 rfl)) (pa_cons (pe_op op_mulW (pe_prop (pv 1) T.cl_Number T.P_Number_top (ok_Number_top T) hr2 T.b_Number_top .nil pass0 rfl) (pe_prop (pv 0) T.cl_Number T.P_Number_bottom (ok_Number_bottom T) hr2 T.b_Number_bottom .nil pass0 rfl)) pa_nil)) (by rfl))
      (pss_one (ps_ret (pe_or (pe_cmpR op_lt (pv 4) (pv 5) (nomark _)) (pe_one (pe_and (pe_cmpR op_eq (pv 4) (pv 5) (nomark _)) (pe_and (pv 2) (pe_one (pv 3))))))))))), ?_⟩
    obtain ⟨t1, x1, e1⟩ := h1.ty T
    refine ⟨_, rfl, _, _, _, _, _, rfl, .own _, x1, e1, _, rfl, ?_⟩
    cases o1 with
    | none =>
      rw [fine1] at k
      exact iteT' rfl k
    | some p =>
    refine iteF' rfl ?_
    obtain ⟨t2, x2, e2⟩ := h2.ty T
    refine ⟨_, rfl, _, _, _, _, _, rfl, .own _, x2, e2, _, rfl, ?_⟩
    cases o2 with
    | none =>
      rw [fine2] at k
      exact iteT' rfl k
    | some q =>
    refine iteF' rfl ?_
    obtain ⟨t3, x3, e3⟩ := h3.ty T
    refine ⟨_, rfl, _, _, _, _, _, rfl, .ty _, x3, e3, _, rfl, ?_⟩
    cases o3 with
    | none =>
      rw [fine3] at k
      exact iteT' rfl k
    | some b1 =>
    refine iteF' rfl ?_
    obtain ⟨t4, x4, e4⟩ := h4.ty T
    refine ⟨_, rfl, _, _, _, _, _, rfl, .ty _, x4, e4, _, rfl, ?_⟩
    cases o4 with
    | none =>
      rw [fine4] at k
      exact iteT' rfl k
    | some b2 =>
    refine iteF' rfl ?_
    obtain ⟨lo, rfl, ⟨d1, ha⟩, bp⟩ := h1
    obtain ⟨hi, rfl, ⟨d2, hb⟩, bq⟩ := h2
    cases (show y3 = V.bl b1 from h3)
    cases (show y4 = V.bl b2 from h4)
    rw [fine_eq] at k
    refine ⟨_, rfl, lo, d1, _, rfl, ha, lo, d1, _, _, rfl, ha, nf_top p, _, rfl, hi, d2, _, rfl, hb, hi, d2, _, _, rfl, hb, nf_bot q, _, _, rfl, rfl, bdw bp.1 bq.den', _, rfl, hi, d2, _, rfl, hb, hi, d2, _, _, rfl, hb, nf_top q, _, rfl, lo, d1, _, rfl, ha, lo, d1, _, _, rfl, ha, nf_bot p, _, _, rfl, rfl, bdw bq.1 bp.den', ?_⟩
    refine ⟨_, _, rfl, ?_⟩
    refine stT (σ' := [some (.ref lo), some (.ref hi), some (.bl b1), some (.bl b2), some (.int (p.num * (q.den : Int))), some (.int (q.num * (p.den : Int)))]) rfl ?_
    generalize p.num * (q.den : Int) = I at *
    generalize q.num * (p.den : Int) = J at *
    refine ⟨_, rfl, _, rfl, _, _, rfl, rfl, _, rfl, ?_⟩
    by_cases c1 : I < J
    · refine iteT' (decide_eq_true c1) ?_
      rw [decide_eq_true c1] at k
      exact k
    · refine iteF' (decide_eq_false c1) ?_
      rw [decide_eq_false c1] at k
      refine ⟨_, rfl, _, rfl, rfl, _, rfl, ?_⟩
      by_cases c2 : I = J
      · refine iteT' (dint_eq c2) ?_
        rw [decide_eq_true c2] at k
        refine ⟨_, rfl, _, rfl, ?_⟩
        cases b1 with
        | false => exact iteF' rfl k
        | true => exact iteT' rfl ⟨_, rfl, k⟩
      · refine iteF' (dint_ne c2) ?_
        rw [decide_eq_false c2] at k
        exact k
end
theorem rtT {σ σ' : L2.St} {ta : TS} {D : Ends} {H : Hp} (e : σ = σ') (h : ta D σ' H) : ta D σ H := e ▸ h
section
variable {P : Program} {w : World} {K : PySem.W.Frag} {mg : Str → Option Value} {base : Heap} {A : Ad}
def spHeard (K : PySem.W.Frag) (A : Ad) : Sp := fun vs H Q _ => ∃ (y1 y2 y3 y4 : V) (o1 o2 : Option Rat) (o3 o4 : Option Bool), vs = [y1, y2, y3, y4] ∧ Lo K A H y1 o1 ∧ Lo K A H y2 o2 ∧ Tr K A H y3 o3 ∧ Tr K A H y4 o4 ∧
  ∀ r H', Same H H' → (∀ p q b1 b2, o1 = some p → o2 = some q → o3 = some b1 → o4 = some b2 → fine (some p) (some q) (some b1) (some b2) = true → ∃ x, H' r = some (.tup [.non, .ref x]) ∧ Strh A H' x p q b1 b2) →
    (fine o1 o2 o3 o4 = false → ∃ e dd t, H' r = some (.tup [.ref e, .non]) ∧ H' e = some (Cau (.ref A.c_BadStretch) (some dd) e) ∧ BadAt dd H' (.ref t) ∧ H' t = some (.tup [y1, y2])) → Q (.ref r) H'
theorem ok_law_heard (T : Txt K mg A) : FnOk PP w K mg base CX0 8 A.f_law_heard A.d_law_heard ["low", "high", "is_low", "is_high"] (spHeard K A) := by
  refine T.F_law_heard.ok sc_law_heard (fun vs H Q E h => ?_) (fun cdv B outer s H vs Q E hr h => ?_)
  · obtain ⟨y1, y2, y3, y4, o1, o2, o3, o4, rfl, _⟩ := h
    rfl
  · obtain ⟨y1, y2, y3, y4, o1, o2, o3, o4, rfl, h1, h2, h3, h4, k⟩ := h
    have hr7 : Room 7 _ := hr.mono (by decide)
    refine ⟨_, (pss_cons (ps_asg (pe_tup (pa_cons pe_non (pa_cons pe_non pa_nil))) (pgTup K 2 rfl (pgs_cons (pg_name (i := 4) sc_law_heard.nd rfl (Or.inl rfl)) (pgs_cons (pg_name (i := 5) sc_law_heard.nd rfl (Or.inl rfl)) pgs_nil))))
      (pss_cons (ps_try_keep (i := 6) rfl rfl rfl sc_law_heard.nd rfl rfl ⟨rfl, by decide, .inl T.g_SpeedError⟩ takes0
        (fun W pn xe tk _ => pss_one (ps_set (i := 5) sc_law_heard.nd rfl (Or.inl rfl) (pe_makeKS T.M_Stretch (ok_Stretch_initX T) hr7 rfl T.g_Stretch (kb_Stretch_has_low_has_high T) (fun σ => passAt tk σ) (pa_cons (pv 0) (pa_cons (pv 1) pa_nil)) (pk_cons (pv 2) (pk_cons (pv 3) pk_nil)))))
        (fun a oe pn => pss_one (ps_set (i := 4) sc_law_heard.nd rfl (Or.inl rfl) (pv 6))))
      (pss_one (ps_ret (pe_tup (pa_cons (pv 4) (pa_cons (pv 5) pa_nil))))))), ?_⟩
    refine ⟨by show 2 ≤ sizeLine; decide, fun n0 nn0 => ⟨n0, _, rfl, SqT.of upd_same, rfl, _, _, rfl, _, _, rfl, rfl, ?_⟩⟩
    have s0 := same_new (o := .tup [.non, .non]) nn0
    have h1 := h1.mono s0
    have h2 := h2.mono s0
    have h3 := h3.mono s0
    have h4 := h4.mono s0
    generalize upd H n0 (.tup [.non, .non]) = H0 at *
    refine stT (σ' := [some y1, some y2, some y3, some y4, some .non, some .non, none]) rfl ?_
    refine ⟨_, rfl, _, rfl, _, rfl, _, rfl, rfl, rfl, fun x dx nx ndx nex => ?_⟩
    have sx : Same H0 (upd (upd H0 dx (.own x)) x (.ins A.c_Stretch dx [])) := fun c u e => by
      rw [upd_ne (ne_of_none e nx), upd_ne (ne_of_none e ndx)]
      exact e
    refine ⟨x, dx, y1, y2, y3, y4, o1, o2, o3, o4, rfl, h1.mono sx, h2.mono sx, h3.mono sx, h4.mono sx, upd_same, fun lo hi p q b1 b2 e1 e2 f1 f2 f3 f4 gd mi H1 sb e hm => ⟨rfl, ?_⟩, fun fz dd t H1 s1 et ed => ?_⟩
    · subst e1 e2 f1 f2 f3 f4
      obtain ⟨lo', q1, hp, bp⟩ := h1
      obtain ⟨hi', q2, hq, bq⟩ := h2
      cases q1
      cases q2
      obtain ⟨s2, hs⟩ := made_str nx ndx sb e hp hq hm
      dsimp only [gName]
      refine rtT (ta := tRet _) (σ' := [some (.ref lo), some (.ref hi), some y3, some y4, some .non, some (.ref x), none]) rfl ?_
      refine ⟨_, rfl, _, rfl, by show 2 ≤ sizeLine; decide, fun r nr => ?_⟩
      have s3 := same_new (o := .tup [.non, .ref x]) nr
      refine k r _ ((s0.trans s2).trans s3) (fun p' q' c1 c2 g1 g2 g3 g4 _ => ?_) fun z => ?_
      · cases g1
        cases g2
        cases g3
        cases g4
        exact ⟨x, upd_same, hs.mono s3⟩
      · rw [gd] at z
        cases z
    · refine ⟨true, T.em_BadStretch_SpeedError, fun _ e ne => ?_, fun z => nomatch z⟩
      refine ⟨_, rfl, ?_⟩
      dsimp only [gName]
      refine rtT (ta := tRet _) (σ' := [some y1, some y2, some y3, some y4, some (.ref e), some .non, none]) rfl ?_
      have se := same_new (o := Cau (.ref A.c_BadStretch) (some dd) e) ne
      have et2 := se _ _ et
      have ed2 : BadAt dd _ _ := se _ _ ed
      have ee : (upd H1 e (Cau (.ref A.c_BadStretch) (some dd) e)) e = some (Cau (.ref A.c_BadStretch) (some dd) e) := upd_same
      generalize upd H1 e (Cau (.ref A.c_BadStretch) (some dd) e) = H2 at *
      refine ⟨_, rfl, _, rfl, by show 2 ≤ sizeLine; decide, fun r nr => ?_⟩
      have s3 := same_new (o := .tup [.ref e, .non]) nr
      refine k r _ ((((s0.trans sx).trans s1).trans se).trans s3) (fun p' q' c1 c2 g1 g2 g3 g4 z => ?_) fun _ => ⟨e, dd, t, upd_same, s3 _ _ ee, s3 _ _ ed2, s3 _ _ et2⟩
      rw [g1, g2, g3, g4, z] at fz
      cases fz
def spRefused (K : PySem.W.Frag) (A : Ad) : Sp := fun vs H Q _ => ∃ (e dd t : Addr) (y1 y2 : V) (o1 o2 : Option Rat), vs = [.ref e, y1, y2] ∧ H e = some (Cau (.ref A.c_BadStretch) (some dd) e) ∧ BadAt dd H (.ref t) ∧ H t = some (.tup [y1, y2]) ∧ Lo K A H y1 o1 ∧ Lo K A H y2 o2 ∧ ∀ H', Same H H' → Q (.bl true) H'
theorem ok_law_is_refused (T : Txt K mg A) : FnOk P w K mg base CX0 2 A.f_law_is_refused A.d_law_is_refused ["caught", "low", "high"] (spRefused K A) := by
  refine T.F_law_is_refused.ok sc_law_is_refused (fun vs H Q E h => ?_) (fun cdv B outer s H vs Q E hr h => ?_)
  · obtain ⟨e, dd, t, y1, y2, o1, o2, rfl, _⟩ := h
    rfl
  · obtain ⟨e, dd, t, y1, y2, o1, o2, rfl, ee, ed, et, h1, h2, k⟩ := h
    refine ⟨_, (pss_cons (ps_if (PW.pt (pw_or (pt_not (pt_val (pe_callB call_isC (by rfl) T.z_isinstance (by decide +kernel) (pa_cons (pv 0) (pa_cons (pe_glob (v := .ref A.c_BadStretch) (by rfl) T.g_BadStretch rfl) pa_nil)))))
          (pw_or1 (pt_val (pe_callB call_isC (by rfl) T.z_isinstance (by decide +kernel) (pa_cons (pv 0) (pa_cons (pe_glob (v := .ref A.c_BadNumber) (by rfl) T.g_BadNumber rfl) pa_nil))))))) (pss_one (ps_ret pe_bl)) pss_nil)
      (pss_cons (ps_if (PW.pt (pw_or (pt_not (pt_val (pe_callB call_isi (by rfl) T.z_isinstance (by decide +kernel) (pa_cons (pe_cauf (pv 0)) (pa_cons (pe_bltn (v := .ty "tuple") (by rfl) T.z_tuple (by decide +kernel) rfl) pa_nil)))))
          (pw_or1 (pt_cmpR op_ne (pe_callB call_len_seq (by rfl) T.z_len (by decide +kernel) (pa_cons (pe_cauf (pv 0)) pa_nil)) pe_int (nomark _))))) (pss_one (ps_ret pe_bl)) pss_nil)
      (pss_cons (ps_for PassesOwn.never rfl (RZ.pi_zipA (by rfl) T.z_zip (pa_cons (pe_cauf (pv 0)) (pa_cons (pe_tup (pa_cons (pv 1) (pa_cons (pv 2) pa_nil))) pa_nil))) (pgTup K 2 rfl (pgs_cons (pg_name (i := 3) sc_law_is_refused.nd rfl (Or.inl rfl)) (pgs_cons (pg_name (i := 4) sc_law_is_refused.nd rfl (Or.inl rfl)) pgs_nil)))
        (pss_one (ps_if (pt_cmpR op_ne (pe_callB call_isi (by rfl) T.z_isinstance (by decide +kernel) (pa_cons (pv 3) (pa_cons (pe_glob (v := .ref A.c_Number) (by rfl) T.g_Number rfl) pa_nil))) (pe_callB call_isi (by rfl) T.z_isinstance (by decide +kernel) (pa_cons (pv 4) (pa_cons (pe_glob (v := .ref A.c_Number) (by rfl) T.g_Number rfl) pa_nil))) (nomark _)) (pss_one (ps_ret pe_bl)) pss_nil)))
      (pss_one (ps_ret (pe_cmpR (opEqT (K := K) hr.units) (pe_cauf (pv 0)) (pe_tup (pa_cons (pv 1) (pa_cons (pv 2) pa_nil))) (nomark _))))))), ?_⟩
    refine ⟨_, rfl, e, _, dd, _, _, _, true, rfl, ee, ed, T.C_BadStretch, fun _ z => z, T.kit_SB, _, rfl, ?_⟩
    refine iteF' rfl ?_
    refine ⟨_, rfl, e, _, dd, _, _, _, false, rfl, ee, ed, T.C_BadStretch, fun _ z => z, T.kit_SN, _, rfl, ?_⟩
    refine iteF' rfl ?_
    refine ⟨_, rfl, e, _, dd, _, _, rfl, ee, ed, T.C_BadStretch.x, T.no_BadStretch, rfl, _, _, _, _, true, rfl, .ty _, .base (.tup et), T.kit_tuptup, _, rfl, ?_⟩
    refine iteF' rfl ?_
    refine ⟨_, rfl, e, _, dd, _, _, rfl, ee, ed, T.C_BadStretch.x, T.no_BadStretch, rfl, t, _, rfl, Or.inr (SqT.of et), rfl, _, rfl, ?_⟩
    refine iteF' (by rfl) ?_
    refine ⟨_, rfl, e, _, dd, _, _, rfl, ee, ed, T.C_BadStretch.x, T.no_BadStretch, rfl, _, rfl, _, rfl, by show 2 ≤ sizeLine; decide, fun n nn => ?_⟩
    have sn := same_new (o := .tup [y1, y2]) nn
    have en : (upd H n (.tup [y1, y2])) n = some (.tup [y1, y2]) := upd_same
    have ee := sn _ _ ee
    have ed : BadAt dd _ _ := sn _ _ ed
    have et := sn _ _ et
    have h1 := h1.mono sn
    have h2 := h2.mono sn
    generalize upd H n (.tup [y1, y2]) = H0 at *
    refine ⟨t, n, [y1, y2], [y1, y2], rfl, .inr ⟨SqT.of et, SqT.of en, RZ.for_zipT (K := K) (a := t) (b := n) (xs := [y1, y2]) (ys := [y1, y2]) rfl (fun i σ H' => ∃ v3 v4, σ = [some (.ref e), some y1, some y2, v3, v4] ∧ Same H0 H') ⟨_, _, rfl, Same.refl _⟩ (fun i σ H' hh => ?_) ?_ ?_⟩⟩
    · obtain ⟨_, _, _, z⟩ := hh
      exact ⟨SqT.of (z _ _ et), SqT.of (z _ _ en)⟩
    · rintro i u v D σ H' hu hv ⟨v3, v4, rfl, z⟩ nD
      rw [hu] at hv
      cases hv
      have zd := z.trans (same_new (o := .tup [u, u]) nD)
      obtain ⟨ty, tx, kx⟩ : ∃ ty, ∃ b, TyX K (upd H' D (.tup [u, u])) u ty ∧ PySem.W.kitOne K ty (.ref A.c_Number) = some b := by
        match i, hu with
        | 0, hu =>
          cases hu
          obtain ⟨t1, a, b⟩ := (h1.mono zd).ty T
          exact ⟨t1, _, a, b⟩
        | 1, hu =>
          cases hu
          obtain ⟨t1, a, b⟩ := (h2.mono zd).ty T
          exact ⟨t1, _, a, b⟩
      obtain ⟨tx, kx⟩ := kx
      refine ⟨_, _, rfl, SqT.of upd_same, rfl, _, _, rfl, _, _, rfl, rfl, ?_⟩
      refine ⟨_, rfl, _, _, _, _, _, rfl, .own _, tx, kx, _, rfl, _, _, _, _, _, rfl, .own _, tx, kx, rfl, _, rfl, ?_⟩
      refine iteF' (by simp) ?_
      exact ⟨_, _, rfl, zd⟩
    · rintro σ H' ⟨v3, v4, rfl, z⟩
      refine ⟨_, rfl, e, _, dd, _, _, rfl, z _ _ ee, z _ _ ed, T.C_BadStretch.x, T.no_BadStretch, rfl, _, rfl, _, rfl, by show 2 ≤ sizeLine; decide, fun m nm => ?_⟩
      have s9 := same_new (o := .tup [y1, y2]) nm
      refine ⟨t, m, _, rfl, rfl, SqT.of (s9 _ _ (z _ _ et)), SqT.of upd_same, List.forall_mem_cons.mpr ⟨h1.sm, List.forall_mem_cons.mpr ⟨h2.sm, List.forall_mem_nil _⟩⟩, k _ ((sn.trans z).trans s9)⟩
end
/-! ### k07: one turn -/
theorem half_mk (p q : Rat) : Rat.divInt (p.num * (q.den : Int) + q.num * (p.den : Int)) (2 * (p.den : Int) * (q.den : Int)) = (p + q) / 2 := by
  rw [← add_eq p q, Int.mul_assoc 2, Rat.div_def, show ((2 : Rat))⁻¹ = Rat.divInt 1 2 by decide +kernel, Rat.divInt_mul_divInt, Int.mul_one, Int.mul_comm 2]
theorem nes {d e : PyData} (h : d = e) : (!decide (V.str d.shown = V.str e.shown)) = false := by
  subst h
  simp
theorem fine_some {o1 o2 : Option Rat} {o3 o4 : Option Bool} (h : fine o1 o2 o3 o4 = true) : ∃ p q b1 b2, o1 = some p ∧ o2 = some q ∧ o3 = some b1 ∧ o4 = some b2 := by
  cases o1 <;> cases o2 <;> cases o3 <;> cases o4 <;> first | exact ⟨_, _, _, _, rfl, rfl, rfl, rfl⟩ | cases h
theorem two_bools {b1 b2 : Bool} : Shows (.list [.bool b1, .bool b2]) ((5 + 2) * 2 + 3) 2 := .list (k := 1) (List.forall_mem_cons.mpr ⟨.bool, List.forall_mem_cons.mpr ⟨.bool, List.forall_mem_nil _⟩⟩)
section
variable {P : Program} {w : World} {K : PySem.W.Frag} {mg : Str → Option Value} {base : Heap} {A : Ad}
def spRight : Sp := fun vs H Q _ => ∃ (p : Addr) (n : Nat), vs = [.ref p] ∧ Pot H p n ∧ n ≤ 80000 ∧ ∀ H', Pot H' p (n + 8) → SameBut p H H' → Q (.bl true) H'
theorem ok_law_is_right (T : Txt K mg A) : FnG PP w K mg base CX0 10 A.f_law_is_right A.d_law_is_right ["pot"] spRight := by
  refine okG T.F_law_is_right sc_law_is_right (fun vs H Q E h => ?_) (fun cdv B outer s H vs Q E hG hr h => ?_)
  · obtain ⟨p, n, rfl, _⟩ := h
    rfl
  · obtain ⟨p, c, rfl, hP, hc, k⟩ := h
    have hr1 : Room 1 _ := hr.mono (by decide)
    have hr2 : Room 2 _ := hr.mono (by decide)
    have hr3 : Room 3 _ := hr.mono (by decide)
    have hr4 : Room 4 _ := hr.mono (by decide)
    have hr8 : Room 8 _ := hr.mono (by decide)
    refine ⟨_, (pss_cons (ps_par (i := 1) (j := 2) rfl sc_law_is_right.nd rfl rfl (by decide) rfl rfl (pa_cons (pe_call (ok_law_drawn T) hr4 rfl T.g_law_drawn T.F_law_drawn.kp T.b_law_drawn .nil pass0 (pa_cons (pv 0) pa_nil)) (pa_cons (pe_call (ok_law_drawn T) hr4 rfl T.g_law_drawn T.F_law_drawn.kp T.b_law_drawn .nil pass0 (pa_cons (pv 0) pa_nil)) pa_nil)) (by rfl))
      (pss_cons (ps_par (i := 3) (j := 4) rfl sc_law_is_right.nd rfl rfl (by decide) rfl rfl (pa_cons (pe_cmpR op_eq (pe_call (ok_law_take T) hr1 rfl T.g_law_take T.F_law_take.kp T.b_law_take .nil pass0 (pa_cons (pv 0) (pa_cons pe_int pa_nil))) pe_int (nomark _)) (pa_cons (pe_cmpR op_eq (pe_call (ok_law_take T) hr1 rfl T.g_law_take T.F_law_take.kp T.b_law_take .nil pass0 (pa_cons (pv 0) (pa_cons pe_int pa_nil))) pe_int (nomark _)) pa_nil)) (by rfl))
      (pss_cons (ps_set (i := 5) sc_law_is_right.nd rfl (Or.inl rfl) (pe_call (ok_law_take T) hr1 rfl T.g_law_take T.F_law_take.kp T.b_law_take .nil pass0 (pa_cons (pv 0) (pa_cons pe_int pa_nil))))
      (Evl.pss_cut (ps_if (pt_cmpR op_eq (pv 5) pe_int (nomark _)) (pss_one (ps_set (i := 1) sc_law_is_right.nd rfl (Or.inl rfl) (pe_call (ok_law_odd T) hr4 rfl T.g_law_odd T.F_law_odd.kp T.b_law_odd .nil pass0 (pa_cons (pv 0) pa_nil)))) (pss_one (ps_if (pt_cmpR op_eq (pv 5) pe_int (nomark _)) (pss_one (ps_set (i := 2) sc_law_is_right.nd rfl (Or.inl rfl) (pe_call (ok_law_odd T) hr4 rfl T.g_law_odd T.F_law_odd.kp T.b_law_odd .nil pass0 (pa_cons (pv 0) pa_nil)))) (pss_one (ps_if (pt_cmpR op_eq (pv 5) pe_int (nomark _)) (pss_one (ps_set (i := 3) sc_law_is_right.nd rfl (Or.inl rfl) (pe_call (ok_law_odd T) hr4 rfl T.g_law_odd T.F_law_odd.kp T.b_law_odd .nil pass0 (pa_cons (pv 0) pa_nil)))) (pss_one (ps_if (pt_cmpR op_eq (pv 5) pe_int (nomark _)) (pss_one (ps_set (i := 4) sc_law_is_right.nd rfl (Or.inl rfl) (pe_call (ok_law_odd T) hr4 rfl T.g_law_odd T.F_law_odd.kp T.b_law_odd .nil pass0 (pa_cons (pv 0) pa_nil)))) pss_nil)))))))
      (pss_cons (ps_asg (pe_call (ok_law_heard T) hr8 rfl T.g_law_heard T.F_law_heard.kp T.b_law_heard .nil pass0 (pa_cons (pv 1) (pa_cons (pv 2) (pa_cons (pv 3) (pa_cons (pv 4) pa_nil))))) (pgTup K 2 rfl (pgs_cons (pg_name (i := 6) sc_law_is_right.nd rfl (Or.inl rfl)) (pgs_cons (pg_name (i := 7) sc_law_is_right.nd rfl (Or.inl rfl)) pgs_nil))))
      (pss_cons (ps_if (pt_not (pt_val (pe_call (ok_law_is_fine T) hr3 rfl T.g_law_is_fine T.F_law_is_fine.kp T.b_law_is_fine .nil pass0 (pa_cons (pv 1) (pa_cons (pv 2) (pa_cons (pv 3) (pa_cons (pv 4) pa_nil))))))) (pss_one (ps_ret (pe_and (pe_cmp (pc_isN (pv 7))) (pe_one (pe_call (ok_law_is_refused T) hr2 rfl T.g_law_is_refused T.F_law_is_refused.kp T.b_law_is_refused .nil pass0 (pa_cons (pv 6) (pa_cons (pv 1) (pa_cons (pv 2) pa_nil)))))))) pss_nil)
      (pss_cons (ps_if (PW.pt (pw_or (pt_cmp (pc_notN (pv 6))) (pw_or1 (pt_not (pt_val (pe_callB call_isi (by rfl) T.z_isinstance (by decide +kernel) (pa_cons (pv 7) (pa_cons (pe_glob (v := .ref A.c_Stretch) (by rfl) T.g_Stretch rfl) pa_nil)))))))) (pss_one (ps_ret pe_bl)) pss_nil)
      (pss_cons (ps_if (PW.pt (pw_or (pt_not (pt_cmpR (opOwnEq K (ok_Number_eq T) T.b_Number_eq T.m_Number_eq.at_ T.m_Number_eq.fn hr1 pass0) (pe_prop (pv 7) T.cl_Stretch T.P_Stretch_low (ok_Stretch_low T) hr2 T.b_Stretch_low .nil pass0 rfl) (pv 1) (nomark _))) (pw_or1 (pt_not (pt_cmpR (opOwnEq K (ok_Number_eq T) T.b_Number_eq T.m_Number_eq.at_ T.m_Number_eq.fn hr1 pass0) (pe_prop (pv 7) T.cl_Stretch T.P_Stretch_high (ok_Stretch_high T) hr2 T.b_Stretch_high .nil pass0 rfl) (pv 2) (nomark _)))))) (pss_one (ps_ret pe_bl)) pss_nil)
      (pss_cons (ps_if (pt_cmpR op_ne (pe_callB (call_reprD hG hr.units) (by rfl) T.z_repr (by decide +kernel) (pa_cons (pe_lst (pa_cons (pe_prop (pv 7) T.cl_Stretch T.P_Stretch_has_low (ok_Stretch_has_low T) hr2 T.b_Stretch_has_low .nil pass0 rfl) (pa_cons (pe_prop (pv 7) T.cl_Stretch T.P_Stretch_has_high (ok_Stretch_has_high T) hr2 T.b_Stretch_has_high .nil pass0 rfl) pa_nil))) pa_nil)) (pe_callB (call_reprD hG hr.units) (by rfl) T.z_repr (by decide +kernel) (pa_cons (pe_lst (pa_cons (pv 3) (pa_cons (pv 4) pa_nil))) pa_nil)) (nomark _)) (pss_one (ps_ret pe_bl)) pss_nil)
      (pss_cons (ps_set (i := 8) sc_law_is_right.nd rfl (Or.inl rfl) (pe_make T.M_Number (ok_Number_init T) hr3 rfl T.g_Number (b_Number T) .nil pass0 (pa_cons (pe_op op_add (pe_op op_mulW (pe_prop (pv 1) T.cl_Number T.P_Number_top (ok_Number_top T) hr2 T.b_Number_top .nil pass0 rfl) (pe_prop (pv 2) T.cl_Number T.P_Number_bottom (ok_Number_bottom T) hr2 T.b_Number_bottom .nil pass0 rfl)) (pe_op op_mulW (pe_prop (pv 2) T.cl_Number T.P_Number_top (ok_Number_top T) hr2 T.b_Number_top .nil pass0 rfl) (pe_prop (pv 1) T.cl_Number T.P_Number_bottom (ok_Number_bottom T) hr2 T.b_Number_bottom .nil pass0 rfl))) (pa_cons (pe_op op_mulW (pe_op op_mulW pe_int (pe_prop (pv 1) T.cl_Number T.P_Number_bottom (ok_Number_bottom T) hr2 T.b_Number_bottom .nil pass0 rfl)) (pe_prop (pv 2) T.cl_Number T.P_Number_bottom (ok_Number_bottom T) hr2 T.b_Number_bottom .nil pass0 rfl)) pa_nil))))
      (pss_one (ps_ret (pe_cmpR (opOwnEq K (ok_Number_eq T) T.b_Number_eq T.m_Number_eq.at_ T.m_Number_eq.fn hr1 pass0) (pe_prop (pv 7) T.cl_Stretch T.P_Stretch_middle (ok_Stretch_middle T) hr2 T.b_Stretch_middle .nil pass0 rfl) (pv 8) (nomark _)))))))))))))), ?_⟩
    refine ⟨_, rfl, p, c, rfl, hP, (by omega), fun q1 a1 H1 n1 b1 P1 s1 => ?_⟩
    refine ⟨_, rfl, p, c + 2, rfl, P1, (by omega), fun q2 a2 H2 n2 b2 P2 s2 => ?_⟩
    refine ⟨_, _, rfl, ?_⟩
    refine stT (σ' := [some (.ref p), some (.ref a1), some (.ref a2), none, none, none, none, none, none]) rfl ?_
    refine ⟨_, rfl, p, 2, c + 2 + 2, rfl, (by decide), up_lt (n := 9000) (show (2 : Int).natAbs < 2 ^ 8 by decide) (by decide), P2, (by omega), fun r3 H3 r30 r31 P3 s3 => ⟨rfl, ?_⟩⟩
    refine ⟨_, rfl, p, 2, c + 2 + 2 + 1, rfl, (by decide), up_lt (n := 9000) (show (2 : Int).natAbs < 2 ^ 8 by decide) (by decide), P3, (by omega), fun r4 H4 r40 r41 P4 s4 => ⟨rfl, ?_⟩⟩
    refine ⟨_, _, rfl, ?_⟩
    refine stT (σ' := [some (.ref p), some (.ref a1), some (.ref a2), some (.bl (decide (V.int r3 = V.int 0))), some (.bl (decide (V.int r4 = V.int 0))), none, none, none, none]) rfl ?_
    generalize decide (V.int r3 = V.int 0) = t3
    generalize decide (V.int r4 = V.int 0) = t4
    refine ⟨_, rfl, p, 9, c + 2 + 2 + 1 + 1, rfl, (by decide), up_lt (n := 9000) (show (9 : Int).natAbs < 2 ^ 8 by decide) (by decide), P4, (by omega), fun r5 H5 r50 r51 P5 s5 => ?_⟩
    refine stT (σ' := [some (.ref p), some (.ref a1), some (.ref a2), some (.bl t3), some (.bl t4), some (.int r5), none, none, none]) rfl ?_
    have n1 := n1.but (s2.trans (s3.trans (s4.trans s5))) P1.lst
    have n2 := n2.but (s3.trans (s4.trans s5)) P2.lst
    have sb := s1.trans (s2.trans (s3.trans (s4.trans s5)))
    clear s1 s2 s3 s4 s5 P1 P2 P3 P4
    have b1 : Bd 900 q1 := b1.mono (by decide)
    have b2 : Bd 900 q2 := b2.mono (by decide)
    refine ⟨fun σ' H' => ∃ y1 y2 y3 y4 o1 o2 o3 o4, σ' = [some (.ref p), some y1, some y2, some y3, some y4, some (.int r5), none, none, none] ∧ Lo K A H' y1 o1 ∧ Lo K A H' y2 o2 ∧ Tr K A H' y3 o3 ∧ Tr K A H' y4 o4 ∧ SameBut p H H' ∧ Pot H' p (c + 8), ?_, ?_⟩
    · refine ⟨_, rfl, rfl, _, rfl, ?_⟩
      refine ite2 (fun _ => ?_) (fun _ => ?_)
      · refine ⟨_, rfl, p, c + 2 + 2 + 1 + 1 + 1, rfl, P5, (by omega), fun y H6 hy P6 s6 => ?_⟩
        exact ⟨y, .ref a2, .bl t3, .bl t4, none, some q2, some t3, some t4, rfl, hy, ⟨a2, rfl, n2.but s6 P5.lst, b2⟩, rfl, rfl, sb.trans s6, P6.mono (by omega)⟩
      refine ⟨_, rfl, rfl, _, rfl, ?_⟩
      refine ite2 (fun _ => ?_) (fun _ => ?_)
      · refine ⟨_, rfl, p, c + 2 + 2 + 1 + 1 + 1, rfl, P5, (by omega), fun y H6 hy P6 s6 => ?_⟩
        exact ⟨.ref a1, y, .bl t3, .bl t4, some q1, none, some t3, some t4, rfl, ⟨a1, rfl, n1.but s6 P5.lst, b1⟩, hy, rfl, rfl, sb.trans s6, P6.mono (by omega)⟩
      refine ⟨_, rfl, rfl, _, rfl, ?_⟩
      refine ite2 (fun _ => ?_) (fun _ => ?_)
      · refine ⟨_, rfl, p, c + 2 + 2 + 1 + 1 + 1, rfl, P5, (by omega), fun y H6 hy P6 s6 => ?_⟩
        exact ⟨.ref a1, .ref a2, y, .bl t4, some q1, some q2, none, some t4, rfl, ⟨a1, rfl, n1.but s6 P5.lst, b1⟩, ⟨a2, rfl, n2.but s6 P5.lst, b2⟩, hy, rfl, sb.trans s6, P6.mono (by omega)⟩
      refine ⟨_, rfl, rfl, _, rfl, ?_⟩
      refine ite2 (fun _ => ?_) (fun _ => ?_)
      · refine ⟨_, rfl, p, c + 2 + 2 + 1 + 1 + 1, rfl, P5, (by omega), fun y H6 hy P6 s6 => ?_⟩
        exact ⟨.ref a1, .ref a2, .bl t3, y, some q1, some q2, some t3, none, rfl, ⟨a1, rfl, n1.but s6 P5.lst, b1⟩, ⟨a2, rfl, n2.but s6 P5.lst, b2⟩, rfl, hy, sb.trans s6, P6.mono (by omega)⟩
      exact ⟨.ref a1, .ref a2, .bl t3, .bl t4, some q1, some q2, some t3, some t4, rfl, ⟨a1, rfl, n1, b1⟩, ⟨a2, rfl, n2, b2⟩, rfl, rfl, sb, P5.mono (by omega)⟩
    clear n1 n2 sb P5 b1 b2
    rintro σ' H6 ⟨y1, y2, y3, y4, o1, o2, o3, o4, rfl, h1, h2, h3, h4, sb, P6⟩
    refine ⟨_, rfl, _, rfl, _, rfl, _, rfl, y1, y2, y3, y4, o1, o2, o3, o4, rfl, h1, h2, h3, h4, fun r H7 s7 good bad => ?_⟩
    have h1 := h1.mono s7
    have h2 := h2.mono s7
    have h3 := h3.mono s7
    have h4 := h4.mono s7
    have P7 := P6.same s7
    have sb := sb.same s7
    clear s7 P6
    cases hf : fine o1 o2 o3 o4 with
    | false =>
      obtain ⟨e, dd, t, er, ee, ed, et⟩ := bad hf
      refine ⟨r, _, rfl, SqT.of er, rfl, _, _, rfl, _, _, rfl, rfl, ?_⟩
      refine stT (σ' := [some (.ref p), some y1, some y2, some y3, some y4, some (.int r5), some (.ref e), some .non, none]) rfl ?_
      refine ⟨_, rfl, _, rfl, _, rfl, _, rfl, y1, y2, y3, y4, o1, o2, o3, o4, rfl, h1, h2, h3, h4, _, rfl, ?_⟩
      rw [hf]
      refine iteT' rfl ?_
      refine ⟨_, rfl, _, rfl, ?_⟩
      refine iteT' rfl ?_
      exact ⟨_, rfl, _, rfl, _, rfl, e, dd, t, y1, y2, o1, o2, rfl, ee, ed, et, h1, h2, fun H8 s8 => k _ (P7.same s8) (sb.same s8)⟩
    | true =>
    obtain ⟨p1, p2, b1, b2, rfl, rfl, rfl, rfl⟩ := fine_some hf
    obtain ⟨x, er, dx, lo, hi, mi, ex, hlo, hhi, hmi⟩ := good p1 p2 b1 b2 rfl rfl rfl rfl hf
    refine ⟨r, _, rfl, SqT.of er, rfl, _, _, rfl, _, _, rfl, rfl, ?_⟩
    refine stT (σ' := [some (.ref p), some y1, some y2, some y3, some y4, some (.int r5), some .non, some (.ref x), none]) rfl ?_
    refine ⟨_, rfl, _, rfl, _, rfl, _, rfl, y1, y2, y3, y4, _, _, _, _, rfl, h1, h2, h3, h4, _, rfl, ?_⟩
    rw [hf]
    refine iteF' rfl ?_
    obtain ⟨lo1, rfl, ⟨d1, hp⟩, bp⟩ := h1
    obtain ⟨hi1, rfl, ⟨d2, hq⟩, bq⟩ := h2
    cases (show y3 = V.bl b1 from h3)
    cases (show y4 = V.bl b2 from h4)
    refine ⟨_, rfl, _, rfl, ?_⟩
    refine iteF' (by simp) ?_
    refine ⟨_, rfl, _, _, _, _, true, rfl, .own _, .base (.ins ex T.cl_Stretch T.ca_Stretch T.cn T.ct T.cm_Stretch), T.kit_StrStr, true, rfl, ?_⟩
    refine iteF' rfl ?_
    refine ⟨_, rfl, x, dx, _, rfl, ex, x, dx, _, _, rfl, ex, sf_own_low _ _ _ _ _, _, rfl, lo, _, _, _, rfl, hlo.choose_spec, .base (.ins hp T.cl_Number T.ca_Number T.cn T.ct T.cm_Number), (by simp [PySem.W.notFirst]), lo, lo1, p1, p1, rfl, hlo, ⟨d1, hp⟩, _, rfl, ?_⟩
    refine iteF' (by simp) ?_
    refine ⟨_, rfl, x, dx, _, rfl, ex, x, dx, _, _, rfl, ex, sf_own_high _ _ _ _ _, _, rfl, hi, _, _, _, rfl, hhi.choose_spec, .base (.ins hq T.cl_Number T.ca_Number T.cn T.ct T.cm_Number), (by simp [PySem.W.notFirst]), hi, hi1, p2, p2, rfl, hhi, ⟨d2, hq⟩, _, rfl, ?_⟩
    refine iteF' (by simp) ?_
    refine ⟨_, rfl, x, dx, _, rfl, ex, x, dx, _, _, rfl, ex, sf_includes_low _ _ _ _ _, _, rfl, x, dx, _, rfl, ex, x, dx, _, _, rfl, ex, sf_includes_high _ _ _ _ _, by show 2 ≤ sizeLine; decide, fun l1 nl1 => ?_⟩
    have s8 := same_new (o := .lst [.bl b1, .bl b2]) nl1
    have el1 : (upd H7 l1 (.lst [.bl b1, .bl b2])) l1 = some (.lst [.bl b1, .bl b2]) := upd_same
    have P8 := P7.same s8
    have sb := sb.same s8
    have ex := s8 _ _ ex
    have hp := s8 _ _ hp
    have hq := s8 _ _ hq
    have hmi := hmi.mono s8
    clear hlo hhi good bad er P7
    generalize upd H7 l1 (.lst [.bl b1, .bl b2]) = H8 at *
    refine ⟨l1, .list [.bool b1, .bool b2], _, 2, rfl, .lst (SqL.of el1) (.cons (.bl _) (.cons (.bl _) .nil)), two_bools, by decide, by decide, ?_⟩
    refine ⟨_, rfl, _, rfl, by show 2 ≤ sizeLine; decide, fun l2 nl2 => ?_⟩
    have s9 := same_new (o := .lst [.bl b1, .bl b2]) nl2
    have el2 : (upd H8 l2 (.lst [.bl b1, .bl b2])) l2 = some (.lst [.bl b1, .bl b2]) := upd_same
    have P9 := P8.same s9
    have sb := sb.same s9
    have ex := s9 _ _ ex
    have hp := s9 _ _ hp
    have hq := s9 _ _ hq
    have hmi := hmi.mono s9
    clear P8
    generalize upd H8 l2 (.lst [.bl b1, .bl b2]) = H9 at *
    refine ⟨l2, .list [.bool b1, .bool b2], _, 2, rfl, .lst (SqL.of el2) (.cons (.bl _) (.cons (.bl _) .nil)), two_bools, by decide, by decide, rfl, _, rfl, ?_⟩
    rw [nes (d := (.list [.bool b1, .bool b2])) (e := (.list [.bool b1, .bool b2])) rfl]
    refine iteF ?_
    refine ⟨_, rfl, lo1, d1, _, rfl, hp, lo1, d1, _, _, rfl, hp, nf_top p1, _, rfl, hi1, d2, _, rfl, hq, hi1, d2, _, _, rfl, hq, nf_bot p2, _, _, rfl, rfl, bdw bp.1 bq.den', _, rfl, hi1, d2, _, rfl, hq, hi1, d2, _, _, rfl, hq, nf_top p2, _, rfl, lo1, d1, _, rfl, hp, lo1, d1, _, _, rfl, hp, nf_bot p1, _, _, rfl, rfl, bdw bq.1 bp.den', ?_⟩
    have two_b : (2 : Int).natAbs < 2 ^ 2 := by decide
    refine ⟨_, _, rfl, rfl, ?_⟩
    refine ⟨_, rfl, lo1, d1, _, rfl, hp, lo1, d1, _, _, rfl, hp, nf_bot p1, _, _, rfl, rfl, bdw two_b bp.den', _, rfl, hi1, d2, _, rfl, hq, hi1, d2, _, _, rfl, hq, nf_bot p2, _, _, rfl, rfl, bdw (imul_lt two_b bp.den') bq.den', ?_⟩
    intro z dz nz ndz nez
    refine ⟨z, dz, p1.num * (p2.den : Int) + p2.num * (p1.den : Int), 2 * (p1.den : Int) * (p2.den : Int), rfl, Int.mul_ne_zero (Int.mul_ne_zero (by decide) (den_ne p1)) (den_ne p2), up_lt (imul_lt (imul_lt two_b bp.den') bq.den') (by decide), upd_same, rfl, ?_⟩
    obtain ⟨s10, hz⟩ := made_num (C := A.c_Number) (Rat.divInt (p1.num * (p2.den : Int) + p2.num * (p1.den : Int)) (2 * (p1.den : Int) * (p2.den : Int))) nz ndz
    generalize upd (upd (upd H9 dz (.own z)) z (.ins A.c_Number dz [])) z (.ins A.c_Number dz (nf (Rat.divInt (p1.num * (p2.den : Int) + p2.num * (p1.den : Int)) (2 * (p1.den : Int) * (p2.den : Int))))) = H10 at *
    rw [half_mk] at hz
    have ex := s10 _ _ ex
    have hmi := hmi.mono s10
    refine stT (σ' := [some (.ref p), some (.ref lo1), some (.ref hi1), some (.bl b1), some (.bl b2), some (.int r5), some .non, some (.ref x), some (.ref z)]) rfl ?_
    refine ⟨_, rfl, x, dx, _, rfl, ex, x, dx, _, _, rfl, ex, sf_own_middle _ _ _ _ _, _, rfl, mi, _, _, _, rfl, hmi.choose_spec, .base (.ins hz.choose_spec T.cl_Number T.ca_Number T.cn T.ct T.cm_Number), (by simp [PySem.W.notFirst]), mi, z, _, _, rfl, hmi, hz, ?_⟩
    rw [decide_eq_true rfl]
    exact k _ (P9.same s10) (sb.same s10)
end
/-! ### the law -/
theorem but_same {p : Addr} {H0 H H' : Hp} (sb : SameBut p H H') (s : Same H0 H) (h : H0 p = none) : Same H0 H' := fun b o e => sb b o (s b o e) (ne_of_none e h)
theorem Pot.upl {H : Hp} {p D : Addr} {n : Nat} {o : HO} (h : Pot H p n) (ne : p ≠ D) : Pot (upd H D o) p n := by
  obtain ⟨own, mix, c, e, h⟩ := h
  exact ⟨own, mix, c, by rw [upd_ne ne]; exact e, h⟩
theorem rep_map (n : Nat) : ((List.replicate n true).map V.bl) = List.replicate n (V.bl true) := List.map_replicate
def spLaw (K : PySem.W.Frag) : Sp := fun vs H Q _ => ∃ (a : Addr) (ns : List Int), vs = [.ref a] ∧ SqL K H a (ns.map V.int) ∧ ns.length ≤ 63 ∧ ∀ H', Q (.bl true) H'
section
variable {P : Program} {w : World} {K : PySem.W.Frag} {mg : Str → Option Value} {base : Heap} {A : Ad}
theorem turns3 (n : Int) : (if (if n < 3 then n else 3) > 1 then (if n < 3 then n else 3) else 1) ≤ 3 ∧ 1 ≤ (if (if n < 3 then n else 3) > 1 then (if n < 3 then n else 3) else 1) := by
  constructor <;> (repeat (first | split | omega))
theorem ok_law (T : Txt K mg A) : FnG PP w K mg base CX0 12 A.f_law A.d_law ["script"] (spLaw K) := by
  refine okG T.F_law sc_law (fun vs H Q E h => ?_) (fun cdv B outer s H vs Q E hG hr h => ?_)
  · obtain ⟨a, ns, rfl, _⟩ := h
    rfl
  · obtain ⟨a, ns, rfl, hS, hlen, k⟩ := h
    have hr1 : Room 1 _ := hr.mono (by decide)
    have hr2 : Room 2 _ := hr.mono (by decide)
    have hr3 : Room 3 _ := hr.mono (by decide)
    have hr7 : Room 7 _ := hr.mono (by decide)
    have hr10 : Room 10 _ := hr.mono (by decide)
    obtain ⟨_, r1Number, b1Number⟩ := b1_Number T
    obtain ⟨_, r2Stretch, b2Stretch⟩ := b2_Stretch T
    refine ⟨_, (pss_cons (ps_set (i := 1) sc_law.nd rfl (Or.inl rfl) (pe_make T.M_Stretch (ok_Stretch_init T) hr7 rfl T.g_Stretch b2Stretch r2Stretch pass0 (pa_cons (pe_make T.M_Number (ok_Number_init T) hr3 rfl T.g_Number b1Number r1Number pass0 (pa_cons pe_int pa_nil)) (pa_cons (pe_make T.M_Number (ok_Number_init T) hr3 rfl T.g_Number b1Number r1Number pass0 (pa_cons pe_int pa_nil)) pa_nil))))
      (pss_cons (ps_if (PW.pt (pw_or (pt_cmpR op_ne (pe_callB (call_reprD hG hr.units) (by rfl) T.z_repr (by decide +kernel) (pa_cons (pe_lst (pa_cons (pe_prop (pv 1) T.cl_Stretch T.P_Stretch_has_low (ok_Stretch_has_low T) hr2 T.b_Stretch_has_low .nil pass0 rfl) (pa_cons (pe_prop (pv 1) T.cl_Stretch T.P_Stretch_has_high (ok_Stretch_has_high T) hr2 T.b_Stretch_has_high .nil pass0 rfl) pa_nil))) pa_nil)) pe_str (nomark _)) (pw_or1 (pt_not (pt_cmpR (opOwnEq K (ok_Number_eq T) T.b_Number_eq T.m_Number_eq.at_ T.m_Number_eq.fn hr1 pass0) (pe_prop (pv 1) T.cl_Stretch T.P_Stretch_middle (ok_Stretch_middle T) hr2 T.b_Stretch_middle .nil pass0 rfl) (pe_make T.M_Number (ok_Number_init T) hr3 rfl T.g_Number (b_Number T) .nil pass0 (pa_cons pe_int (pa_cons pe_int pa_nil))) (nomark _)))))) (pss_one (ps_ret pe_bl)) pss_nil)
      (pss_cons (ps_for PassesOwn.never rfl (pi_range1 rfl T.z_range (pa_cons (pe_callB (call_max2 rfl) (by rfl) T.z_max (by decide +kernel) (pa_cons pe_int (pa_cons (pe_callB (call_min2 rfl) (by rfl) T.z_min (by decide +kernel) (pa_cons pe_int (pa_cons (pe_callB call_len_seq (by rfl) T.z_len (by decide +kernel) (pa_cons (pv 0) pa_nil)) pa_nil))) pa_nil))) pa_nil)) (pg_name (i := 2) sc_law.nd rfl (Or.inl rfl))
      (pss_cons (ps_set (i := 3) sc_law.nd rfl (Or.inr rfl) (pe_call (ok_law_pot T) hr1 rfl T.g_law_pot T.F_law_pot.kp T.b_law_pot .nil pass0 (pa_cons (pv 0) (pa_cons (pv 2) pa_nil))))
      (pss_one (ps_if (pt_not (pt_val (pe_callB (cr_all rfl) (by rfl) T.z_all (by decide +kernel) (pa_cons (pe_lc (own := [("turn", 4)]) (g := gName 4) (tt := tYes) rfl sc_law.nd (pi_range1 rfl T.z_range (pa_cons pe_int pa_nil)) (blkOk_by (N := N_law) (sc := defScope s_law) (by decide +kernel)) (fun _ _ _ _ _ => (pg_name (i := 4) sc_law.nd rfl (Or.inl rfl))) (fun _ _ _ _ _ => pts_nil) (fun _ _ _ _ _ => (pe_callG (ok_law_is_right T) hG hr10 rfl T.g_law_is_right T.F_law_is_right.kp T.b_law_is_right pass0 (pa_cons (pv 3) pa_nil)))) pa_nil)))) (pss_one (ps_ret pe_bl)) pss_nil))))
      (pss_one (ps_ret pe_bl))))), ?_⟩
    intro u du nu ndu neu
    refine ⟨u, du, 0, 1, rfl, by decide, up_lt (n := 9000) (show (1 : Int).natAbs < 2 ^ 2 by decide) (by decide), upd_same, rfl, ?_⟩
    obtain ⟨su, hu⟩ := made_num (C := A.c_Number) (Rat.divInt 0 1) nu ndu
    generalize upd (upd (upd H du (.own u)) u (.ins A.c_Number du [])) u (.ins A.c_Number du (nf (Rat.divInt 0 1))) = H5 at *
    intro v dv nv ndv nev
    refine ⟨v, dv, 1, 1, rfl, by decide, up_lt (n := 9000) (show (1 : Int).natAbs < 2 ^ 2 by decide) (by decide), upd_same, rfl, ?_⟩
    obtain ⟨sv, hv⟩ := made_num (C := A.c_Number) (Rat.divInt 1 1) nv ndv
    generalize upd (upd (upd H5 dv (.own v)) v (.ins A.c_Number dv [])) v (.ins A.c_Number dv (nf (Rat.divInt 1 1))) = H6 at *
    intro x dx nt ndt net
    have s0 : Same H6 (upd (upd H6 dx (.own x)) x (.ins A.c_Stretch dx [])) := fun c z e => by
      rw [upd_ne (ne_of_none e nt), upd_ne (ne_of_none e ndt)]
      exact e
    have hu6 := hu.mono sv
    have b0' : Bd 1 (Rat.divInt 0 1) := ⟨by decide, by decide⟩
    have b1' : Bd 1 (Rat.divInt 1 1) := ⟨by decide, by decide⟩
    refine ⟨x, dx, u, v, _, _, true, true, rfl, hu6.mono s0, hv.mono s0, b0'.mono (by decide), b1'.mono (by decide), .inl (by decide +kernel), upd_same, fun mi H7 sb e hm => ⟨rfl, ?_⟩⟩
    obtain ⟨s7, dx, lo, hi, mi, ex, hlo, hhi, hmi⟩ := made_str nt ndt sb e hu6 hv hm
    have sH : Same H H7 := (su.trans sv).trans s7
    have hS := sH.seq hS
    clear s7 sb e hm s0 hu6 hu hv sH su sv
    generalize H7 = H7 at *
    refine stT (σ' := [some (.ref a), some (.ref x), none, none, none]) rfl ?_
    refine ⟨_, rfl, x, dx, _, rfl, ex, x, dx, _, _, rfl, ex, sf_includes_low _ _ _ _ _, _, rfl, x, dx, _, rfl, ex, x, dx, _, _, rfl, ex, sf_includes_high _ _ _ _ _, by show 2 ≤ sizeLine; decide, fun l1 nl1 => ?_⟩
    have s8 := same_new (o := .lst [.bl true, .bl true]) nl1
    have el1 : (upd H7 l1 (.lst [.bl true, .bl true])) l1 = some (.lst [.bl true, .bl true]) := upd_same
    have ex := s8 _ _ ex
    have hmi := hmi.mono s8
    have hS := s8.seq hS
    clear s8
    generalize upd H7 l1 (.lst [.bl true, .bl true]) = H8 at *
    refine ⟨l1, .list [.bool true, .bool true], _, 2, rfl, .lst (SqL.of el1) (.cons (.bl _) (.cons (.bl _) .nil)), two_bools, by decide, by decide, rfl, _, rfl, ?_⟩
    refine iteF' (by decide +kernel) ?_
    refine ⟨_, rfl, x, dx, _, rfl, ex, x, dx, _, _, rfl, ex, sf_own_middle _ _ _ _ _, ?_⟩
    intro z dz nz ndz nez
    refine ⟨z, dz, 1, 2, rfl, by decide, up_lt (n := 9000) (show (2 : Int).natAbs < 2 ^ 2 by decide) (by decide), upd_same, rfl, ?_⟩
    obtain ⟨s9, hz⟩ := made_num (C := A.c_Number) (Rat.divInt 1 2) nz ndz
    generalize upd (upd (upd H8 dz (.own z)) z (.ins A.c_Number dz [])) z (.ins A.c_Number dz (nf (Rat.divInt 1 2))) = H9 at *
    have hmi := hmi.mono s9
    refine ⟨mi, _, _, _, rfl, hmi.choose_spec, .base (.ins hz.choose_spec T.cl_Number T.ca_Number T.cn T.ct T.cm_Number), (by simp [PySem.W.notFirst]), mi, z, _, _, rfl, hmi, hz, _, rfl, ?_⟩
    refine iteF' (by decide +kernel) ?_
    have hS := s9.seq hS
    clear s9 hmi hz ex el1 hlo hhi
    generalize H9 = H at *
    refine ⟨_, rfl, a, _, rfl, Or.inl hS, _, _, rfl, _, _, rfl, _, rfl, ?_⟩
    have h3 := turns3 ((ns.map V.int).length : Int)
    generalize (if (if ((ns.map V.int).length : Int) < 3 then ((ns.map V.int).length : Int) else 3) > 1 then (if ((ns.map V.int).length : Int) < 3 then ((ns.map V.int).length : Int) else 3) else 1) = j at *
    refine ⟨by omega, by omega, for_range (lo := 0) (n := j.toNat) (fun i σ H' => ∃ v w, σ = [some (.ref a), some (.ref x), v, w, none] ∧ Same H H') ⟨none, none, rfl, Same.refl _⟩ ?_ ?_⟩
    · rintro i σ H' hi ⟨v, w', rfl, z⟩
      refine ⟨_, rfl, _, rfl, a, ns, _, rfl, z.seq hS, by omega, by omega, fun p H1 s1 np hP => ?_⟩
      have hHp : H p = none := z.free np
      refine ⟨10, rfl, by decide, by decide, fun D nD => lc_range (lo := 0) (n := 10) (fun i Hh => Same H Hh ∧ Pot Hh p (8 * i) ∧ Hh D = some (.lst (List.replicate i (V.bl true))))
        ⟨z.trans (s1.trans (same_new nD)), (hP.same (same_new nD)), upd_same⟩ ?_ ?_⟩
      · rintro i2 Hh hi2 ⟨zz, hPh, hD⟩
        refine ⟨rfl, yes_of ?_⟩
        refine iteT ?_
        refine ⟨_, rfl, p, 8 * i2, rfl, hPh, by omega, fun H3 hP3 sb => ?_⟩
        obtain ⟨xs, ep⟩ := hP.lst
        have hpD : p ≠ D := ne_of_none ep nD
        have hDH : H D = none := by
          cases e : H D with
          | none => rfl
          | some o =>
            have := s1 _ _ (z _ _ e)
            rw [nD] at this
            cases this
        refine ⟨_, sb _ _ hD hpD.symm, ?_, same_mut (but_same sb zz hHp) hDH, (hP3.upl hpD).mono (by omega), ?_⟩
        · rw [List.length_replicate]
          exact Nat.lt_trans hi2 (by decide)
        · rw [upd_same, List.replicate_succ']
      · rintro Hh ⟨zz, hPh, hD⟩
        refine ⟨D, List.replicate 10 true, rfl, SqL.of (by rw [hD, rep_map]), _, rfl, ?_⟩
        refine iteF' rfl ?_
        exact ⟨_, _, rfl, zz⟩
    · rintro σ H' ⟨v, w', rfl, z⟩
      exact k _
end
theorem all_mk {K : PySem.W.Frag} {h : Heap} {mg : Str → Option Value} (X : K.In h) (G : h.Ns mainGlobals mg)
    {c_SpeedError : Addr}
    {c_BadNumber : Addr}
    {c_BadStretch : Addr}
    {c_Number : Addr}
    {c_Line : Addr}
    {c_Stretch : Addr}
    {f_BadStretch_init : Addr}
    {nm_BadStretch : Str}
    {qn_BadStretch : Str}
    {Ns_BadStretch : Addr}
    {bs_BadStretch : List Value}
    {bm_BadStretch : List Value}
    {sn_BadStretch : List Str}
    {sub_BadStretch : List Value}
    {ab_BadStretch : Bool}
    {col_BadStretch : Option Bool}
    {dd_BadStretch : Option Addr}
    {k0_BadStretch : Option Value}
    {k1_BadStretch : Option Value}
    {k2_BadStretch : Option Value}
    {k3_BadStretch : Option Value}
    {k5_BadStretch : Option Value}
    {oc_BadStretch : Value}
    {od_BadStretch : Option Addr}
    {an_BadStretch : Option Addr}
    {osl_BadStretch : Array (Option Value)}
    {kV_BadStretch : Value}
    {dc_BadStretch : Value}
    {pm_BadStretch : Value}
    {ct_BadStretch : Value}
    {cda_BadStretch : Addr}
    {cc_BadStretch : Addr}
    {ccl_BadStretch : Value}
    {cdd_BadStretch : Option Addr}
    {cvs_BadStretch : Array Value}
    {ccs_BadStretch : Array (Option Value)}
    {file_BadStretch : Str}
    {tf_BadStretch : Tok}
    {cl_BadStretch : Value}
    {cld_BadStretch : Option Addr}
    {csl_BadStretch : Array (Option Value)}
    {f_is_integer : Addr}
    {oc_is_integer : Value}
    {kV_is_integer : Value}
    {dc_is_integer : Value}
    {pm_is_integer : Value}
    {cd_is_integer : Value}
    {ct_is_integer : Value}
    {od_is_integer : Option Addr}
    {an_is_integer : Option Addr}
    {osl_is_integer : Array (Option Value)}
    {f_shared_divisor : Addr}
    {oc_shared_divisor : Value}
    {kV_shared_divisor : Value}
    {dc_shared_divisor : Value}
    {pm_shared_divisor : Value}
    {cd_shared_divisor : Value}
    {ct_shared_divisor : Value}
    {od_shared_divisor : Option Addr}
    {an_shared_divisor : Option Addr}
    {osl_shared_divisor : Array (Option Value)}
    {f_Number_init : Addr}
    {oc_Number_init : Value}
    {kV_Number_init : Value}
    {dc_Number_init : Value}
    {pm_Number_init : Value}
    {cd_Number_init : Value}
    {ct_Number_init : Value}
    {od_Number_init : Option Addr}
    {an_Number_init : Option Addr}
    {osl_Number_init : Array (Option Value)}
    {T_Number_init : Addr}
    {t_Number_init_0 : Tok}
    {oT_Number_init : Value}
    {dT_Number_init : Option Addr}
    {nT_Number_init : Nat}
    {sT_Number_init : Array (Option Value)}
    {f_Number_top : Addr}
    {p_Number_top : Addr}
    {r_Number_top : List Value}
    {oc_Number_top : Value}
    {kV_Number_top : Value}
    {dc_Number_top : Value}
    {pm_Number_top : Value}
    {cd_Number_top : Value}
    {ct_Number_top : Value}
    {od_Number_top : Option Addr}
    {an_Number_top : Option Addr}
    {osl_Number_top : Array (Option Value)}
    {f_Number_bottom : Addr}
    {p_Number_bottom : Addr}
    {r_Number_bottom : List Value}
    {oc_Number_bottom : Value}
    {kV_Number_bottom : Value}
    {dc_Number_bottom : Value}
    {pm_Number_bottom : Value}
    {cd_Number_bottom : Value}
    {ct_Number_bottom : Value}
    {od_Number_bottom : Option Addr}
    {an_Number_bottom : Option Addr}
    {osl_Number_bottom : Array (Option Value)}
    {f_Number_eq : Addr}
    {oc_Number_eq : Value}
    {kV_Number_eq : Value}
    {dc_Number_eq : Value}
    {pm_Number_eq : Value}
    {cd_Number_eq : Value}
    {ct_Number_eq : Value}
    {od_Number_eq : Option Addr}
    {an_Number_eq : Option Addr}
    {osl_Number_eq : Array (Option Value)}
    {f_Number_is_less : Addr}
    {oc_Number_is_less : Value}
    {kV_Number_is_less : Value}
    {dc_Number_is_less : Value}
    {pm_Number_is_less : Value}
    {cd_Number_is_less : Value}
    {ct_Number_is_less : Value}
    {od_Number_is_less : Option Addr}
    {an_Number_is_less : Option Addr}
    {osl_Number_is_less : Array (Option Value)}
    {f_Number_add : Addr}
    {oc_Number_add : Value}
    {kV_Number_add : Value}
    {dc_Number_add : Value}
    {pm_Number_add : Value}
    {cd_Number_add : Value}
    {ct_Number_add : Value}
    {od_Number_add : Option Addr}
    {an_Number_add : Option Addr}
    {osl_Number_add : Array (Option Value)}
    {f_Number_divided_by : Addr}
    {oc_Number_divided_by : Value}
    {kV_Number_divided_by : Value}
    {dc_Number_divided_by : Value}
    {pm_Number_divided_by : Value}
    {cd_Number_divided_by : Value}
    {ct_Number_divided_by : Value}
    {od_Number_divided_by : Option Addr}
    {an_Number_divided_by : Option Addr}
    {osl_Number_divided_by : Array (Option Value)}
    {f_whole : Addr}
    {oc_whole : Value}
    {kV_whole : Value}
    {dc_whole : Value}
    {pm_whole : Value}
    {cd_whole : Value}
    {ct_whole : Value}
    {od_whole : Option Addr}
    {an_whole : Option Addr}
    {osl_whole : Array (Option Value)}
    {f_Line_init : Addr}
    {oc_Line_init : Value}
    {kV_Line_init : Value}
    {dc_Line_init : Value}
    {pm_Line_init : Value}
    {cd_Line_init : Value}
    {ct_Line_init : Value}
    {od_Line_init : Option Addr}
    {an_Line_init : Option Addr}
    {osl_Line_init : Array (Option Value)}
    {f_Stretch_init : Addr}
    {oc_Stretch_init : Value}
    {dc_Stretch_init : Value}
    {pm_Stretch_init : Value}
    {cd_Stretch_init : Value}
    {ct_Stretch_init : Value}
    {od_Stretch_init : Option Addr}
    {an_Stretch_init : Option Addr}
    {osl_Stretch_init : Array (Option Value)}
    {D_Stretch_init : Addr}
    {f_Stretch_low : Addr}
    {p_Stretch_low : Addr}
    {r_Stretch_low : List Value}
    {oc_Stretch_low : Value}
    {kV_Stretch_low : Value}
    {dc_Stretch_low : Value}
    {pm_Stretch_low : Value}
    {cd_Stretch_low : Value}
    {ct_Stretch_low : Value}
    {od_Stretch_low : Option Addr}
    {an_Stretch_low : Option Addr}
    {osl_Stretch_low : Array (Option Value)}
    {f_Stretch_high : Addr}
    {p_Stretch_high : Addr}
    {r_Stretch_high : List Value}
    {oc_Stretch_high : Value}
    {kV_Stretch_high : Value}
    {dc_Stretch_high : Value}
    {pm_Stretch_high : Value}
    {cd_Stretch_high : Value}
    {ct_Stretch_high : Value}
    {od_Stretch_high : Option Addr}
    {an_Stretch_high : Option Addr}
    {osl_Stretch_high : Array (Option Value)}
    {f_Stretch_has_low : Addr}
    {p_Stretch_has_low : Addr}
    {r_Stretch_has_low : List Value}
    {oc_Stretch_has_low : Value}
    {kV_Stretch_has_low : Value}
    {dc_Stretch_has_low : Value}
    {pm_Stretch_has_low : Value}
    {cd_Stretch_has_low : Value}
    {ct_Stretch_has_low : Value}
    {od_Stretch_has_low : Option Addr}
    {an_Stretch_has_low : Option Addr}
    {osl_Stretch_has_low : Array (Option Value)}
    {f_Stretch_has_high : Addr}
    {p_Stretch_has_high : Addr}
    {r_Stretch_has_high : List Value}
    {oc_Stretch_has_high : Value}
    {kV_Stretch_has_high : Value}
    {dc_Stretch_has_high : Value}
    {pm_Stretch_has_high : Value}
    {cd_Stretch_has_high : Value}
    {ct_Stretch_has_high : Value}
    {od_Stretch_has_high : Option Addr}
    {an_Stretch_has_high : Option Addr}
    {osl_Stretch_has_high : Array (Option Value)}
    {f_Stretch_middle : Addr}
    {p_Stretch_middle : Addr}
    {r_Stretch_middle : List Value}
    {oc_Stretch_middle : Value}
    {kV_Stretch_middle : Value}
    {dc_Stretch_middle : Value}
    {pm_Stretch_middle : Value}
    {cd_Stretch_middle : Value}
    {ct_Stretch_middle : Value}
    {od_Stretch_middle : Option Addr}
    {an_Stretch_middle : Option Addr}
    {osl_Stretch_middle : Array (Option Value)}
    {f_law_pot : Addr}
    {oc_law_pot : Value}
    {kV_law_pot : Value}
    {dc_law_pot : Value}
    {pm_law_pot : Value}
    {cd_law_pot : Value}
    {ct_law_pot : Value}
    {od_law_pot : Option Addr}
    {an_law_pot : Option Addr}
    {osl_law_pot : Array (Option Value)}
    {f_law_take : Addr}
    {oc_law_take : Value}
    {kV_law_take : Value}
    {dc_law_take : Value}
    {pm_law_take : Value}
    {cd_law_take : Value}
    {ct_law_take : Value}
    {od_law_take : Option Addr}
    {an_law_take : Option Addr}
    {osl_law_take : Array (Option Value)}
    {f_law_of : Addr}
    {oc_law_of : Value}
    {kV_law_of : Value}
    {dc_law_of : Value}
    {pm_law_of : Value}
    {cd_law_of : Value}
    {ct_law_of : Value}
    {od_law_of : Option Addr}
    {an_law_of : Option Addr}
    {osl_law_of : Array (Option Value)}
    {f_law_drawn : Addr}
    {oc_law_drawn : Value}
    {kV_law_drawn : Value}
    {dc_law_drawn : Value}
    {pm_law_drawn : Value}
    {cd_law_drawn : Value}
    {ct_law_drawn : Value}
    {od_law_drawn : Option Addr}
    {an_law_drawn : Option Addr}
    {osl_law_drawn : Array (Option Value)}
    {f_law_odd : Addr}
    {oc_law_odd : Value}
    {kV_law_odd : Value}
    {dc_law_odd : Value}
    {pm_law_odd : Value}
    {cd_law_odd : Value}
    {ct_law_odd : Value}
    {od_law_odd : Option Addr}
    {an_law_odd : Option Addr}
    {osl_law_odd : Array (Option Value)}
    {f_law_is_fine : Addr}
    {oc_law_is_fine : Value}
    {kV_law_is_fine : Value}
    {dc_law_is_fine : Value}
    {pm_law_is_fine : Value}
    {cd_law_is_fine : Value}
    {ct_law_is_fine : Value}
    {od_law_is_fine : Option Addr}
    {an_law_is_fine : Option Addr}
    {osl_law_is_fine : Array (Option Value)}
    {f_law_heard : Addr}
    {oc_law_heard : Value}
    {kV_law_heard : Value}
    {dc_law_heard : Value}
    {pm_law_heard : Value}
    {cd_law_heard : Value}
    {ct_law_heard : Value}
    {od_law_heard : Option Addr}
    {an_law_heard : Option Addr}
    {osl_law_heard : Array (Option Value)}
    {f_law_is_refused : Addr}
    {oc_law_is_refused : Value}
    {kV_law_is_refused : Value}
    {dc_law_is_refused : Value}
    {pm_law_is_refused : Value}
    {cd_law_is_refused : Value}
    {ct_law_is_refused : Value}
    {od_law_is_refused : Option Addr}
    {an_law_is_refused : Option Addr}
    {osl_law_is_refused : Array (Option Value)}
    {f_law_is_right : Addr}
    {oc_law_is_right : Value}
    {kV_law_is_right : Value}
    {dc_law_is_right : Value}
    {pm_law_is_right : Value}
    {cd_law_is_right : Value}
    {ct_law_is_right : Value}
    {od_law_is_right : Option Addr}
    {an_law_is_right : Option Addr}
    {osl_law_is_right : Array (Option Value)}
    {f_law : Addr}
    {oc_law : Value}
    {kV_law : Value}
    {dc_law : Value}
    {pm_law : Value}
    {cd_law : Value}
    {ct_law : Value}
    {od_law : Option Addr}
    {an_law : Option Addr}
    {osl_law : Array (Option Value)}
    (a_SpeedError : PySem.W.nsIn K mainGlobals "SpeedError" = some (some (.ref c_SpeedError)))
    (a_BadNumber : PySem.W.nsIn K mainGlobals "BadNumber" = some (some (.ref c_BadNumber)))
    (a_BadStretch : PySem.W.nsIn K mainGlobals "BadStretch" = some (some (.ref c_BadStretch)))
    (a_Number : PySem.W.nsIn K mainGlobals "Number" = some (some (.ref c_Number)))
    (pg_Number : PySem.W.plainGet K c_Number Str.empty = true)
    (hd_Number : PySem.W.hasDictIn K c_Number = true)
    (po_Number : PySem.W.plainOver K c_Number = true)
    (sa_Number : PySem.W.findIn K (.ref c_Number) "__setattr__" = some (some (.builtin "object.__setattr__")))
    (mk_Number : PySem.W.makesIn K c_Number = true)
    (kc_Number : PySem.W.keepIn K (.ref c_Number) = true)
    (sf_Number : PySem.W.selfFirst K c_Number = true)
    (ca_Number : PySem.W.findIn K (.ref c_Number) "__class__" = some (some (.builtin "object.__class__")))
    (cm_Number : PySem.W.mroIn K c_Number (.type "object") = some true)
    (n_Number_own_top : PySem.W.findIn K (.ref c_Number) "own_top" = some none)
    (n_Number_own_bottom : PySem.W.findIn K (.ref c_Number) "own_bottom" = some none)
    (a_Line : PySem.W.nsIn K mainGlobals "Line" = some (some (.ref c_Line)))
    (pg_Line : PySem.W.plainGet K c_Line Str.empty = true)
    (hd_Line : PySem.W.hasDictIn K c_Line = true)
    (po_Line : PySem.W.plainOver K c_Line = true)
    (sa_Line : PySem.W.findIn K (.ref c_Line) "__setattr__" = some (some (.builtin "object.__setattr__")))
    (mk_Line : PySem.W.makesIn K c_Line = true)
    (kc_Line : PySem.W.keepIn K (.ref c_Line) = true)
    (sf_Line : PySem.W.selfFirst K c_Line = true)
    (ca_Line : PySem.W.findIn K (.ref c_Line) "__class__" = some (some (.builtin "object.__class__")))
    (cm_Line : PySem.W.mroIn K c_Line (.type "object") = some true)
    (n_Line_own_base : PySem.W.findIn K (.ref c_Line) "own_base" = some none)
    (n_Line_own_slope : PySem.W.findIn K (.ref c_Line) "own_slope" = some none)
    (a_Stretch : PySem.W.nsIn K mainGlobals "Stretch" = some (some (.ref c_Stretch)))
    (pg_Stretch : PySem.W.plainGet K c_Stretch Str.empty = true)
    (hd_Stretch : PySem.W.hasDictIn K c_Stretch = true)
    (po_Stretch : PySem.W.plainOver K c_Stretch = true)
    (sa_Stretch : PySem.W.findIn K (.ref c_Stretch) "__setattr__" = some (some (.builtin "object.__setattr__")))
    (mk_Stretch : PySem.W.makesIn K c_Stretch = true)
    (kc_Stretch : PySem.W.keepIn K (.ref c_Stretch) = true)
    (sf_Stretch : PySem.W.selfFirst K c_Stretch = true)
    (ca_Stretch : PySem.W.findIn K (.ref c_Stretch) "__class__" = some (some (.builtin "object.__class__")))
    (cm_Stretch : PySem.W.mroIn K c_Stretch (.type "object") = some true)
    (n_Stretch_own_low : PySem.W.findIn K (.ref c_Stretch) "own_low" = some none)
    (n_Stretch_own_high : PySem.W.findIn K (.ref c_Stretch) "own_high" = some none)
    (n_Stretch_includes_low : PySem.W.findIn K (.ref c_Stretch) "includes_low" = some none)
    (n_Stretch_includes_high : PySem.W.findIn K (.ref c_Stretch) "includes_high" = some none)
    (n_Stretch_own_middle : PySem.W.findIn K (.ref c_Stretch) "own_middle" = some none)
    (cn : PySem.W.specialIn K (.builtin "object.__class__") "__get__" = some (some (.builtin "getset_descriptor.__get__")))
    (ct : PySem.W.takesIn K (.builtin "object.__class__") = some true)
    (z_super : PySem.W.nsIn K mainGlobals "super" = some none)
    (tp_any : PySem.W.nsIn K PySem.cStatics "thirdparty.any" = some none)
    (lC_BadStretch : K.lookup c_BadStretch = some (excClassObj nm_BadStretch qn_BadStretch c_BadStretch Ns_BadStretch bs_BadStretch bm_BadStretch true sn_BadStretch sub_BadStretch ab_BadStretch col_BadStretch dd_BadStretch k0_BadStretch k1_BadStretch k2_BadStretch k3_BadStretch k5_BadStretch "ValueError.__new__"))
    (rv_BadStretch : PySem.HandSPX.refsVE bm_BadStretch = true)
    (sa_BadStretch : PySem.W.findIn K (.ref c_BadStretch) "__setattr__" = some (some (.builtin "object.__setattr__")))
    (ex_BadStretch : PySem.W.subIn K (.ref c_BadStretch) (.type "BaseException") = some true)
    (ty_BadStretch : PySem.W.typeIn K (.ref c_BadStretch) = some (.type "type"))
    (kc_BadStretch : PySem.W.keepIn K (.ref c_BadStretch) = true)
    (in_BadStretch : PySem.W.findIn K (.ref c_BadStretch) "__init__" = some (some (.ref f_BadStretch_init)))
    (ti_BadStretch : PySem.W.typeIn K (.ref f_BadStretch_init) = some (.type "function"))
    (lf_BadStretch : K.lookup f_BadStretch_init = some ⟨oc_BadStretch, od_BadStretch, .func (PySem.W.ksFn "__init__" "BadStretch.__init__" (defArgs s_BadStretch_init) (defBody s_BadStretch_init) (defScope s_BadStretch_init) .none kV_BadStretch dc_BadStretch pm_BadStretch an_BadStretch (.ref cda_BadStretch) ct_BadStretch cc_BadStretch), osl_BadStretch⟩)
    (hc_BadStretch : PySem.W.codeIn K (.ref cda_BadStretch) "BadStretch.__init__" = true)
    (lk_BadStretch : K.lookup cda_BadStretch = some ⟨ccl_BadStretch, cdd_BadStretch, .fields cvs_BadStretch, ccs_BadStretch⟩)
    (vs_BadStretch : cvs_BadStretch[2]? = some (.str file_BadStretch tf_BadStretch))
    (fi_BadStretch : ((PP.main.file : Str) == file_BadStretch) = true)
    (lc_BadStretch : K.lookup cc_BadStretch = some ⟨cl_BadStretch, cld_BadStretch, .cell (some (.ref c_BadStretch)), csl_BadStretch⟩)
    (ms_BadStretch : PySem.W.mroIn K c_BadStretch (.ref c_BadStretch) = some true)
    (sv_BadStretch : PySem.W.subIn K (.ref c_BadStretch) (.type "ValueError") = some true)
    (sp_BadStretch : PySem.W.ks_superIn K c_BadStretch c_BadStretch "__init__" = some (some (.builtin "ValueError.__init__")))
    (no_BadStretch : PySem.W.findIn K (.ref c_BadStretch) "value" = some none)
    (ga_BadStretch : PySem.W.findIn K (.ref c_BadStretch) "__getattribute__" = some (some (.builtin "BaseException.__getattribute__")))
    (gg_BadStretch : PySem.W.findIn K (.ref c_BadStretch) "__getattr__" = some none)
    (hd_BadStretch : PySem.W.hasDictIn K c_BadStretch = true)
    (ca_BadStretch : PySem.W.findIn K (.ref c_BadStretch) "__class__" = some (some (.builtin "object.__class__")))
    (cm_BadStretch : PySem.W.mroIn K c_BadStretch (.type "object") = some true)
    (su_BadStretch_SpeedError : PySem.W.subIn K (.ref c_BadStretch) (.ref c_SpeedError) = some true)
    (ic_SpeedError : PySem.W.isClsIn K c_SpeedError = true)
    (sb_SpeedError : PySem.W.subIn K (.ref c_SpeedError) (.type "BaseException") = some true)
    (tt_SpeedError : PySem.W.typeIn K (.ref c_SpeedError) = some (.type "type"))
    (a_is_integer : PySem.W.nsIn K mainGlobals "is_integer" = some (some (.ref f_is_integer)))
    (l_is_integer : K.lookup f_is_integer = some ⟨oc_is_integer, od_is_integer, .func (PySem.W.fnOf "is_integer" "is_integer" (defArgs s_is_integer) (defBody s_is_integer) (defScope s_is_integer) .none kV_is_integer dc_is_integer pm_is_integer an_is_integer cd_is_integer ct_is_integer), osl_is_integer⟩)
    (hc_is_integer : PySem.W.codeIn K cd_is_integer "is_integer" = true)
    (k_is_integer : PySem.W.keepIn K (.ref f_is_integer) = true)
    (a_shared_divisor : PySem.W.nsIn K mainGlobals "shared_divisor" = some (some (.ref f_shared_divisor)))
    (l_shared_divisor : K.lookup f_shared_divisor = some ⟨oc_shared_divisor, od_shared_divisor, .func (PySem.W.fnOf "shared_divisor" "shared_divisor" (defArgs s_shared_divisor) (defBody s_shared_divisor) (defScope s_shared_divisor) .none kV_shared_divisor dc_shared_divisor pm_shared_divisor an_shared_divisor cd_shared_divisor ct_shared_divisor), osl_shared_divisor⟩)
    (hc_shared_divisor : PySem.W.codeIn K cd_shared_divisor "shared_divisor" = true)
    (k_shared_divisor : PySem.W.keepIn K (.ref f_shared_divisor) = true)
    (a_Number_init : PySem.W.findIn K (.ref c_Number) "__init__" = some (some (.ref f_Number_init)))
    (i_Number_init : PySem.W.isFn K (.ref f_Number_init) = true)
    (l_Number_init : K.lookup f_Number_init = some ⟨oc_Number_init, od_Number_init, .func (PySem.W.fnOf "__init__" "Number.__init__" (defArgs s_Number_init) (defBody s_Number_init) (defScope s_Number_init) (.ref T_Number_init) kV_Number_init dc_Number_init pm_Number_init an_Number_init cd_Number_init ct_Number_init), osl_Number_init⟩)
    (hc_Number_init : PySem.W.codeIn K cd_Number_init "Number.__init__" = true)
    (k_Number_init : PySem.W.keepIn K (.ref f_Number_init) = true)
    (lT_Number_init : K.lookup T_Number_init = some ⟨oT_Number_init, dT_Number_init, .seq #[.int 1 t_Number_init_0] nT_Number_init, sT_Number_init⟩)
    (at_Number_top : PySem.W.findIn K (.ref c_Number) "top" = some (some (.ref p_Number_top)))
    (gt_Number_top : PySem.W.specialIn K (.ref p_Number_top) "__get__" = some (some (.builtin "property.__get__")))
    (tk_Number_top : PySem.W.takesIn K (.ref p_Number_top) = some true)
    (rc_Number_top : PySem.W.recIn K p_Number_top "property" = some (.ref f_Number_top :: r_Number_top))
    (l_Number_top : K.lookup f_Number_top = some ⟨oc_Number_top, od_Number_top, .func (PySem.W.fnOf "top" "Number.top" (defArgs s_Number_top) (defBody s_Number_top) (defScope s_Number_top) .none kV_Number_top dc_Number_top pm_Number_top an_Number_top cd_Number_top ct_Number_top), osl_Number_top⟩)
    (hc_Number_top : PySem.W.codeIn K cd_Number_top "Number.top" = true)
    (k_Number_top : PySem.W.keepIn K (.ref f_Number_top) = true)
    (at_Number_bottom : PySem.W.findIn K (.ref c_Number) "bottom" = some (some (.ref p_Number_bottom)))
    (gt_Number_bottom : PySem.W.specialIn K (.ref p_Number_bottom) "__get__" = some (some (.builtin "property.__get__")))
    (tk_Number_bottom : PySem.W.takesIn K (.ref p_Number_bottom) = some true)
    (rc_Number_bottom : PySem.W.recIn K p_Number_bottom "property" = some (.ref f_Number_bottom :: r_Number_bottom))
    (l_Number_bottom : K.lookup f_Number_bottom = some ⟨oc_Number_bottom, od_Number_bottom, .func (PySem.W.fnOf "bottom" "Number.bottom" (defArgs s_Number_bottom) (defBody s_Number_bottom) (defScope s_Number_bottom) .none kV_Number_bottom dc_Number_bottom pm_Number_bottom an_Number_bottom cd_Number_bottom ct_Number_bottom), osl_Number_bottom⟩)
    (hc_Number_bottom : PySem.W.codeIn K cd_Number_bottom "Number.bottom" = true)
    (k_Number_bottom : PySem.W.keepIn K (.ref f_Number_bottom) = true)
    (a_Number_eq : PySem.W.findIn K (.ref c_Number) "__eq__" = some (some (.ref f_Number_eq)))
    (i_Number_eq : PySem.W.isFn K (.ref f_Number_eq) = true)
    (l_Number_eq : K.lookup f_Number_eq = some ⟨oc_Number_eq, od_Number_eq, .func (PySem.W.fnOf "__eq__" "Number.__eq__" (defArgs s_Number_eq) (defBody s_Number_eq) (defScope s_Number_eq) .none kV_Number_eq dc_Number_eq pm_Number_eq an_Number_eq cd_Number_eq ct_Number_eq), osl_Number_eq⟩)
    (hc_Number_eq : PySem.W.codeIn K cd_Number_eq "Number.__eq__" = true)
    (k_Number_eq : PySem.W.keepIn K (.ref f_Number_eq) = true)
    (a_Number_is_less : PySem.W.findIn K (.ref c_Number) "is_less" = some (some (.ref f_Number_is_less)))
    (i_Number_is_less : PySem.W.isFn K (.ref f_Number_is_less) = true)
    (l_Number_is_less : K.lookup f_Number_is_less = some ⟨oc_Number_is_less, od_Number_is_less, .func (PySem.W.fnOf "is_less" "Number.is_less" (defArgs s_Number_is_less) (defBody s_Number_is_less) (defScope s_Number_is_less) .none kV_Number_is_less dc_Number_is_less pm_Number_is_less an_Number_is_less cd_Number_is_less ct_Number_is_less), osl_Number_is_less⟩)
    (hc_Number_is_less : PySem.W.codeIn K cd_Number_is_less "Number.is_less" = true)
    (k_Number_is_less : PySem.W.keepIn K (.ref f_Number_is_less) = true)
    (a_Number_add : PySem.W.findIn K (.ref c_Number) "__add__" = some (some (.ref f_Number_add)))
    (i_Number_add : PySem.W.isFn K (.ref f_Number_add) = true)
    (l_Number_add : K.lookup f_Number_add = some ⟨oc_Number_add, od_Number_add, .func (PySem.W.fnOf "__add__" "Number.__add__" (defArgs s_Number_add) (defBody s_Number_add) (defScope s_Number_add) .none kV_Number_add dc_Number_add pm_Number_add an_Number_add cd_Number_add ct_Number_add), osl_Number_add⟩)
    (hc_Number_add : PySem.W.codeIn K cd_Number_add "Number.__add__" = true)
    (k_Number_add : PySem.W.keepIn K (.ref f_Number_add) = true)
    (a_Number_divided_by : PySem.W.findIn K (.ref c_Number) "divided_by" = some (some (.ref f_Number_divided_by)))
    (i_Number_divided_by : PySem.W.isFn K (.ref f_Number_divided_by) = true)
    (l_Number_divided_by : K.lookup f_Number_divided_by = some ⟨oc_Number_divided_by, od_Number_divided_by, .func (PySem.W.fnOf "divided_by" "Number.divided_by" (defArgs s_Number_divided_by) (defBody s_Number_divided_by) (defScope s_Number_divided_by) .none kV_Number_divided_by dc_Number_divided_by pm_Number_divided_by an_Number_divided_by cd_Number_divided_by ct_Number_divided_by), osl_Number_divided_by⟩)
    (hc_Number_divided_by : PySem.W.codeIn K cd_Number_divided_by "Number.divided_by" = true)
    (k_Number_divided_by : PySem.W.keepIn K (.ref f_Number_divided_by) = true)
    (a_whole : PySem.W.nsIn K mainGlobals "whole" = some (some (.ref f_whole)))
    (l_whole : K.lookup f_whole = some ⟨oc_whole, od_whole, .func (PySem.W.fnOf "whole" "whole" (defArgs s_whole) (defBody s_whole) (defScope s_whole) .none kV_whole dc_whole pm_whole an_whole cd_whole ct_whole), osl_whole⟩)
    (hc_whole : PySem.W.codeIn K cd_whole "whole" = true)
    (k_whole : PySem.W.keepIn K (.ref f_whole) = true)
    (a_Line_init : PySem.W.findIn K (.ref c_Line) "__init__" = some (some (.ref f_Line_init)))
    (i_Line_init : PySem.W.isFn K (.ref f_Line_init) = true)
    (l_Line_init : K.lookup f_Line_init = some ⟨oc_Line_init, od_Line_init, .func (PySem.W.fnOf "__init__" "Line.__init__" (defArgs s_Line_init) (defBody s_Line_init) (defScope s_Line_init) .none kV_Line_init dc_Line_init pm_Line_init an_Line_init cd_Line_init ct_Line_init), osl_Line_init⟩)
    (hc_Line_init : PySem.W.codeIn K cd_Line_init "Line.__init__" = true)
    (k_Line_init : PySem.W.keepIn K (.ref f_Line_init) = true)
    (a_Stretch_init : PySem.W.findIn K (.ref c_Stretch) "__init__" = some (some (.ref f_Stretch_init)))
    (i_Stretch_init : PySem.W.isFn K (.ref f_Stretch_init) = true)
    (l_Stretch_init : K.lookup f_Stretch_init = some ⟨oc_Stretch_init, od_Stretch_init, .func (PySem.W.fnOf "__init__" "Stretch.__init__" (defArgs s_Stretch_init) (defBody s_Stretch_init) (defScope s_Stretch_init) .none (.ref D_Stretch_init) dc_Stretch_init pm_Stretch_init an_Stretch_init cd_Stretch_init ct_Stretch_init), osl_Stretch_init⟩)
    (hc_Stretch_init : PySem.W.codeIn K cd_Stretch_init "Stretch.__init__" = true)
    (k_Stretch_init : PySem.W.keepIn K (.ref f_Stretch_init) = true)
    (kw_Stretch_init_has_low : PySem.W.nsIn K D_Stretch_init "has_low" = some (some (.bool true)))
    (kw_Stretch_init_has_high : PySem.W.nsIn K D_Stretch_init "has_high" = some (some (.bool true)))
    (at_Stretch_low : PySem.W.findIn K (.ref c_Stretch) "low" = some (some (.ref p_Stretch_low)))
    (gt_Stretch_low : PySem.W.specialIn K (.ref p_Stretch_low) "__get__" = some (some (.builtin "property.__get__")))
    (tk_Stretch_low : PySem.W.takesIn K (.ref p_Stretch_low) = some true)
    (rc_Stretch_low : PySem.W.recIn K p_Stretch_low "property" = some (.ref f_Stretch_low :: r_Stretch_low))
    (l_Stretch_low : K.lookup f_Stretch_low = some ⟨oc_Stretch_low, od_Stretch_low, .func (PySem.W.fnOf "low" "Stretch.low" (defArgs s_Stretch_low) (defBody s_Stretch_low) (defScope s_Stretch_low) .none kV_Stretch_low dc_Stretch_low pm_Stretch_low an_Stretch_low cd_Stretch_low ct_Stretch_low), osl_Stretch_low⟩)
    (hc_Stretch_low : PySem.W.codeIn K cd_Stretch_low "Stretch.low" = true)
    (k_Stretch_low : PySem.W.keepIn K (.ref f_Stretch_low) = true)
    (at_Stretch_high : PySem.W.findIn K (.ref c_Stretch) "high" = some (some (.ref p_Stretch_high)))
    (gt_Stretch_high : PySem.W.specialIn K (.ref p_Stretch_high) "__get__" = some (some (.builtin "property.__get__")))
    (tk_Stretch_high : PySem.W.takesIn K (.ref p_Stretch_high) = some true)
    (rc_Stretch_high : PySem.W.recIn K p_Stretch_high "property" = some (.ref f_Stretch_high :: r_Stretch_high))
    (l_Stretch_high : K.lookup f_Stretch_high = some ⟨oc_Stretch_high, od_Stretch_high, .func (PySem.W.fnOf "high" "Stretch.high" (defArgs s_Stretch_high) (defBody s_Stretch_high) (defScope s_Stretch_high) .none kV_Stretch_high dc_Stretch_high pm_Stretch_high an_Stretch_high cd_Stretch_high ct_Stretch_high), osl_Stretch_high⟩)
    (hc_Stretch_high : PySem.W.codeIn K cd_Stretch_high "Stretch.high" = true)
    (k_Stretch_high : PySem.W.keepIn K (.ref f_Stretch_high) = true)
    (at_Stretch_has_low : PySem.W.findIn K (.ref c_Stretch) "has_low" = some (some (.ref p_Stretch_has_low)))
    (gt_Stretch_has_low : PySem.W.specialIn K (.ref p_Stretch_has_low) "__get__" = some (some (.builtin "property.__get__")))
    (tk_Stretch_has_low : PySem.W.takesIn K (.ref p_Stretch_has_low) = some true)
    (rc_Stretch_has_low : PySem.W.recIn K p_Stretch_has_low "property" = some (.ref f_Stretch_has_low :: r_Stretch_has_low))
    (l_Stretch_has_low : K.lookup f_Stretch_has_low = some ⟨oc_Stretch_has_low, od_Stretch_has_low, .func (PySem.W.fnOf "has_low" "Stretch.has_low" (defArgs s_Stretch_has_low) (defBody s_Stretch_has_low) (defScope s_Stretch_has_low) .none kV_Stretch_has_low dc_Stretch_has_low pm_Stretch_has_low an_Stretch_has_low cd_Stretch_has_low ct_Stretch_has_low), osl_Stretch_has_low⟩)
    (hc_Stretch_has_low : PySem.W.codeIn K cd_Stretch_has_low "Stretch.has_low" = true)
    (k_Stretch_has_low : PySem.W.keepIn K (.ref f_Stretch_has_low) = true)
    (at_Stretch_has_high : PySem.W.findIn K (.ref c_Stretch) "has_high" = some (some (.ref p_Stretch_has_high)))
    (gt_Stretch_has_high : PySem.W.specialIn K (.ref p_Stretch_has_high) "__get__" = some (some (.builtin "property.__get__")))
    (tk_Stretch_has_high : PySem.W.takesIn K (.ref p_Stretch_has_high) = some true)
    (rc_Stretch_has_high : PySem.W.recIn K p_Stretch_has_high "property" = some (.ref f_Stretch_has_high :: r_Stretch_has_high))
    (l_Stretch_has_high : K.lookup f_Stretch_has_high = some ⟨oc_Stretch_has_high, od_Stretch_has_high, .func (PySem.W.fnOf "has_high" "Stretch.has_high" (defArgs s_Stretch_has_high) (defBody s_Stretch_has_high) (defScope s_Stretch_has_high) .none kV_Stretch_has_high dc_Stretch_has_high pm_Stretch_has_high an_Stretch_has_high cd_Stretch_has_high ct_Stretch_has_high), osl_Stretch_has_high⟩)
    (hc_Stretch_has_high : PySem.W.codeIn K cd_Stretch_has_high "Stretch.has_high" = true)
    (k_Stretch_has_high : PySem.W.keepIn K (.ref f_Stretch_has_high) = true)
    (at_Stretch_middle : PySem.W.findIn K (.ref c_Stretch) "middle" = some (some (.ref p_Stretch_middle)))
    (gt_Stretch_middle : PySem.W.specialIn K (.ref p_Stretch_middle) "__get__" = some (some (.builtin "property.__get__")))
    (tk_Stretch_middle : PySem.W.takesIn K (.ref p_Stretch_middle) = some true)
    (rc_Stretch_middle : PySem.W.recIn K p_Stretch_middle "property" = some (.ref f_Stretch_middle :: r_Stretch_middle))
    (l_Stretch_middle : K.lookup f_Stretch_middle = some ⟨oc_Stretch_middle, od_Stretch_middle, .func (PySem.W.fnOf "middle" "Stretch.middle" (defArgs s_Stretch_middle) (defBody s_Stretch_middle) (defScope s_Stretch_middle) .none kV_Stretch_middle dc_Stretch_middle pm_Stretch_middle an_Stretch_middle cd_Stretch_middle ct_Stretch_middle), osl_Stretch_middle⟩)
    (hc_Stretch_middle : PySem.W.codeIn K cd_Stretch_middle "Stretch.middle" = true)
    (k_Stretch_middle : PySem.W.keepIn K (.ref f_Stretch_middle) = true)
    (a_law_pot : PySem.W.nsIn K mainGlobals "_law_pot" = some (some (.ref f_law_pot)))
    (l_law_pot : K.lookup f_law_pot = some ⟨oc_law_pot, od_law_pot, .func (PySem.W.fnOf "_law_pot" "_law_pot" (defArgs s_law_pot) (defBody s_law_pot) (defScope s_law_pot) .none kV_law_pot dc_law_pot pm_law_pot an_law_pot cd_law_pot ct_law_pot), osl_law_pot⟩)
    (hc_law_pot : PySem.W.codeIn K cd_law_pot "_law_pot" = true)
    (k_law_pot : PySem.W.keepIn K (.ref f_law_pot) = true)
    (a_law_take : PySem.W.nsIn K mainGlobals "_law_take" = some (some (.ref f_law_take)))
    (l_law_take : K.lookup f_law_take = some ⟨oc_law_take, od_law_take, .func (PySem.W.fnOf "_law_take" "_law_take" (defArgs s_law_take) (defBody s_law_take) (defScope s_law_take) .none kV_law_take dc_law_take pm_law_take an_law_take cd_law_take ct_law_take), osl_law_take⟩)
    (hc_law_take : PySem.W.codeIn K cd_law_take "_law_take" = true)
    (k_law_take : PySem.W.keepIn K (.ref f_law_take) = true)
    (a_law_of : PySem.W.nsIn K mainGlobals "_law_of" = some (some (.ref f_law_of)))
    (l_law_of : K.lookup f_law_of = some ⟨oc_law_of, od_law_of, .func (PySem.W.fnOf "_law_of" "_law_of" (defArgs s_law_of) (defBody s_law_of) (defScope s_law_of) .none kV_law_of dc_law_of pm_law_of an_law_of cd_law_of ct_law_of), osl_law_of⟩)
    (hc_law_of : PySem.W.codeIn K cd_law_of "_law_of" = true)
    (k_law_of : PySem.W.keepIn K (.ref f_law_of) = true)
    (a_law_drawn : PySem.W.nsIn K mainGlobals "_law_drawn" = some (some (.ref f_law_drawn)))
    (l_law_drawn : K.lookup f_law_drawn = some ⟨oc_law_drawn, od_law_drawn, .func (PySem.W.fnOf "_law_drawn" "_law_drawn" (defArgs s_law_drawn) (defBody s_law_drawn) (defScope s_law_drawn) .none kV_law_drawn dc_law_drawn pm_law_drawn an_law_drawn cd_law_drawn ct_law_drawn), osl_law_drawn⟩)
    (hc_law_drawn : PySem.W.codeIn K cd_law_drawn "_law_drawn" = true)
    (k_law_drawn : PySem.W.keepIn K (.ref f_law_drawn) = true)
    (a_law_odd : PySem.W.nsIn K mainGlobals "_law_odd" = some (some (.ref f_law_odd)))
    (l_law_odd : K.lookup f_law_odd = some ⟨oc_law_odd, od_law_odd, .func (PySem.W.fnOf "_law_odd" "_law_odd" (defArgs s_law_odd) (defBody s_law_odd) (defScope s_law_odd) .none kV_law_odd dc_law_odd pm_law_odd an_law_odd cd_law_odd ct_law_odd), osl_law_odd⟩)
    (hc_law_odd : PySem.W.codeIn K cd_law_odd "_law_odd" = true)
    (k_law_odd : PySem.W.keepIn K (.ref f_law_odd) = true)
    (a_law_is_fine : PySem.W.nsIn K mainGlobals "_law_is_fine" = some (some (.ref f_law_is_fine)))
    (l_law_is_fine : K.lookup f_law_is_fine = some ⟨oc_law_is_fine, od_law_is_fine, .func (PySem.W.fnOf "_law_is_fine" "_law_is_fine" (defArgs s_law_is_fine) (defBody s_law_is_fine) (defScope s_law_is_fine) .none kV_law_is_fine dc_law_is_fine pm_law_is_fine an_law_is_fine cd_law_is_fine ct_law_is_fine), osl_law_is_fine⟩)
    (hc_law_is_fine : PySem.W.codeIn K cd_law_is_fine "_law_is_fine" = true)
    (k_law_is_fine : PySem.W.keepIn K (.ref f_law_is_fine) = true)
    (a_law_heard : PySem.W.nsIn K mainGlobals "_law_heard" = some (some (.ref f_law_heard)))
    (l_law_heard : K.lookup f_law_heard = some ⟨oc_law_heard, od_law_heard, .func (PySem.W.fnOf "_law_heard" "_law_heard" (defArgs s_law_heard) (defBody s_law_heard) (defScope s_law_heard) .none kV_law_heard dc_law_heard pm_law_heard an_law_heard cd_law_heard ct_law_heard), osl_law_heard⟩)
    (hc_law_heard : PySem.W.codeIn K cd_law_heard "_law_heard" = true)
    (k_law_heard : PySem.W.keepIn K (.ref f_law_heard) = true)
    (a_law_is_refused : PySem.W.nsIn K mainGlobals "_law_is_refused" = some (some (.ref f_law_is_refused)))
    (l_law_is_refused : K.lookup f_law_is_refused = some ⟨oc_law_is_refused, od_law_is_refused, .func (PySem.W.fnOf "_law_is_refused" "_law_is_refused" (defArgs s_law_is_refused) (defBody s_law_is_refused) (defScope s_law_is_refused) .none kV_law_is_refused dc_law_is_refused pm_law_is_refused an_law_is_refused cd_law_is_refused ct_law_is_refused), osl_law_is_refused⟩)
    (hc_law_is_refused : PySem.W.codeIn K cd_law_is_refused "_law_is_refused" = true)
    (k_law_is_refused : PySem.W.keepIn K (.ref f_law_is_refused) = true)
    (a_law_is_right : PySem.W.nsIn K mainGlobals "_law_is_right" = some (some (.ref f_law_is_right)))
    (l_law_is_right : K.lookup f_law_is_right = some ⟨oc_law_is_right, od_law_is_right, .func (PySem.W.fnOf "_law_is_right" "_law_is_right" (defArgs s_law_is_right) (defBody s_law_is_right) (defScope s_law_is_right) .none kV_law_is_right dc_law_is_right pm_law_is_right an_law_is_right cd_law_is_right ct_law_is_right), osl_law_is_right⟩)
    (hc_law_is_right : PySem.W.codeIn K cd_law_is_right "_law_is_right" = true)
    (k_law_is_right : PySem.W.keepIn K (.ref f_law_is_right) = true)
    (a_law : PySem.W.nsIn K mainGlobals "law" = some (some (.ref f_law)))
    (l_law : K.lookup f_law = some ⟨oc_law, od_law, .func (PySem.W.fnOf "law" "law" (defArgs s_law) (defBody s_law) (defScope s_law) .none kV_law dc_law pm_law an_law cd_law ct_law), osl_law⟩)
    (hc_law : PySem.W.codeIn K cd_law "law" = true)
    (k_law : PySem.W.keepIn K (.ref f_law) = true)
    (z_isinstance : PySem.W.nsIn K mainGlobals "isinstance" = some none)
    (z_int : PySem.W.nsIn K mainGlobals "int" = some none)
    (z_bool : PySem.W.nsIn K mainGlobals "bool" = some none)
    (z_abs : PySem.W.nsIn K mainGlobals "abs" = some none)
    (z_len : PySem.W.nsIn K mainGlobals "len" = some none)
    (z_max : PySem.W.nsIn K mainGlobals "max" = some none)
    (z_min : PySem.W.nsIn K mainGlobals "min" = some none)
    (z_range : PySem.W.nsIn K mainGlobals "range" = some none)
    (z_repr : PySem.W.nsIn K mainGlobals "repr" = some none)
    (z_all : PySem.W.nsIn K mainGlobals "all" = some none)
    (z_zip : PySem.W.nsIn K mainGlobals "zip" = some none)
    (z_tuple : PySem.W.nsIn K mainGlobals "tuple" = some none)
    (kit_NumNum : PySem.W.kitOne K (.ref c_Number) (.ref c_Number) = some true)
    (kit_StrStr : PySem.W.kitOne K (.ref c_Stretch) (.ref c_Stretch) = some true)
    (kit_blbl : PySem.W.kitOne K (.type "bool") (.type "bool") = some true)
    (kit_tuptup : PySem.W.kitOne K (.type "tuple") (.type "tuple") = some true)
    (kit_SB : PySem.W.kitOne K (.ref c_BadStretch) (.ref c_BadStretch) = some true)
    (kit_SN : PySem.W.kitOne K (.ref c_BadStretch) (.ref c_BadNumber) = some false)
    (kit_LinNum : PySem.W.kitOne K (.ref c_Line) (.ref c_Number) = some false)
    (kit_Linbl : PySem.W.kitOne K (.ref c_Line) (.type "bool") = some false)
    (kit_nonNum : PySem.W.kitOne K (.type "NoneType") (.ref c_Number) = some false)
    (kit_nonbl : PySem.W.kitOne K (.type "NoneType") (.type "bool") = some false)
    (kit_intNum : PySem.W.kitOne K (.type "int") (.ref c_Number) = some false)
    (kit_intbl : PySem.W.kitOne K (.type "int") (.type "bool") = some false)
    (kit_strNum : PySem.W.kitOne K (.type "str") (.ref c_Number) = some false)
    (kit_strbl : PySem.W.kitOne K (.type "str") (.type "bool") = some false)
    (kit_tupNum : PySem.W.kitOne K (.type "tuple") (.ref c_Number) = some false)
    (kit_tupbl : PySem.W.kitOne K (.type "tuple") (.type "bool") = some false)
    (kit_lstNum : PySem.W.kitOne K (.type "list") (.ref c_Number) = some false)
    (kit_lstbl : PySem.W.kitOne K (.type "list") (.type "bool") = some false)
    (kit_dctNum : PySem.W.kitOne K (.type "dict") (.ref c_Number) = some false)
    (kit_dctbl : PySem.W.kitOne K (.type "dict") (.type "bool") = some false)
    : ∃ A : Ad, A.f_law = f_law ∧ Txt K mg A :=
  ⟨⟨c_SpeedError, c_BadNumber, c_BadStretch, c_Number, c_Line, c_Stretch, f_BadStretch_init, (PySem.W.ksFn "__init__" "BadStretch.__init__" (defArgs s_BadStretch_init) (defBody s_BadStretch_init) (defScope s_BadStretch_init) .none kV_BadStretch dc_BadStretch pm_BadStretch an_BadStretch (.ref cda_BadStretch) ct_BadStretch cc_BadStretch), f_is_integer, (PySem.W.fnOf "is_integer" "is_integer" (defArgs s_is_integer) (defBody s_is_integer) (defScope s_is_integer) .none kV_is_integer dc_is_integer pm_is_integer an_is_integer cd_is_integer ct_is_integer), f_shared_divisor, (PySem.W.fnOf "shared_divisor" "shared_divisor" (defArgs s_shared_divisor) (defBody s_shared_divisor) (defScope s_shared_divisor) .none kV_shared_divisor dc_shared_divisor pm_shared_divisor an_shared_divisor cd_shared_divisor ct_shared_divisor), f_Number_init, (PySem.W.fnOf "__init__" "Number.__init__" (defArgs s_Number_init) (defBody s_Number_init) (defScope s_Number_init) (.ref T_Number_init) kV_Number_init dc_Number_init pm_Number_init an_Number_init cd_Number_init ct_Number_init), f_Number_top, (PySem.W.fnOf "top" "Number.top" (defArgs s_Number_top) (defBody s_Number_top) (defScope s_Number_top) .none kV_Number_top dc_Number_top pm_Number_top an_Number_top cd_Number_top ct_Number_top), p_Number_top, f_Number_bottom, (PySem.W.fnOf "bottom" "Number.bottom" (defArgs s_Number_bottom) (defBody s_Number_bottom) (defScope s_Number_bottom) .none kV_Number_bottom dc_Number_bottom pm_Number_bottom an_Number_bottom cd_Number_bottom ct_Number_bottom), p_Number_bottom, f_Number_eq, (PySem.W.fnOf "__eq__" "Number.__eq__" (defArgs s_Number_eq) (defBody s_Number_eq) (defScope s_Number_eq) .none kV_Number_eq dc_Number_eq pm_Number_eq an_Number_eq cd_Number_eq ct_Number_eq), f_Number_is_less, (PySem.W.fnOf "is_less" "Number.is_less" (defArgs s_Number_is_less) (defBody s_Number_is_less) (defScope s_Number_is_less) .none kV_Number_is_less dc_Number_is_less pm_Number_is_less an_Number_is_less cd_Number_is_less ct_Number_is_less), f_Number_add, (PySem.W.fnOf "__add__" "Number.__add__" (defArgs s_Number_add) (defBody s_Number_add) (defScope s_Number_add) .none kV_Number_add dc_Number_add pm_Number_add an_Number_add cd_Number_add ct_Number_add), f_Number_divided_by, (PySem.W.fnOf "divided_by" "Number.divided_by" (defArgs s_Number_divided_by) (defBody s_Number_divided_by) (defScope s_Number_divided_by) .none kV_Number_divided_by dc_Number_divided_by pm_Number_divided_by an_Number_divided_by cd_Number_divided_by ct_Number_divided_by), f_whole, (PySem.W.fnOf "whole" "whole" (defArgs s_whole) (defBody s_whole) (defScope s_whole) .none kV_whole dc_whole pm_whole an_whole cd_whole ct_whole), f_Line_init, (PySem.W.fnOf "__init__" "Line.__init__" (defArgs s_Line_init) (defBody s_Line_init) (defScope s_Line_init) .none kV_Line_init dc_Line_init pm_Line_init an_Line_init cd_Line_init ct_Line_init), f_Stretch_init, (PySem.W.fnOf "__init__" "Stretch.__init__" (defArgs s_Stretch_init) (defBody s_Stretch_init) (defScope s_Stretch_init) .none (.ref D_Stretch_init) dc_Stretch_init pm_Stretch_init an_Stretch_init cd_Stretch_init ct_Stretch_init), f_Stretch_low, (PySem.W.fnOf "low" "Stretch.low" (defArgs s_Stretch_low) (defBody s_Stretch_low) (defScope s_Stretch_low) .none kV_Stretch_low dc_Stretch_low pm_Stretch_low an_Stretch_low cd_Stretch_low ct_Stretch_low), p_Stretch_low, f_Stretch_high, (PySem.W.fnOf "high" "Stretch.high" (defArgs s_Stretch_high) (defBody s_Stretch_high) (defScope s_Stretch_high) .none kV_Stretch_high dc_Stretch_high pm_Stretch_high an_Stretch_high cd_Stretch_high ct_Stretch_high), p_Stretch_high, f_Stretch_has_low, (PySem.W.fnOf "has_low" "Stretch.has_low" (defArgs s_Stretch_has_low) (defBody s_Stretch_has_low) (defScope s_Stretch_has_low) .none kV_Stretch_has_low dc_Stretch_has_low pm_Stretch_has_low an_Stretch_has_low cd_Stretch_has_low ct_Stretch_has_low), p_Stretch_has_low, f_Stretch_has_high, (PySem.W.fnOf "has_high" "Stretch.has_high" (defArgs s_Stretch_has_high) (defBody s_Stretch_has_high) (defScope s_Stretch_has_high) .none kV_Stretch_has_high dc_Stretch_has_high pm_Stretch_has_high an_Stretch_has_high cd_Stretch_has_high ct_Stretch_has_high), p_Stretch_has_high, f_Stretch_middle, (PySem.W.fnOf "middle" "Stretch.middle" (defArgs s_Stretch_middle) (defBody s_Stretch_middle) (defScope s_Stretch_middle) .none kV_Stretch_middle dc_Stretch_middle pm_Stretch_middle an_Stretch_middle cd_Stretch_middle ct_Stretch_middle), p_Stretch_middle, f_law_pot, (PySem.W.fnOf "_law_pot" "_law_pot" (defArgs s_law_pot) (defBody s_law_pot) (defScope s_law_pot) .none kV_law_pot dc_law_pot pm_law_pot an_law_pot cd_law_pot ct_law_pot), f_law_take, (PySem.W.fnOf "_law_take" "_law_take" (defArgs s_law_take) (defBody s_law_take) (defScope s_law_take) .none kV_law_take dc_law_take pm_law_take an_law_take cd_law_take ct_law_take), f_law_of, (PySem.W.fnOf "_law_of" "_law_of" (defArgs s_law_of) (defBody s_law_of) (defScope s_law_of) .none kV_law_of dc_law_of pm_law_of an_law_of cd_law_of ct_law_of), f_law_drawn, (PySem.W.fnOf "_law_drawn" "_law_drawn" (defArgs s_law_drawn) (defBody s_law_drawn) (defScope s_law_drawn) .none kV_law_drawn dc_law_drawn pm_law_drawn an_law_drawn cd_law_drawn ct_law_drawn), f_law_odd, (PySem.W.fnOf "_law_odd" "_law_odd" (defArgs s_law_odd) (defBody s_law_odd) (defScope s_law_odd) .none kV_law_odd dc_law_odd pm_law_odd an_law_odd cd_law_odd ct_law_odd), f_law_is_fine, (PySem.W.fnOf "_law_is_fine" "_law_is_fine" (defArgs s_law_is_fine) (defBody s_law_is_fine) (defScope s_law_is_fine) .none kV_law_is_fine dc_law_is_fine pm_law_is_fine an_law_is_fine cd_law_is_fine ct_law_is_fine), f_law_heard, (PySem.W.fnOf "_law_heard" "_law_heard" (defArgs s_law_heard) (defBody s_law_heard) (defScope s_law_heard) .none kV_law_heard dc_law_heard pm_law_heard an_law_heard cd_law_heard ct_law_heard), f_law_is_refused, (PySem.W.fnOf "_law_is_refused" "_law_is_refused" (defArgs s_law_is_refused) (defBody s_law_is_refused) (defScope s_law_is_refused) .none kV_law_is_refused dc_law_is_refused pm_law_is_refused an_law_is_refused cd_law_is_refused ct_law_is_refused), f_law_is_right, (PySem.W.fnOf "_law_is_right" "_law_is_right" (defArgs s_law_is_right) (defBody s_law_is_right) (defScope s_law_is_right) .none kV_law_is_right dc_law_is_right pm_law_is_right an_law_is_right cd_law_is_right ct_law_is_right), f_law, (PySem.W.fnOf "law" "law" (defArgs s_law) (defBody s_law) (defScope s_law) .none kV_law dc_law pm_law an_law cd_law ct_law)⟩, rfl, {
    g_SpeedError := PySem.W.mg_of X G a_SpeedError,
    g_BadNumber := PySem.W.mg_of X G a_BadNumber,
    g_BadStretch := PySem.W.mg_of X G a_BadStretch,
    g_Number := PySem.W.mg_of X G a_Number,
    cl_Number := ⟨pg_Number, hd_Number, po_Number, sa_Number⟩,
    M_Number := ⟨mk_Number, a_Number_init, i_Number_init, kc_Number⟩,
    sf_Number := sf_Number,
    ca_Number := ca_Number,
    cm_Number := cm_Number,
    n_Number_own_top := n_Number_own_top,
    n_Number_own_bottom := n_Number_own_bottom,
    g_Line := PySem.W.mg_of X G a_Line,
    cl_Line := ⟨pg_Line, hd_Line, po_Line, sa_Line⟩,
    M_Line := ⟨mk_Line, a_Line_init, i_Line_init, kc_Line⟩,
    sf_Line := sf_Line,
    ca_Line := ca_Line,
    cm_Line := cm_Line,
    n_Line_own_base := n_Line_own_base,
    n_Line_own_slope := n_Line_own_slope,
    g_Stretch := PySem.W.mg_of X G a_Stretch,
    cl_Stretch := ⟨pg_Stretch, hd_Stretch, po_Stretch, sa_Stretch⟩,
    M_Stretch := ⟨mk_Stretch, a_Stretch_init, i_Stretch_init, kc_Stretch⟩,
    sf_Stretch := sf_Stretch,
    ca_Stretch := ca_Stretch,
    cm_Stretch := cm_Stretch,
    n_Stretch_own_low := n_Stretch_own_low,
    n_Stretch_own_high := n_Stretch_own_high,
    n_Stretch_includes_low := n_Stretch_includes_low,
    n_Stretch_includes_high := n_Stretch_includes_high,
    n_Stretch_own_middle := n_Stretch_own_middle,
    cn := cn,
    ct := ct,
    X_BadStretch := ⟨⟨_, _, _, _, _, _, _, _, _, _, _, _, _, _, _, lC_BadStretch, rv_BadStretch⟩, sa_BadStretch, ex_BadStretch, ty_BadStretch, kc_BadStretch⟩,
    C_BadStretch := ⟨⟨ga_BadStretch, gg_BadStretch, ex_BadStretch, hd_BadStretch⟩, by unfold PySem.W.clsIn; rw [lC_BadStretch] <;> rfl, ca_BadStretch, cn, ct, cm_BadStretch⟩,
    no_BadStretch := no_BadStretch,
    in_BadStretch := in_BadStretch,
    ti_BadStretch := ti_BadStretch,
    b_BadStretch_init := Binds.all fun us hl => match us, hl with | [_, _], _ => rfl,
    I_BadStretch := fun w base => ok_superInit lf_BadStretch hc_BadStretch lk_BadStretch vs_BadStretch fi_BadStretch lc_BadStretch ⟨⟨_, _, _, _, _, _, _, _, _, _, _, _, _, _, _, lC_BadStretch, rv_BadStretch⟩, sa_BadStretch, ex_BadStretch, ty_BadStretch, kc_BadStretch⟩ ms_BadStretch sv_BadStretch sp_BadStretch tp_any no_BadStretch (PySem.W.mg_none_of X G z_super) (by decide +kernel) (by decide +kernel) rfl rfl rfl rfl rfl rfl (by decide +kernel) rfl rfl rfl (by decide +kernel) (fun _ => rfl) (fun _ => rfl) (fun _ => rfl) (fun _ => rfl),
    em_BadStretch_SpeedError := exm_mk sb_SpeedError ic_SpeedError tt_SpeedError su_BadStretch_SpeedError,
    g_is_integer := PySem.W.mg_of X G a_is_integer,
    F_is_integer := fun_mk (st := s_is_integer) l_is_integer hc_is_integer k_is_integer,
    b_is_integer := (fun_mk (st := s_is_integer) l_is_integer hc_is_integer k_is_integer).binds (ps := ["value"]) fun _ _ _ _ _ _ us hl => match us, hl with | [_], _ => rfl,
    g_shared_divisor := PySem.W.mg_of X G a_shared_divisor,
    F_shared_divisor := fun_mk (st := s_shared_divisor) l_shared_divisor hc_shared_divisor k_shared_divisor,
    b_shared_divisor := (fun_mk (st := s_shared_divisor) l_shared_divisor hc_shared_divisor k_shared_divisor).binds (ps := ["one", "other"]) fun _ _ _ _ _ _ us hl => match us, hl with | [_, _], _ => rfl,
    m_Number_init := ⟨a_Number_init, i_Number_init, k_Number_init⟩,
    F_Number_init := ⟨⟨_, _, _, _, _, _, _, _, _, _, rfl, l_Number_init, hc_Number_init, Or.inr ⟨by simp, _, _, [.int 1 t_Number_init_0], _, rfl, lT_Number_init, rfl, .cons ⟨_, rfl⟩ (.nil)⟩, Or.inl rfl⟩, k_Number_init⟩,
    P_Number_top := ⟨at_Number_top, gt_Number_top, tk_Number_top, ⟨_, rc_Number_top⟩⟩,
    F_Number_top := fun_mk (st := s_Number_top) l_Number_top hc_Number_top k_Number_top,
    b_Number_top := (fun_mk (st := s_Number_top) l_Number_top hc_Number_top k_Number_top).binds (ps := ["self"]) fun _ _ _ _ _ _ us hl => match us, hl with | [_], _ => rfl,
    P_Number_bottom := ⟨at_Number_bottom, gt_Number_bottom, tk_Number_bottom, ⟨_, rc_Number_bottom⟩⟩,
    F_Number_bottom := fun_mk (st := s_Number_bottom) l_Number_bottom hc_Number_bottom k_Number_bottom,
    b_Number_bottom := (fun_mk (st := s_Number_bottom) l_Number_bottom hc_Number_bottom k_Number_bottom).binds (ps := ["self"]) fun _ _ _ _ _ _ us hl => match us, hl with | [_], _ => rfl,
    m_Number_eq := ⟨a_Number_eq, i_Number_eq, k_Number_eq⟩,
    F_Number_eq := fun_mk (st := s_Number_eq) l_Number_eq hc_Number_eq k_Number_eq,
    b_Number_eq := (fun_mk (st := s_Number_eq) l_Number_eq hc_Number_eq k_Number_eq).binds (ps := ["self", "other"]) fun _ _ _ _ _ _ us hl => match us, hl with | [_, _], _ => rfl,
    m_Number_is_less := ⟨a_Number_is_less, i_Number_is_less, k_Number_is_less⟩,
    F_Number_is_less := fun_mk (st := s_Number_is_less) l_Number_is_less hc_Number_is_less k_Number_is_less,
    b_Number_is_less := (fun_mk (st := s_Number_is_less) l_Number_is_less hc_Number_is_less k_Number_is_less).binds (ps := ["self", "other"]) fun _ _ _ _ _ _ us hl => match us, hl with | [_, _], _ => rfl,
    m_Number_add := ⟨a_Number_add, i_Number_add, k_Number_add⟩,
    F_Number_add := fun_mk (st := s_Number_add) l_Number_add hc_Number_add k_Number_add,
    b_Number_add := (fun_mk (st := s_Number_add) l_Number_add hc_Number_add k_Number_add).binds (ps := ["self", "other"]) fun _ _ _ _ _ _ us hl => match us, hl with | [_, _], _ => rfl,
    m_Number_divided_by := ⟨a_Number_divided_by, i_Number_divided_by, k_Number_divided_by⟩,
    F_Number_divided_by := fun_mk (st := s_Number_divided_by) l_Number_divided_by hc_Number_divided_by k_Number_divided_by,
    b_Number_divided_by := (fun_mk (st := s_Number_divided_by) l_Number_divided_by hc_Number_divided_by k_Number_divided_by).binds (ps := ["self", "other"]) fun _ _ _ _ _ _ us hl => match us, hl with | [_, _], _ => rfl,
    g_whole := PySem.W.mg_of X G a_whole,
    F_whole := fun_mk (st := s_whole) l_whole hc_whole k_whole,
    b_whole := (fun_mk (st := s_whole) l_whole hc_whole k_whole).binds (ps := ["count"]) fun _ _ _ _ _ _ us hl => match us, hl with | [_], _ => rfl,
    m_Line_init := ⟨a_Line_init, i_Line_init, k_Line_init⟩,
    F_Line_init := fun_mk (st := s_Line_init) l_Line_init hc_Line_init k_Line_init,
    b_Line_init := (fun_mk (st := s_Line_init) l_Line_init hc_Line_init k_Line_init).binds (ps := ["self", "base", "slope"]) fun _ _ _ _ _ _ us hl => match us, hl with | [_, _, _], _ => rfl,
    m_Stretch_init := ⟨a_Stretch_init, i_Stretch_init, k_Stretch_init⟩,
    F_Stretch_init := ⟨⟨_, _, _, _, _, _, _, _, _, _, rfl, l_Stretch_init, hc_Stretch_init, Or.inl ⟨rfl, rfl⟩, Or.inr ⟨D_Stretch_init, rfl, fun q hq => by
      simp only [List.mem_cons, List.not_mem_nil, or_false] at hq
      rcases hq with rfl | rfl
      · exact ⟨_, kw_Stretch_init_has_low, rfl⟩
      · exact ⟨_, kw_Stretch_init_has_high, rfl⟩⟩⟩, k_Stretch_init⟩,
    P_Stretch_low := ⟨at_Stretch_low, gt_Stretch_low, tk_Stretch_low, ⟨_, rc_Stretch_low⟩⟩,
    F_Stretch_low := fun_mk (st := s_Stretch_low) l_Stretch_low hc_Stretch_low k_Stretch_low,
    b_Stretch_low := (fun_mk (st := s_Stretch_low) l_Stretch_low hc_Stretch_low k_Stretch_low).binds (ps := ["self"]) fun _ _ _ _ _ _ us hl => match us, hl with | [_], _ => rfl,
    P_Stretch_high := ⟨at_Stretch_high, gt_Stretch_high, tk_Stretch_high, ⟨_, rc_Stretch_high⟩⟩,
    F_Stretch_high := fun_mk (st := s_Stretch_high) l_Stretch_high hc_Stretch_high k_Stretch_high,
    b_Stretch_high := (fun_mk (st := s_Stretch_high) l_Stretch_high hc_Stretch_high k_Stretch_high).binds (ps := ["self"]) fun _ _ _ _ _ _ us hl => match us, hl with | [_], _ => rfl,
    P_Stretch_has_low := ⟨at_Stretch_has_low, gt_Stretch_has_low, tk_Stretch_has_low, ⟨_, rc_Stretch_has_low⟩⟩,
    F_Stretch_has_low := fun_mk (st := s_Stretch_has_low) l_Stretch_has_low hc_Stretch_has_low k_Stretch_has_low,
    b_Stretch_has_low := (fun_mk (st := s_Stretch_has_low) l_Stretch_has_low hc_Stretch_has_low k_Stretch_has_low).binds (ps := ["self"]) fun _ _ _ _ _ _ us hl => match us, hl with | [_], _ => rfl,
    P_Stretch_has_high := ⟨at_Stretch_has_high, gt_Stretch_has_high, tk_Stretch_has_high, ⟨_, rc_Stretch_has_high⟩⟩,
    F_Stretch_has_high := fun_mk (st := s_Stretch_has_high) l_Stretch_has_high hc_Stretch_has_high k_Stretch_has_high,
    b_Stretch_has_high := (fun_mk (st := s_Stretch_has_high) l_Stretch_has_high hc_Stretch_has_high k_Stretch_has_high).binds (ps := ["self"]) fun _ _ _ _ _ _ us hl => match us, hl with | [_], _ => rfl,
    P_Stretch_middle := ⟨at_Stretch_middle, gt_Stretch_middle, tk_Stretch_middle, ⟨_, rc_Stretch_middle⟩⟩,
    F_Stretch_middle := fun_mk (st := s_Stretch_middle) l_Stretch_middle hc_Stretch_middle k_Stretch_middle,
    b_Stretch_middle := (fun_mk (st := s_Stretch_middle) l_Stretch_middle hc_Stretch_middle k_Stretch_middle).binds (ps := ["self"]) fun _ _ _ _ _ _ us hl => match us, hl with | [_], _ => rfl,
    g_law_pot := PySem.W.mg_of X G a_law_pot,
    F_law_pot := fun_mk (st := s_law_pot) l_law_pot hc_law_pot k_law_pot,
    b_law_pot := (fun_mk (st := s_law_pot) l_law_pot hc_law_pot k_law_pot).binds (ps := ["script", "k"]) fun _ _ _ _ _ _ us hl => match us, hl with | [_, _], _ => rfl,
    g_law_take := PySem.W.mg_of X G a_law_take,
    F_law_take := fun_mk (st := s_law_take) l_law_take hc_law_take k_law_take,
    b_law_take := (fun_mk (st := s_law_take) l_law_take hc_law_take k_law_take).binds (ps := ["pot", "upto"]) fun _ _ _ _ _ _ us hl => match us, hl with | [_, _], _ => rfl,
    g_law_of := PySem.W.mg_of X G a_law_of,
    F_law_of := fun_mk (st := s_law_of) l_law_of hc_law_of k_law_of,
    b_law_of := (fun_mk (st := s_law_of) l_law_of hc_law_of k_law_of).binds (ps := ["pot", "some"]) fun _ _ _ _ _ _ us hl => match us, hl with | [_, _], _ => rfl,
    g_law_drawn := PySem.W.mg_of X G a_law_drawn,
    F_law_drawn := fun_mk (st := s_law_drawn) l_law_drawn hc_law_drawn k_law_drawn,
    b_law_drawn := (fun_mk (st := s_law_drawn) l_law_drawn hc_law_drawn k_law_drawn).binds (ps := ["pot"]) fun _ _ _ _ _ _ us hl => match us, hl with | [_], _ => rfl,
    g_law_odd := PySem.W.mg_of X G a_law_odd,
    F_law_odd := fun_mk (st := s_law_odd) l_law_odd hc_law_odd k_law_odd,
    b_law_odd := (fun_mk (st := s_law_odd) l_law_odd hc_law_odd k_law_odd).binds (ps := ["pot"]) fun _ _ _ _ _ _ us hl => match us, hl with | [_], _ => rfl,
    g_law_is_fine := PySem.W.mg_of X G a_law_is_fine,
    F_law_is_fine := fun_mk (st := s_law_is_fine) l_law_is_fine hc_law_is_fine k_law_is_fine,
    b_law_is_fine := (fun_mk (st := s_law_is_fine) l_law_is_fine hc_law_is_fine k_law_is_fine).binds (ps := ["low", "high", "is_low", "is_high"]) fun _ _ _ _ _ _ us hl => match us, hl with | [_, _, _, _], _ => rfl,
    g_law_heard := PySem.W.mg_of X G a_law_heard,
    F_law_heard := fun_mk (st := s_law_heard) l_law_heard hc_law_heard k_law_heard,
    b_law_heard := (fun_mk (st := s_law_heard) l_law_heard hc_law_heard k_law_heard).binds (ps := ["low", "high", "is_low", "is_high"]) fun _ _ _ _ _ _ us hl => match us, hl with | [_, _, _, _], _ => rfl,
    g_law_is_refused := PySem.W.mg_of X G a_law_is_refused,
    F_law_is_refused := fun_mk (st := s_law_is_refused) l_law_is_refused hc_law_is_refused k_law_is_refused,
    b_law_is_refused := (fun_mk (st := s_law_is_refused) l_law_is_refused hc_law_is_refused k_law_is_refused).binds (ps := ["caught", "low", "high"]) fun _ _ _ _ _ _ us hl => match us, hl with | [_, _, _], _ => rfl,
    g_law_is_right := PySem.W.mg_of X G a_law_is_right,
    F_law_is_right := fun_mk (st := s_law_is_right) l_law_is_right hc_law_is_right k_law_is_right,
    b_law_is_right := (fun_mk (st := s_law_is_right) l_law_is_right hc_law_is_right k_law_is_right).binds (ps := ["pot"]) fun _ _ _ _ _ _ us hl => match us, hl with | [_], _ => rfl,
    F_law := fun_mk (st := s_law) l_law hc_law k_law,
    b_law := (fun_mk (st := s_law) l_law hc_law k_law).binds (ps := ["script"]) fun _ _ _ _ _ _ us hl => match us, hl with | [_], _ => rfl,
    z_isinstance := PySem.W.mg_none_of X G z_isinstance,
    z_int := PySem.W.mg_none_of X G z_int,
    z_bool := PySem.W.mg_none_of X G z_bool,
    z_abs := PySem.W.mg_none_of X G z_abs,
    z_len := PySem.W.mg_none_of X G z_len,
    z_max := PySem.W.mg_none_of X G z_max,
    z_min := PySem.W.mg_none_of X G z_min,
    z_range := PySem.W.mg_none_of X G z_range,
    z_repr := PySem.W.mg_none_of X G z_repr,
    z_all := PySem.W.mg_none_of X G z_all,
    z_zip := PySem.W.mg_none_of X G z_zip,
    z_tuple := PySem.W.mg_none_of X G z_tuple,
    kit_NumNum := kit_NumNum,
    kit_StrStr := kit_StrStr,
    kit_blbl := kit_blbl,
    kit_tuptup := kit_tuptup,
    kit_SB := kit_SB,
    kit_SN := kit_SN,
    kit_LinNum := kit_LinNum,
    kit_Linbl := kit_Linbl,
    kit_nonNum := kit_nonNum,
    kit_nonbl := kit_nonbl,
    kit_intNum := kit_intNum,
    kit_intbl := kit_intbl,
    kit_strNum := kit_strNum,
    kit_strbl := kit_strbl,
    kit_tupNum := kit_tupNum,
    kit_tupbl := kit_tupbl,
    kit_lstNum := kit_lstNum,
    kit_lstbl := kit_lstbl,
    kit_dctNum := kit_dctNum,
    kit_dctbl := kit_dctbl
  }⟩

abbrev LV : Nat := 12
theorem walk {l : PySem.W.OpenLaw} {q : Program} {loose : List Str} {XP : (Str → Option Value) → Heap → Prop} {YP : World → Heap → Prop} {d : DefRec} {K : Params → PySem.W.Frag} (hn : l.most = some 63) (hdf : d.params.defaults = [])
    (hY : ∀ (w : World) (h : Heap), YP w h → (K w.params).In h)
    (F : ∀ (w : World) (mg : Str → Option Value) (fa : Addr) (h : Heap), (K w.params).In h → h.Ns mainGlobals mg → mg d.name = some (.ref fa) →
      ∃ fd : FuncData, (∀ (s : Shared) (u : Value), BindsTo s fd ⟨[u], []⟩ [("script", u)]) ∧ ∀ base : Heap, (K w.params).In base → base.Ns mainGlobals mg → FnG l.prog w (K w.params) mg base CX0 LV fa fd ["script"] (spLaw (K w.params))) :
    PySem.W.WalkO q loose XP YP l.row.toRowW d [] (fun f vs => PySem.call f vs) :=
  WG.walk_G (n := 63) (k := LV) (x := "script") (sp := fun w => spLaw (K w.params)) hn (by decide) hdf ⟨rfl, by decide, by decide⟩ hY F (fun _ _ a ns hl _ hS => ⟨a, ns, rfl, hS, hl, fun _ => rfl⟩)
theorem law_mk {w : World} {K : PySem.W.Frag} {h : Heap} {mg : Str → Option Value} {fa : Addr} (X : K.In h) (G : h.Ns mainGlobals mg) (hfa : mg "law" = some (.ref fa))
    {c_SpeedError : Addr}
    {c_BadNumber : Addr}
    {c_BadStretch : Addr}
    {c_Number : Addr}
    {c_Line : Addr}
    {c_Stretch : Addr}
    {f_BadStretch_init : Addr}
    {nm_BadStretch : Str}
    {qn_BadStretch : Str}
    {Ns_BadStretch : Addr}
    {bs_BadStretch : List Value}
    {bm_BadStretch : List Value}
    {sn_BadStretch : List Str}
    {sub_BadStretch : List Value}
    {ab_BadStretch : Bool}
    {col_BadStretch : Option Bool}
    {dd_BadStretch : Option Addr}
    {k0_BadStretch : Option Value}
    {k1_BadStretch : Option Value}
    {k2_BadStretch : Option Value}
    {k3_BadStretch : Option Value}
    {k5_BadStretch : Option Value}
    {oc_BadStretch : Value}
    {od_BadStretch : Option Addr}
    {an_BadStretch : Option Addr}
    {osl_BadStretch : Array (Option Value)}
    {kV_BadStretch : Value}
    {dc_BadStretch : Value}
    {pm_BadStretch : Value}
    {ct_BadStretch : Value}
    {cda_BadStretch : Addr}
    {cc_BadStretch : Addr}
    {ccl_BadStretch : Value}
    {cdd_BadStretch : Option Addr}
    {cvs_BadStretch : Array Value}
    {ccs_BadStretch : Array (Option Value)}
    {file_BadStretch : Str}
    {tf_BadStretch : Tok}
    {cl_BadStretch : Value}
    {cld_BadStretch : Option Addr}
    {csl_BadStretch : Array (Option Value)}
    {f_is_integer : Addr}
    {oc_is_integer : Value}
    {kV_is_integer : Value}
    {dc_is_integer : Value}
    {pm_is_integer : Value}
    {cd_is_integer : Value}
    {ct_is_integer : Value}
    {od_is_integer : Option Addr}
    {an_is_integer : Option Addr}
    {osl_is_integer : Array (Option Value)}
    {f_shared_divisor : Addr}
    {oc_shared_divisor : Value}
    {kV_shared_divisor : Value}
    {dc_shared_divisor : Value}
    {pm_shared_divisor : Value}
    {cd_shared_divisor : Value}
    {ct_shared_divisor : Value}
    {od_shared_divisor : Option Addr}
    {an_shared_divisor : Option Addr}
    {osl_shared_divisor : Array (Option Value)}
    {f_Number_init : Addr}
    {oc_Number_init : Value}
    {kV_Number_init : Value}
    {dc_Number_init : Value}
    {pm_Number_init : Value}
    {cd_Number_init : Value}
    {ct_Number_init : Value}
    {od_Number_init : Option Addr}
    {an_Number_init : Option Addr}
    {osl_Number_init : Array (Option Value)}
    {T_Number_init : Addr}
    {t_Number_init_0 : Tok}
    {oT_Number_init : Value}
    {dT_Number_init : Option Addr}
    {nT_Number_init : Nat}
    {sT_Number_init : Array (Option Value)}
    {f_Number_top : Addr}
    {p_Number_top : Addr}
    {r_Number_top : List Value}
    {oc_Number_top : Value}
    {kV_Number_top : Value}
    {dc_Number_top : Value}
    {pm_Number_top : Value}
    {cd_Number_top : Value}
    {ct_Number_top : Value}
    {od_Number_top : Option Addr}
    {an_Number_top : Option Addr}
    {osl_Number_top : Array (Option Value)}
    {f_Number_bottom : Addr}
    {p_Number_bottom : Addr}
    {r_Number_bottom : List Value}
    {oc_Number_bottom : Value}
    {kV_Number_bottom : Value}
    {dc_Number_bottom : Value}
    {pm_Number_bottom : Value}
    {cd_Number_bottom : Value}
    {ct_Number_bottom : Value}
    {od_Number_bottom : Option Addr}
    {an_Number_bottom : Option Addr}
    {osl_Number_bottom : Array (Option Value)}
    {f_Number_eq : Addr}
    {oc_Number_eq : Value}
    {kV_Number_eq : Value}
    {dc_Number_eq : Value}
    {pm_Number_eq : Value}
    {cd_Number_eq : Value}
    {ct_Number_eq : Value}
    {od_Number_eq : Option Addr}
    {an_Number_eq : Option Addr}
    {osl_Number_eq : Array (Option Value)}
    {f_Number_is_less : Addr}
    {oc_Number_is_less : Value}
    {kV_Number_is_less : Value}
    {dc_Number_is_less : Value}
    {pm_Number_is_less : Value}
    {cd_Number_is_less : Value}
    {ct_Number_is_less : Value}
    {od_Number_is_less : Option Addr}
    {an_Number_is_less : Option Addr}
    {osl_Number_is_less : Array (Option Value)}
    {f_Number_add : Addr}
    {oc_Number_add : Value}
    {kV_Number_add : Value}
    {dc_Number_add : Value}
    {pm_Number_add : Value}
    {cd_Number_add : Value}
    {ct_Number_add : Value}
    {od_Number_add : Option Addr}
    {an_Number_add : Option Addr}
    {osl_Number_add : Array (Option Value)}
    {f_Number_divided_by : Addr}
    {oc_Number_divided_by : Value}
    {kV_Number_divided_by : Value}
    {dc_Number_divided_by : Value}
    {pm_Number_divided_by : Value}
    {cd_Number_divided_by : Value}
    {ct_Number_divided_by : Value}
    {od_Number_divided_by : Option Addr}
    {an_Number_divided_by : Option Addr}
    {osl_Number_divided_by : Array (Option Value)}
    {f_whole : Addr}
    {oc_whole : Value}
    {kV_whole : Value}
    {dc_whole : Value}
    {pm_whole : Value}
    {cd_whole : Value}
    {ct_whole : Value}
    {od_whole : Option Addr}
    {an_whole : Option Addr}
    {osl_whole : Array (Option Value)}
    {f_Line_init : Addr}
    {oc_Line_init : Value}
    {kV_Line_init : Value}
    {dc_Line_init : Value}
    {pm_Line_init : Value}
    {cd_Line_init : Value}
    {ct_Line_init : Value}
    {od_Line_init : Option Addr}
    {an_Line_init : Option Addr}
    {osl_Line_init : Array (Option Value)}
    {f_Stretch_init : Addr}
    {oc_Stretch_init : Value}
    {dc_Stretch_init : Value}
    {pm_Stretch_init : Value}
    {cd_Stretch_init : Value}
    {ct_Stretch_init : Value}
    {od_Stretch_init : Option Addr}
    {an_Stretch_init : Option Addr}
    {osl_Stretch_init : Array (Option Value)}
    {D_Stretch_init : Addr}
    {f_Stretch_low : Addr}
    {p_Stretch_low : Addr}
    {r_Stretch_low : List Value}
    {oc_Stretch_low : Value}
    {kV_Stretch_low : Value}
    {dc_Stretch_low : Value}
    {pm_Stretch_low : Value}
    {cd_Stretch_low : Value}
    {ct_Stretch_low : Value}
    {od_Stretch_low : Option Addr}
    {an_Stretch_low : Option Addr}
    {osl_Stretch_low : Array (Option Value)}
    {f_Stretch_high : Addr}
    {p_Stretch_high : Addr}
    {r_Stretch_high : List Value}
    {oc_Stretch_high : Value}
    {kV_Stretch_high : Value}
    {dc_Stretch_high : Value}
    {pm_Stretch_high : Value}
    {cd_Stretch_high : Value}
    {ct_Stretch_high : Value}
    {od_Stretch_high : Option Addr}
    {an_Stretch_high : Option Addr}
    {osl_Stretch_high : Array (Option Value)}
    {f_Stretch_has_low : Addr}
    {p_Stretch_has_low : Addr}
    {r_Stretch_has_low : List Value}
    {oc_Stretch_has_low : Value}
    {kV_Stretch_has_low : Value}
    {dc_Stretch_has_low : Value}
    {pm_Stretch_has_low : Value}
    {cd_Stretch_has_low : Value}
    {ct_Stretch_has_low : Value}
    {od_Stretch_has_low : Option Addr}
    {an_Stretch_has_low : Option Addr}
    {osl_Stretch_has_low : Array (Option Value)}
    {f_Stretch_has_high : Addr}
    {p_Stretch_has_high : Addr}
    {r_Stretch_has_high : List Value}
    {oc_Stretch_has_high : Value}
    {kV_Stretch_has_high : Value}
    {dc_Stretch_has_high : Value}
    {pm_Stretch_has_high : Value}
    {cd_Stretch_has_high : Value}
    {ct_Stretch_has_high : Value}
    {od_Stretch_has_high : Option Addr}
    {an_Stretch_has_high : Option Addr}
    {osl_Stretch_has_high : Array (Option Value)}
    {f_Stretch_middle : Addr}
    {p_Stretch_middle : Addr}
    {r_Stretch_middle : List Value}
    {oc_Stretch_middle : Value}
    {kV_Stretch_middle : Value}
    {dc_Stretch_middle : Value}
    {pm_Stretch_middle : Value}
    {cd_Stretch_middle : Value}
    {ct_Stretch_middle : Value}
    {od_Stretch_middle : Option Addr}
    {an_Stretch_middle : Option Addr}
    {osl_Stretch_middle : Array (Option Value)}
    {f_law_pot : Addr}
    {oc_law_pot : Value}
    {kV_law_pot : Value}
    {dc_law_pot : Value}
    {pm_law_pot : Value}
    {cd_law_pot : Value}
    {ct_law_pot : Value}
    {od_law_pot : Option Addr}
    {an_law_pot : Option Addr}
    {osl_law_pot : Array (Option Value)}
    {f_law_take : Addr}
    {oc_law_take : Value}
    {kV_law_take : Value}
    {dc_law_take : Value}
    {pm_law_take : Value}
    {cd_law_take : Value}
    {ct_law_take : Value}
    {od_law_take : Option Addr}
    {an_law_take : Option Addr}
    {osl_law_take : Array (Option Value)}
    {f_law_of : Addr}
    {oc_law_of : Value}
    {kV_law_of : Value}
    {dc_law_of : Value}
    {pm_law_of : Value}
    {cd_law_of : Value}
    {ct_law_of : Value}
    {od_law_of : Option Addr}
    {an_law_of : Option Addr}
    {osl_law_of : Array (Option Value)}
    {f_law_drawn : Addr}
    {oc_law_drawn : Value}
    {kV_law_drawn : Value}
    {dc_law_drawn : Value}
    {pm_law_drawn : Value}
    {cd_law_drawn : Value}
    {ct_law_drawn : Value}
    {od_law_drawn : Option Addr}
    {an_law_drawn : Option Addr}
    {osl_law_drawn : Array (Option Value)}
    {f_law_odd : Addr}
    {oc_law_odd : Value}
    {kV_law_odd : Value}
    {dc_law_odd : Value}
    {pm_law_odd : Value}
    {cd_law_odd : Value}
    {ct_law_odd : Value}
    {od_law_odd : Option Addr}
    {an_law_odd : Option Addr}
    {osl_law_odd : Array (Option Value)}
    {f_law_is_fine : Addr}
    {oc_law_is_fine : Value}
    {kV_law_is_fine : Value}
    {dc_law_is_fine : Value}
    {pm_law_is_fine : Value}
    {cd_law_is_fine : Value}
    {ct_law_is_fine : Value}
    {od_law_is_fine : Option Addr}
    {an_law_is_fine : Option Addr}
    {osl_law_is_fine : Array (Option Value)}
    {f_law_heard : Addr}
    {oc_law_heard : Value}
    {kV_law_heard : Value}
    {dc_law_heard : Value}
    {pm_law_heard : Value}
    {cd_law_heard : Value}
    {ct_law_heard : Value}
    {od_law_heard : Option Addr}
    {an_law_heard : Option Addr}
    {osl_law_heard : Array (Option Value)}
    {f_law_is_refused : Addr}
    {oc_law_is_refused : Value}
    {kV_law_is_refused : Value}
    {dc_law_is_refused : Value}
    {pm_law_is_refused : Value}
    {cd_law_is_refused : Value}
    {ct_law_is_refused : Value}
    {od_law_is_refused : Option Addr}
    {an_law_is_refused : Option Addr}
    {osl_law_is_refused : Array (Option Value)}
    {f_law_is_right : Addr}
    {oc_law_is_right : Value}
    {kV_law_is_right : Value}
    {dc_law_is_right : Value}
    {pm_law_is_right : Value}
    {cd_law_is_right : Value}
    {ct_law_is_right : Value}
    {od_law_is_right : Option Addr}
    {an_law_is_right : Option Addr}
    {osl_law_is_right : Array (Option Value)}
    {f_law : Addr}
    {oc_law : Value}
    {kV_law : Value}
    {dc_law : Value}
    {pm_law : Value}
    {cd_law : Value}
    {ct_law : Value}
    {od_law : Option Addr}
    {an_law : Option Addr}
    {osl_law : Array (Option Value)}
    (a_SpeedError : PySem.W.nsIn K mainGlobals "SpeedError" = some (some (.ref c_SpeedError)))
    (a_BadNumber : PySem.W.nsIn K mainGlobals "BadNumber" = some (some (.ref c_BadNumber)))
    (a_BadStretch : PySem.W.nsIn K mainGlobals "BadStretch" = some (some (.ref c_BadStretch)))
    (a_Number : PySem.W.nsIn K mainGlobals "Number" = some (some (.ref c_Number)))
    (pg_Number : PySem.W.plainGet K c_Number Str.empty = true)
    (hd_Number : PySem.W.hasDictIn K c_Number = true)
    (po_Number : PySem.W.plainOver K c_Number = true)
    (sa_Number : PySem.W.findIn K (.ref c_Number) "__setattr__" = some (some (.builtin "object.__setattr__")))
    (mk_Number : PySem.W.makesIn K c_Number = true)
    (kc_Number : PySem.W.keepIn K (.ref c_Number) = true)
    (sf_Number : PySem.W.selfFirst K c_Number = true)
    (ca_Number : PySem.W.findIn K (.ref c_Number) "__class__" = some (some (.builtin "object.__class__")))
    (cm_Number : PySem.W.mroIn K c_Number (.type "object") = some true)
    (n_Number_own_top : PySem.W.findIn K (.ref c_Number) "own_top" = some none)
    (n_Number_own_bottom : PySem.W.findIn K (.ref c_Number) "own_bottom" = some none)
    (a_Line : PySem.W.nsIn K mainGlobals "Line" = some (some (.ref c_Line)))
    (pg_Line : PySem.W.plainGet K c_Line Str.empty = true)
    (hd_Line : PySem.W.hasDictIn K c_Line = true)
    (po_Line : PySem.W.plainOver K c_Line = true)
    (sa_Line : PySem.W.findIn K (.ref c_Line) "__setattr__" = some (some (.builtin "object.__setattr__")))
    (mk_Line : PySem.W.makesIn K c_Line = true)
    (kc_Line : PySem.W.keepIn K (.ref c_Line) = true)
    (sf_Line : PySem.W.selfFirst K c_Line = true)
    (ca_Line : PySem.W.findIn K (.ref c_Line) "__class__" = some (some (.builtin "object.__class__")))
    (cm_Line : PySem.W.mroIn K c_Line (.type "object") = some true)
    (n_Line_own_base : PySem.W.findIn K (.ref c_Line) "own_base" = some none)
    (n_Line_own_slope : PySem.W.findIn K (.ref c_Line) "own_slope" = some none)
    (a_Stretch : PySem.W.nsIn K mainGlobals "Stretch" = some (some (.ref c_Stretch)))
    (pg_Stretch : PySem.W.plainGet K c_Stretch Str.empty = true)
    (hd_Stretch : PySem.W.hasDictIn K c_Stretch = true)
    (po_Stretch : PySem.W.plainOver K c_Stretch = true)
    (sa_Stretch : PySem.W.findIn K (.ref c_Stretch) "__setattr__" = some (some (.builtin "object.__setattr__")))
    (mk_Stretch : PySem.W.makesIn K c_Stretch = true)
    (kc_Stretch : PySem.W.keepIn K (.ref c_Stretch) = true)
    (sf_Stretch : PySem.W.selfFirst K c_Stretch = true)
    (ca_Stretch : PySem.W.findIn K (.ref c_Stretch) "__class__" = some (some (.builtin "object.__class__")))
    (cm_Stretch : PySem.W.mroIn K c_Stretch (.type "object") = some true)
    (n_Stretch_own_low : PySem.W.findIn K (.ref c_Stretch) "own_low" = some none)
    (n_Stretch_own_high : PySem.W.findIn K (.ref c_Stretch) "own_high" = some none)
    (n_Stretch_includes_low : PySem.W.findIn K (.ref c_Stretch) "includes_low" = some none)
    (n_Stretch_includes_high : PySem.W.findIn K (.ref c_Stretch) "includes_high" = some none)
    (n_Stretch_own_middle : PySem.W.findIn K (.ref c_Stretch) "own_middle" = some none)
    (cn : PySem.W.specialIn K (.builtin "object.__class__") "__get__" = some (some (.builtin "getset_descriptor.__get__")))
    (ct : PySem.W.takesIn K (.builtin "object.__class__") = some true)
    (z_super : PySem.W.nsIn K mainGlobals "super" = some none)
    (tp_any : PySem.W.nsIn K PySem.cStatics "thirdparty.any" = some none)
    (lC_BadStretch : K.lookup c_BadStretch = some (excClassObj nm_BadStretch qn_BadStretch c_BadStretch Ns_BadStretch bs_BadStretch bm_BadStretch true sn_BadStretch sub_BadStretch ab_BadStretch col_BadStretch dd_BadStretch k0_BadStretch k1_BadStretch k2_BadStretch k3_BadStretch k5_BadStretch "ValueError.__new__"))
    (rv_BadStretch : PySem.HandSPX.refsVE bm_BadStretch = true)
    (sa_BadStretch : PySem.W.findIn K (.ref c_BadStretch) "__setattr__" = some (some (.builtin "object.__setattr__")))
    (ex_BadStretch : PySem.W.subIn K (.ref c_BadStretch) (.type "BaseException") = some true)
    (ty_BadStretch : PySem.W.typeIn K (.ref c_BadStretch) = some (.type "type"))
    (kc_BadStretch : PySem.W.keepIn K (.ref c_BadStretch) = true)
    (in_BadStretch : PySem.W.findIn K (.ref c_BadStretch) "__init__" = some (some (.ref f_BadStretch_init)))
    (ti_BadStretch : PySem.W.typeIn K (.ref f_BadStretch_init) = some (.type "function"))
    (lf_BadStretch : K.lookup f_BadStretch_init = some ⟨oc_BadStretch, od_BadStretch, .func (PySem.W.ksFn "__init__" "BadStretch.__init__" (defArgs s_BadStretch_init) (defBody s_BadStretch_init) (defScope s_BadStretch_init) .none kV_BadStretch dc_BadStretch pm_BadStretch an_BadStretch (.ref cda_BadStretch) ct_BadStretch cc_BadStretch), osl_BadStretch⟩)
    (hc_BadStretch : PySem.W.codeIn K (.ref cda_BadStretch) "BadStretch.__init__" = true)
    (lk_BadStretch : K.lookup cda_BadStretch = some ⟨ccl_BadStretch, cdd_BadStretch, .fields cvs_BadStretch, ccs_BadStretch⟩)
    (vs_BadStretch : cvs_BadStretch[2]? = some (.str file_BadStretch tf_BadStretch))
    (fi_BadStretch : ((PP.main.file : Str) == file_BadStretch) = true)
    (lc_BadStretch : K.lookup cc_BadStretch = some ⟨cl_BadStretch, cld_BadStretch, .cell (some (.ref c_BadStretch)), csl_BadStretch⟩)
    (ms_BadStretch : PySem.W.mroIn K c_BadStretch (.ref c_BadStretch) = some true)
    (sv_BadStretch : PySem.W.subIn K (.ref c_BadStretch) (.type "ValueError") = some true)
    (sp_BadStretch : PySem.W.ks_superIn K c_BadStretch c_BadStretch "__init__" = some (some (.builtin "ValueError.__init__")))
    (no_BadStretch : PySem.W.findIn K (.ref c_BadStretch) "value" = some none)
    (ga_BadStretch : PySem.W.findIn K (.ref c_BadStretch) "__getattribute__" = some (some (.builtin "BaseException.__getattribute__")))
    (gg_BadStretch : PySem.W.findIn K (.ref c_BadStretch) "__getattr__" = some none)
    (hd_BadStretch : PySem.W.hasDictIn K c_BadStretch = true)
    (ca_BadStretch : PySem.W.findIn K (.ref c_BadStretch) "__class__" = some (some (.builtin "object.__class__")))
    (cm_BadStretch : PySem.W.mroIn K c_BadStretch (.type "object") = some true)
    (su_BadStretch_SpeedError : PySem.W.subIn K (.ref c_BadStretch) (.ref c_SpeedError) = some true)
    (ic_SpeedError : PySem.W.isClsIn K c_SpeedError = true)
    (sb_SpeedError : PySem.W.subIn K (.ref c_SpeedError) (.type "BaseException") = some true)
    (tt_SpeedError : PySem.W.typeIn K (.ref c_SpeedError) = some (.type "type"))
    (a_is_integer : PySem.W.nsIn K mainGlobals "is_integer" = some (some (.ref f_is_integer)))
    (l_is_integer : K.lookup f_is_integer = some ⟨oc_is_integer, od_is_integer, .func (PySem.W.fnOf "is_integer" "is_integer" (defArgs s_is_integer) (defBody s_is_integer) (defScope s_is_integer) .none kV_is_integer dc_is_integer pm_is_integer an_is_integer cd_is_integer ct_is_integer), osl_is_integer⟩)
    (hc_is_integer : PySem.W.codeIn K cd_is_integer "is_integer" = true)
    (k_is_integer : PySem.W.keepIn K (.ref f_is_integer) = true)
    (a_shared_divisor : PySem.W.nsIn K mainGlobals "shared_divisor" = some (some (.ref f_shared_divisor)))
    (l_shared_divisor : K.lookup f_shared_divisor = some ⟨oc_shared_divisor, od_shared_divisor, .func (PySem.W.fnOf "shared_divisor" "shared_divisor" (defArgs s_shared_divisor) (defBody s_shared_divisor) (defScope s_shared_divisor) .none kV_shared_divisor dc_shared_divisor pm_shared_divisor an_shared_divisor cd_shared_divisor ct_shared_divisor), osl_shared_divisor⟩)
    (hc_shared_divisor : PySem.W.codeIn K cd_shared_divisor "shared_divisor" = true)
    (k_shared_divisor : PySem.W.keepIn K (.ref f_shared_divisor) = true)
    (a_Number_init : PySem.W.findIn K (.ref c_Number) "__init__" = some (some (.ref f_Number_init)))
    (i_Number_init : PySem.W.isFn K (.ref f_Number_init) = true)
    (l_Number_init : K.lookup f_Number_init = some ⟨oc_Number_init, od_Number_init, .func (PySem.W.fnOf "__init__" "Number.__init__" (defArgs s_Number_init) (defBody s_Number_init) (defScope s_Number_init) (.ref T_Number_init) kV_Number_init dc_Number_init pm_Number_init an_Number_init cd_Number_init ct_Number_init), osl_Number_init⟩)
    (hc_Number_init : PySem.W.codeIn K cd_Number_init "Number.__init__" = true)
    (k_Number_init : PySem.W.keepIn K (.ref f_Number_init) = true)
    (lT_Number_init : K.lookup T_Number_init = some ⟨oT_Number_init, dT_Number_init, .seq #[.int 1 t_Number_init_0] nT_Number_init, sT_Number_init⟩)
    (at_Number_top : PySem.W.findIn K (.ref c_Number) "top" = some (some (.ref p_Number_top)))
    (gt_Number_top : PySem.W.specialIn K (.ref p_Number_top) "__get__" = some (some (.builtin "property.__get__")))
    (tk_Number_top : PySem.W.takesIn K (.ref p_Number_top) = some true)
    (rc_Number_top : PySem.W.recIn K p_Number_top "property" = some (.ref f_Number_top :: r_Number_top))
    (l_Number_top : K.lookup f_Number_top = some ⟨oc_Number_top, od_Number_top, .func (PySem.W.fnOf "top" "Number.top" (defArgs s_Number_top) (defBody s_Number_top) (defScope s_Number_top) .none kV_Number_top dc_Number_top pm_Number_top an_Number_top cd_Number_top ct_Number_top), osl_Number_top⟩)
    (hc_Number_top : PySem.W.codeIn K cd_Number_top "Number.top" = true)
    (k_Number_top : PySem.W.keepIn K (.ref f_Number_top) = true)
    (at_Number_bottom : PySem.W.findIn K (.ref c_Number) "bottom" = some (some (.ref p_Number_bottom)))
    (gt_Number_bottom : PySem.W.specialIn K (.ref p_Number_bottom) "__get__" = some (some (.builtin "property.__get__")))
    (tk_Number_bottom : PySem.W.takesIn K (.ref p_Number_bottom) = some true)
    (rc_Number_bottom : PySem.W.recIn K p_Number_bottom "property" = some (.ref f_Number_bottom :: r_Number_bottom))
    (l_Number_bottom : K.lookup f_Number_bottom = some ⟨oc_Number_bottom, od_Number_bottom, .func (PySem.W.fnOf "bottom" "Number.bottom" (defArgs s_Number_bottom) (defBody s_Number_bottom) (defScope s_Number_bottom) .none kV_Number_bottom dc_Number_bottom pm_Number_bottom an_Number_bottom cd_Number_bottom ct_Number_bottom), osl_Number_bottom⟩)
    (hc_Number_bottom : PySem.W.codeIn K cd_Number_bottom "Number.bottom" = true)
    (k_Number_bottom : PySem.W.keepIn K (.ref f_Number_bottom) = true)
    (a_Number_eq : PySem.W.findIn K (.ref c_Number) "__eq__" = some (some (.ref f_Number_eq)))
    (i_Number_eq : PySem.W.isFn K (.ref f_Number_eq) = true)
    (l_Number_eq : K.lookup f_Number_eq = some ⟨oc_Number_eq, od_Number_eq, .func (PySem.W.fnOf "__eq__" "Number.__eq__" (defArgs s_Number_eq) (defBody s_Number_eq) (defScope s_Number_eq) .none kV_Number_eq dc_Number_eq pm_Number_eq an_Number_eq cd_Number_eq ct_Number_eq), osl_Number_eq⟩)
    (hc_Number_eq : PySem.W.codeIn K cd_Number_eq "Number.__eq__" = true)
    (k_Number_eq : PySem.W.keepIn K (.ref f_Number_eq) = true)
    (a_Number_is_less : PySem.W.findIn K (.ref c_Number) "is_less" = some (some (.ref f_Number_is_less)))
    (i_Number_is_less : PySem.W.isFn K (.ref f_Number_is_less) = true)
    (l_Number_is_less : K.lookup f_Number_is_less = some ⟨oc_Number_is_less, od_Number_is_less, .func (PySem.W.fnOf "is_less" "Number.is_less" (defArgs s_Number_is_less) (defBody s_Number_is_less) (defScope s_Number_is_less) .none kV_Number_is_less dc_Number_is_less pm_Number_is_less an_Number_is_less cd_Number_is_less ct_Number_is_less), osl_Number_is_less⟩)
    (hc_Number_is_less : PySem.W.codeIn K cd_Number_is_less "Number.is_less" = true)
    (k_Number_is_less : PySem.W.keepIn K (.ref f_Number_is_less) = true)
    (a_Number_add : PySem.W.findIn K (.ref c_Number) "__add__" = some (some (.ref f_Number_add)))
    (i_Number_add : PySem.W.isFn K (.ref f_Number_add) = true)
    (l_Number_add : K.lookup f_Number_add = some ⟨oc_Number_add, od_Number_add, .func (PySem.W.fnOf "__add__" "Number.__add__" (defArgs s_Number_add) (defBody s_Number_add) (defScope s_Number_add) .none kV_Number_add dc_Number_add pm_Number_add an_Number_add cd_Number_add ct_Number_add), osl_Number_add⟩)
    (hc_Number_add : PySem.W.codeIn K cd_Number_add "Number.__add__" = true)
    (k_Number_add : PySem.W.keepIn K (.ref f_Number_add) = true)
    (a_Number_divided_by : PySem.W.findIn K (.ref c_Number) "divided_by" = some (some (.ref f_Number_divided_by)))
    (i_Number_divided_by : PySem.W.isFn K (.ref f_Number_divided_by) = true)
    (l_Number_divided_by : K.lookup f_Number_divided_by = some ⟨oc_Number_divided_by, od_Number_divided_by, .func (PySem.W.fnOf "divided_by" "Number.divided_by" (defArgs s_Number_divided_by) (defBody s_Number_divided_by) (defScope s_Number_divided_by) .none kV_Number_divided_by dc_Number_divided_by pm_Number_divided_by an_Number_divided_by cd_Number_divided_by ct_Number_divided_by), osl_Number_divided_by⟩)
    (hc_Number_divided_by : PySem.W.codeIn K cd_Number_divided_by "Number.divided_by" = true)
    (k_Number_divided_by : PySem.W.keepIn K (.ref f_Number_divided_by) = true)
    (a_whole : PySem.W.nsIn K mainGlobals "whole" = some (some (.ref f_whole)))
    (l_whole : K.lookup f_whole = some ⟨oc_whole, od_whole, .func (PySem.W.fnOf "whole" "whole" (defArgs s_whole) (defBody s_whole) (defScope s_whole) .none kV_whole dc_whole pm_whole an_whole cd_whole ct_whole), osl_whole⟩)
    (hc_whole : PySem.W.codeIn K cd_whole "whole" = true)
    (k_whole : PySem.W.keepIn K (.ref f_whole) = true)
    (a_Line_init : PySem.W.findIn K (.ref c_Line) "__init__" = some (some (.ref f_Line_init)))
    (i_Line_init : PySem.W.isFn K (.ref f_Line_init) = true)
    (l_Line_init : K.lookup f_Line_init = some ⟨oc_Line_init, od_Line_init, .func (PySem.W.fnOf "__init__" "Line.__init__" (defArgs s_Line_init) (defBody s_Line_init) (defScope s_Line_init) .none kV_Line_init dc_Line_init pm_Line_init an_Line_init cd_Line_init ct_Line_init), osl_Line_init⟩)
    (hc_Line_init : PySem.W.codeIn K cd_Line_init "Line.__init__" = true)
    (k_Line_init : PySem.W.keepIn K (.ref f_Line_init) = true)
    (a_Stretch_init : PySem.W.findIn K (.ref c_Stretch) "__init__" = some (some (.ref f_Stretch_init)))
    (i_Stretch_init : PySem.W.isFn K (.ref f_Stretch_init) = true)
    (l_Stretch_init : K.lookup f_Stretch_init = some ⟨oc_Stretch_init, od_Stretch_init, .func (PySem.W.fnOf "__init__" "Stretch.__init__" (defArgs s_Stretch_init) (defBody s_Stretch_init) (defScope s_Stretch_init) .none (.ref D_Stretch_init) dc_Stretch_init pm_Stretch_init an_Stretch_init cd_Stretch_init ct_Stretch_init), osl_Stretch_init⟩)
    (hc_Stretch_init : PySem.W.codeIn K cd_Stretch_init "Stretch.__init__" = true)
    (k_Stretch_init : PySem.W.keepIn K (.ref f_Stretch_init) = true)
    (kw_Stretch_init_has_low : PySem.W.nsIn K D_Stretch_init "has_low" = some (some (.bool true)))
    (kw_Stretch_init_has_high : PySem.W.nsIn K D_Stretch_init "has_high" = some (some (.bool true)))
    (at_Stretch_low : PySem.W.findIn K (.ref c_Stretch) "low" = some (some (.ref p_Stretch_low)))
    (gt_Stretch_low : PySem.W.specialIn K (.ref p_Stretch_low) "__get__" = some (some (.builtin "property.__get__")))
    (tk_Stretch_low : PySem.W.takesIn K (.ref p_Stretch_low) = some true)
    (rc_Stretch_low : PySem.W.recIn K p_Stretch_low "property" = some (.ref f_Stretch_low :: r_Stretch_low))
    (l_Stretch_low : K.lookup f_Stretch_low = some ⟨oc_Stretch_low, od_Stretch_low, .func (PySem.W.fnOf "low" "Stretch.low" (defArgs s_Stretch_low) (defBody s_Stretch_low) (defScope s_Stretch_low) .none kV_Stretch_low dc_Stretch_low pm_Stretch_low an_Stretch_low cd_Stretch_low ct_Stretch_low), osl_Stretch_low⟩)
    (hc_Stretch_low : PySem.W.codeIn K cd_Stretch_low "Stretch.low" = true)
    (k_Stretch_low : PySem.W.keepIn K (.ref f_Stretch_low) = true)
    (at_Stretch_high : PySem.W.findIn K (.ref c_Stretch) "high" = some (some (.ref p_Stretch_high)))
    (gt_Stretch_high : PySem.W.specialIn K (.ref p_Stretch_high) "__get__" = some (some (.builtin "property.__get__")))
    (tk_Stretch_high : PySem.W.takesIn K (.ref p_Stretch_high) = some true)
    (rc_Stretch_high : PySem.W.recIn K p_Stretch_high "property" = some (.ref f_Stretch_high :: r_Stretch_high))
    (l_Stretch_high : K.lookup f_Stretch_high = some ⟨oc_Stretch_high, od_Stretch_high, .func (PySem.W.fnOf "high" "Stretch.high" (defArgs s_Stretch_high) (defBody s_Stretch_high) (defScope s_Stretch_high) .none kV_Stretch_high dc_Stretch_high pm_Stretch_high an_Stretch_high cd_Stretch_high ct_Stretch_high), osl_Stretch_high⟩)
    (hc_Stretch_high : PySem.W.codeIn K cd_Stretch_high "Stretch.high" = true)
    (k_Stretch_high : PySem.W.keepIn K (.ref f_Stretch_high) = true)
    (at_Stretch_has_low : PySem.W.findIn K (.ref c_Stretch) "has_low" = some (some (.ref p_Stretch_has_low)))
    (gt_Stretch_has_low : PySem.W.specialIn K (.ref p_Stretch_has_low) "__get__" = some (some (.builtin "property.__get__")))
    (tk_Stretch_has_low : PySem.W.takesIn K (.ref p_Stretch_has_low) = some true)
    (rc_Stretch_has_low : PySem.W.recIn K p_Stretch_has_low "property" = some (.ref f_Stretch_has_low :: r_Stretch_has_low))
    (l_Stretch_has_low : K.lookup f_Stretch_has_low = some ⟨oc_Stretch_has_low, od_Stretch_has_low, .func (PySem.W.fnOf "has_low" "Stretch.has_low" (defArgs s_Stretch_has_low) (defBody s_Stretch_has_low) (defScope s_Stretch_has_low) .none kV_Stretch_has_low dc_Stretch_has_low pm_Stretch_has_low an_Stretch_has_low cd_Stretch_has_low ct_Stretch_has_low), osl_Stretch_has_low⟩)
    (hc_Stretch_has_low : PySem.W.codeIn K cd_Stretch_has_low "Stretch.has_low" = true)
    (k_Stretch_has_low : PySem.W.keepIn K (.ref f_Stretch_has_low) = true)
    (at_Stretch_has_high : PySem.W.findIn K (.ref c_Stretch) "has_high" = some (some (.ref p_Stretch_has_high)))
    (gt_Stretch_has_high : PySem.W.specialIn K (.ref p_Stretch_has_high) "__get__" = some (some (.builtin "property.__get__")))
    (tk_Stretch_has_high : PySem.W.takesIn K (.ref p_Stretch_has_high) = some true)
    (rc_Stretch_has_high : PySem.W.recIn K p_Stretch_has_high "property" = some (.ref f_Stretch_has_high :: r_Stretch_has_high))
    (l_Stretch_has_high : K.lookup f_Stretch_has_high = some ⟨oc_Stretch_has_high, od_Stretch_has_high, .func (PySem.W.fnOf "has_high" "Stretch.has_high" (defArgs s_Stretch_has_high) (defBody s_Stretch_has_high) (defScope s_Stretch_has_high) .none kV_Stretch_has_high dc_Stretch_has_high pm_Stretch_has_high an_Stretch_has_high cd_Stretch_has_high ct_Stretch_has_high), osl_Stretch_has_high⟩)
    (hc_Stretch_has_high : PySem.W.codeIn K cd_Stretch_has_high "Stretch.has_high" = true)
    (k_Stretch_has_high : PySem.W.keepIn K (.ref f_Stretch_has_high) = true)
    (at_Stretch_middle : PySem.W.findIn K (.ref c_Stretch) "middle" = some (some (.ref p_Stretch_middle)))
    (gt_Stretch_middle : PySem.W.specialIn K (.ref p_Stretch_middle) "__get__" = some (some (.builtin "property.__get__")))
    (tk_Stretch_middle : PySem.W.takesIn K (.ref p_Stretch_middle) = some true)
    (rc_Stretch_middle : PySem.W.recIn K p_Stretch_middle "property" = some (.ref f_Stretch_middle :: r_Stretch_middle))
    (l_Stretch_middle : K.lookup f_Stretch_middle = some ⟨oc_Stretch_middle, od_Stretch_middle, .func (PySem.W.fnOf "middle" "Stretch.middle" (defArgs s_Stretch_middle) (defBody s_Stretch_middle) (defScope s_Stretch_middle) .none kV_Stretch_middle dc_Stretch_middle pm_Stretch_middle an_Stretch_middle cd_Stretch_middle ct_Stretch_middle), osl_Stretch_middle⟩)
    (hc_Stretch_middle : PySem.W.codeIn K cd_Stretch_middle "Stretch.middle" = true)
    (k_Stretch_middle : PySem.W.keepIn K (.ref f_Stretch_middle) = true)
    (a_law_pot : PySem.W.nsIn K mainGlobals "_law_pot" = some (some (.ref f_law_pot)))
    (l_law_pot : K.lookup f_law_pot = some ⟨oc_law_pot, od_law_pot, .func (PySem.W.fnOf "_law_pot" "_law_pot" (defArgs s_law_pot) (defBody s_law_pot) (defScope s_law_pot) .none kV_law_pot dc_law_pot pm_law_pot an_law_pot cd_law_pot ct_law_pot), osl_law_pot⟩)
    (hc_law_pot : PySem.W.codeIn K cd_law_pot "_law_pot" = true)
    (k_law_pot : PySem.W.keepIn K (.ref f_law_pot) = true)
    (a_law_take : PySem.W.nsIn K mainGlobals "_law_take" = some (some (.ref f_law_take)))
    (l_law_take : K.lookup f_law_take = some ⟨oc_law_take, od_law_take, .func (PySem.W.fnOf "_law_take" "_law_take" (defArgs s_law_take) (defBody s_law_take) (defScope s_law_take) .none kV_law_take dc_law_take pm_law_take an_law_take cd_law_take ct_law_take), osl_law_take⟩)
    (hc_law_take : PySem.W.codeIn K cd_law_take "_law_take" = true)
    (k_law_take : PySem.W.keepIn K (.ref f_law_take) = true)
    (a_law_of : PySem.W.nsIn K mainGlobals "_law_of" = some (some (.ref f_law_of)))
    (l_law_of : K.lookup f_law_of = some ⟨oc_law_of, od_law_of, .func (PySem.W.fnOf "_law_of" "_law_of" (defArgs s_law_of) (defBody s_law_of) (defScope s_law_of) .none kV_law_of dc_law_of pm_law_of an_law_of cd_law_of ct_law_of), osl_law_of⟩)
    (hc_law_of : PySem.W.codeIn K cd_law_of "_law_of" = true)
    (k_law_of : PySem.W.keepIn K (.ref f_law_of) = true)
    (a_law_drawn : PySem.W.nsIn K mainGlobals "_law_drawn" = some (some (.ref f_law_drawn)))
    (l_law_drawn : K.lookup f_law_drawn = some ⟨oc_law_drawn, od_law_drawn, .func (PySem.W.fnOf "_law_drawn" "_law_drawn" (defArgs s_law_drawn) (defBody s_law_drawn) (defScope s_law_drawn) .none kV_law_drawn dc_law_drawn pm_law_drawn an_law_drawn cd_law_drawn ct_law_drawn), osl_law_drawn⟩)
    (hc_law_drawn : PySem.W.codeIn K cd_law_drawn "_law_drawn" = true)
    (k_law_drawn : PySem.W.keepIn K (.ref f_law_drawn) = true)
    (a_law_odd : PySem.W.nsIn K mainGlobals "_law_odd" = some (some (.ref f_law_odd)))
    (l_law_odd : K.lookup f_law_odd = some ⟨oc_law_odd, od_law_odd, .func (PySem.W.fnOf "_law_odd" "_law_odd" (defArgs s_law_odd) (defBody s_law_odd) (defScope s_law_odd) .none kV_law_odd dc_law_odd pm_law_odd an_law_odd cd_law_odd ct_law_odd), osl_law_odd⟩)
    (hc_law_odd : PySem.W.codeIn K cd_law_odd "_law_odd" = true)
    (k_law_odd : PySem.W.keepIn K (.ref f_law_odd) = true)
    (a_law_is_fine : PySem.W.nsIn K mainGlobals "_law_is_fine" = some (some (.ref f_law_is_fine)))
    (l_law_is_fine : K.lookup f_law_is_fine = some ⟨oc_law_is_fine, od_law_is_fine, .func (PySem.W.fnOf "_law_is_fine" "_law_is_fine" (defArgs s_law_is_fine) (defBody s_law_is_fine) (defScope s_law_is_fine) .none kV_law_is_fine dc_law_is_fine pm_law_is_fine an_law_is_fine cd_law_is_fine ct_law_is_fine), osl_law_is_fine⟩)
    (hc_law_is_fine : PySem.W.codeIn K cd_law_is_fine "_law_is_fine" = true)
    (k_law_is_fine : PySem.W.keepIn K (.ref f_law_is_fine) = true)
    (a_law_heard : PySem.W.nsIn K mainGlobals "_law_heard" = some (some (.ref f_law_heard)))
    (l_law_heard : K.lookup f_law_heard = some ⟨oc_law_heard, od_law_heard, .func (PySem.W.fnOf "_law_heard" "_law_heard" (defArgs s_law_heard) (defBody s_law_heard) (defScope s_law_heard) .none kV_law_heard dc_law_heard pm_law_heard an_law_heard cd_law_heard ct_law_heard), osl_law_heard⟩)
    (hc_law_heard : PySem.W.codeIn K cd_law_heard "_law_heard" = true)
    (k_law_heard : PySem.W.keepIn K (.ref f_law_heard) = true)
    (a_law_is_refused : PySem.W.nsIn K mainGlobals "_law_is_refused" = some (some (.ref f_law_is_refused)))
    (l_law_is_refused : K.lookup f_law_is_refused = some ⟨oc_law_is_refused, od_law_is_refused, .func (PySem.W.fnOf "_law_is_refused" "_law_is_refused" (defArgs s_law_is_refused) (defBody s_law_is_refused) (defScope s_law_is_refused) .none kV_law_is_refused dc_law_is_refused pm_law_is_refused an_law_is_refused cd_law_is_refused ct_law_is_refused), osl_law_is_refused⟩)
    (hc_law_is_refused : PySem.W.codeIn K cd_law_is_refused "_law_is_refused" = true)
    (k_law_is_refused : PySem.W.keepIn K (.ref f_law_is_refused) = true)
    (a_law_is_right : PySem.W.nsIn K mainGlobals "_law_is_right" = some (some (.ref f_law_is_right)))
    (l_law_is_right : K.lookup f_law_is_right = some ⟨oc_law_is_right, od_law_is_right, .func (PySem.W.fnOf "_law_is_right" "_law_is_right" (defArgs s_law_is_right) (defBody s_law_is_right) (defScope s_law_is_right) .none kV_law_is_right dc_law_is_right pm_law_is_right an_law_is_right cd_law_is_right ct_law_is_right), osl_law_is_right⟩)
    (hc_law_is_right : PySem.W.codeIn K cd_law_is_right "_law_is_right" = true)
    (k_law_is_right : PySem.W.keepIn K (.ref f_law_is_right) = true)
    (a_law : PySem.W.nsIn K mainGlobals "law" = some (some (.ref f_law)))
    (l_law : K.lookup f_law = some ⟨oc_law, od_law, .func (PySem.W.fnOf "law" "law" (defArgs s_law) (defBody s_law) (defScope s_law) .none kV_law dc_law pm_law an_law cd_law ct_law), osl_law⟩)
    (hc_law : PySem.W.codeIn K cd_law "law" = true)
    (k_law : PySem.W.keepIn K (.ref f_law) = true)
    (z_isinstance : PySem.W.nsIn K mainGlobals "isinstance" = some none)
    (z_int : PySem.W.nsIn K mainGlobals "int" = some none)
    (z_bool : PySem.W.nsIn K mainGlobals "bool" = some none)
    (z_abs : PySem.W.nsIn K mainGlobals "abs" = some none)
    (z_len : PySem.W.nsIn K mainGlobals "len" = some none)
    (z_max : PySem.W.nsIn K mainGlobals "max" = some none)
    (z_min : PySem.W.nsIn K mainGlobals "min" = some none)
    (z_range : PySem.W.nsIn K mainGlobals "range" = some none)
    (z_repr : PySem.W.nsIn K mainGlobals "repr" = some none)
    (z_all : PySem.W.nsIn K mainGlobals "all" = some none)
    (z_zip : PySem.W.nsIn K mainGlobals "zip" = some none)
    (z_tuple : PySem.W.nsIn K mainGlobals "tuple" = some none)
    (kit_NumNum : PySem.W.kitOne K (.ref c_Number) (.ref c_Number) = some true)
    (kit_StrStr : PySem.W.kitOne K (.ref c_Stretch) (.ref c_Stretch) = some true)
    (kit_blbl : PySem.W.kitOne K (.type "bool") (.type "bool") = some true)
    (kit_tuptup : PySem.W.kitOne K (.type "tuple") (.type "tuple") = some true)
    (kit_SB : PySem.W.kitOne K (.ref c_BadStretch) (.ref c_BadStretch) = some true)
    (kit_SN : PySem.W.kitOne K (.ref c_BadStretch) (.ref c_BadNumber) = some false)
    (kit_LinNum : PySem.W.kitOne K (.ref c_Line) (.ref c_Number) = some false)
    (kit_Linbl : PySem.W.kitOne K (.ref c_Line) (.type "bool") = some false)
    (kit_nonNum : PySem.W.kitOne K (.type "NoneType") (.ref c_Number) = some false)
    (kit_nonbl : PySem.W.kitOne K (.type "NoneType") (.type "bool") = some false)
    (kit_intNum : PySem.W.kitOne K (.type "int") (.ref c_Number) = some false)
    (kit_intbl : PySem.W.kitOne K (.type "int") (.type "bool") = some false)
    (kit_strNum : PySem.W.kitOne K (.type "str") (.ref c_Number) = some false)
    (kit_strbl : PySem.W.kitOne K (.type "str") (.type "bool") = some false)
    (kit_tupNum : PySem.W.kitOne K (.type "tuple") (.ref c_Number) = some false)
    (kit_tupbl : PySem.W.kitOne K (.type "tuple") (.type "bool") = some false)
    (kit_lstNum : PySem.W.kitOne K (.type "list") (.ref c_Number) = some false)
    (kit_lstbl : PySem.W.kitOne K (.type "list") (.type "bool") = some false)
    (kit_dctNum : PySem.W.kitOne K (.type "dict") (.ref c_Number) = some false)
    (kit_dctbl : PySem.W.kitOne K (.type "dict") (.type "bool") = some false)
    : ∃ fd : FuncData, (∀ (s : Shared) (v : Value), BindsTo s fd ⟨[v], []⟩ [("script", v)]) ∧ ∀ base : Heap, K.In base → base.Ns mainGlobals mg → FnG PP w K mg base CX0 LV fa fd ["script"] (spLaw K) := by
  obtain ⟨A, eA, T⟩ := all_mk X G a_SpeedError a_BadNumber a_BadStretch a_Number pg_Number hd_Number po_Number sa_Number mk_Number kc_Number sf_Number ca_Number cm_Number n_Number_own_top n_Number_own_bottom a_Line pg_Line hd_Line po_Line sa_Line mk_Line kc_Line sf_Line ca_Line cm_Line n_Line_own_base n_Line_own_slope a_Stretch pg_Stretch hd_Stretch po_Stretch sa_Stretch mk_Stretch kc_Stretch sf_Stretch ca_Stretch cm_Stretch n_Stretch_own_low n_Stretch_own_high n_Stretch_includes_low n_Stretch_includes_high n_Stretch_own_middle cn ct z_super tp_any lC_BadStretch rv_BadStretch sa_BadStretch ex_BadStretch ty_BadStretch kc_BadStretch in_BadStretch ti_BadStretch lf_BadStretch hc_BadStretch lk_BadStretch vs_BadStretch fi_BadStretch lc_BadStretch ms_BadStretch sv_BadStretch sp_BadStretch no_BadStretch ga_BadStretch gg_BadStretch hd_BadStretch ca_BadStretch cm_BadStretch su_BadStretch_SpeedError ic_SpeedError sb_SpeedError tt_SpeedError a_is_integer l_is_integer hc_is_integer k_is_integer a_shared_divisor l_shared_divisor hc_shared_divisor k_shared_divisor a_Number_init i_Number_init l_Number_init hc_Number_init k_Number_init lT_Number_init at_Number_top gt_Number_top tk_Number_top rc_Number_top l_Number_top hc_Number_top k_Number_top at_Number_bottom gt_Number_bottom tk_Number_bottom rc_Number_bottom l_Number_bottom hc_Number_bottom k_Number_bottom a_Number_eq i_Number_eq l_Number_eq hc_Number_eq k_Number_eq a_Number_is_less i_Number_is_less l_Number_is_less hc_Number_is_less k_Number_is_less a_Number_add i_Number_add l_Number_add hc_Number_add k_Number_add a_Number_divided_by i_Number_divided_by l_Number_divided_by hc_Number_divided_by k_Number_divided_by a_whole l_whole hc_whole k_whole a_Line_init i_Line_init l_Line_init hc_Line_init k_Line_init a_Stretch_init i_Stretch_init l_Stretch_init hc_Stretch_init k_Stretch_init kw_Stretch_init_has_low kw_Stretch_init_has_high at_Stretch_low gt_Stretch_low tk_Stretch_low rc_Stretch_low l_Stretch_low hc_Stretch_low k_Stretch_low at_Stretch_high gt_Stretch_high tk_Stretch_high rc_Stretch_high l_Stretch_high hc_Stretch_high k_Stretch_high at_Stretch_has_low gt_Stretch_has_low tk_Stretch_has_low rc_Stretch_has_low l_Stretch_has_low hc_Stretch_has_low k_Stretch_has_low at_Stretch_has_high gt_Stretch_has_high tk_Stretch_has_high rc_Stretch_has_high l_Stretch_has_high hc_Stretch_has_high k_Stretch_has_high at_Stretch_middle gt_Stretch_middle tk_Stretch_middle rc_Stretch_middle l_Stretch_middle hc_Stretch_middle k_Stretch_middle a_law_pot l_law_pot hc_law_pot k_law_pot a_law_take l_law_take hc_law_take k_law_take a_law_of l_law_of hc_law_of k_law_of a_law_drawn l_law_drawn hc_law_drawn k_law_drawn a_law_odd l_law_odd hc_law_odd k_law_odd a_law_is_fine l_law_is_fine hc_law_is_fine k_law_is_fine a_law_heard l_law_heard hc_law_heard k_law_heard a_law_is_refused l_law_is_refused hc_law_is_refused k_law_is_refused a_law_is_right l_law_is_right hc_law_is_right k_law_is_right a_law l_law hc_law k_law z_isinstance z_int z_bool z_abs z_len z_max z_min z_range z_repr z_all z_zip z_tuple kit_NumNum kit_StrStr kit_blbl kit_tuptup kit_SB kit_SN kit_LinNum kit_Linbl kit_nonNum kit_nonbl kit_intNum kit_intbl kit_strNum kit_strbl kit_tupNum kit_tupbl kit_lstNum kit_lstbl kit_dctNum kit_dctbl
  have e := hfa.symm.trans (PySem.W.mg_of X G a_law)
  cases e
  refine ⟨A.d_law, fun s v => ?_, fun base _ _ => eA ▸ (ok_law T).mono (by decide)⟩
  obtain ⟨oc, od, kV, doc, pm, an, cdv, ct, osl, hfd, _, _⟩ := T.F_law.ex
  rw [hfd]
  exact .of_eq rfl
end Q
open PySem PySem.W PyProof.Rows
set_option maxRecDepth 100000 in
set_option maxHeartbeats 0 in
theorem PySem.Challenge.cw_whatspeed_k07_stretches_of_any_value_holds : PySem.Challenge.rw_whatspeed_k07_stretches_of_any_value.Holds := by
  w_on; o_law; k_head; (case hw => w_witness2)
  k_fill
  refine Q.walk (l := PySem.Challenge.rw_whatspeed_k07_stretches_of_any_value) rfl rfl (fun w h Y => PySem.W.kIn_of Y) ?F
  case F =>
    intro w mg fa h KX G hmg
    refine' Q.law_mk KX G hmg ?a_SpeedError ?a_BadNumber ?a_BadStretch ?a_Number ?pg_Number ?hd_Number ?po_Number ?sa_Number ?mk_Number ?kc_Number ?sf_Number ?ca_Number ?cm_Number ?n_Number_own_top ?n_Number_own_bottom ?a_Line ?pg_Line ?hd_Line ?po_Line ?sa_Line ?mk_Line ?kc_Line ?sf_Line ?ca_Line ?cm_Line ?n_Line_own_base ?n_Line_own_slope ?a_Stretch ?pg_Stretch ?hd_Stretch ?po_Stretch ?sa_Stretch ?mk_Stretch ?kc_Stretch ?sf_Stretch ?ca_Stretch ?cm_Stretch ?n_Stretch_own_low ?n_Stretch_own_high ?n_Stretch_includes_low ?n_Stretch_includes_high ?n_Stretch_own_middle ?cn ?ct ?z_super ?tp_any ?lC_BadStretch ?rv_BadStretch ?sa_BadStretch ?ex_BadStretch ?ty_BadStretch ?kc_BadStretch ?in_BadStretch ?ti_BadStretch ?lf_BadStretch ?hc_BadStretch ?lk_BadStretch ?vs_BadStretch ?fi_BadStretch ?lc_BadStretch ?ms_BadStretch ?sv_BadStretch ?sp_BadStretch ?no_BadStretch ?ga_BadStretch ?gg_BadStretch ?hd_BadStretch ?ca_BadStretch ?cm_BadStretch ?su_BadStretch_SpeedError ?ic_SpeedError ?sb_SpeedError ?tt_SpeedError ?a_is_integer ?l_is_integer ?hc_is_integer ?k_is_integer ?a_shared_divisor ?l_shared_divisor ?hc_shared_divisor ?k_shared_divisor ?a_Number_init ?i_Number_init ?l_Number_init ?hc_Number_init ?k_Number_init ?lT_Number_init ?at_Number_top ?gt_Number_top ?tk_Number_top ?rc_Number_top ?l_Number_top ?hc_Number_top ?k_Number_top ?at_Number_bottom ?gt_Number_bottom ?tk_Number_bottom ?rc_Number_bottom ?l_Number_bottom ?hc_Number_bottom ?k_Number_bottom ?a_Number_eq ?i_Number_eq ?l_Number_eq ?hc_Number_eq ?k_Number_eq ?a_Number_is_less ?i_Number_is_less ?l_Number_is_less ?hc_Number_is_less ?k_Number_is_less ?a_Number_add ?i_Number_add ?l_Number_add ?hc_Number_add ?k_Number_add ?a_Number_divided_by ?i_Number_divided_by ?l_Number_divided_by ?hc_Number_divided_by ?k_Number_divided_by ?a_whole ?l_whole ?hc_whole ?k_whole ?a_Line_init ?i_Line_init ?l_Line_init ?hc_Line_init ?k_Line_init ?a_Stretch_init ?i_Stretch_init ?l_Stretch_init ?hc_Stretch_init ?k_Stretch_init ?kw_Stretch_init_has_low ?kw_Stretch_init_has_high ?at_Stretch_low ?gt_Stretch_low ?tk_Stretch_low ?rc_Stretch_low ?l_Stretch_low ?hc_Stretch_low ?k_Stretch_low ?at_Stretch_high ?gt_Stretch_high ?tk_Stretch_high ?rc_Stretch_high ?l_Stretch_high ?hc_Stretch_high ?k_Stretch_high ?at_Stretch_has_low ?gt_Stretch_has_low ?tk_Stretch_has_low ?rc_Stretch_has_low ?l_Stretch_has_low ?hc_Stretch_has_low ?k_Stretch_has_low ?at_Stretch_has_high ?gt_Stretch_has_high ?tk_Stretch_has_high ?rc_Stretch_has_high ?l_Stretch_has_high ?hc_Stretch_has_high ?k_Stretch_has_high ?at_Stretch_middle ?gt_Stretch_middle ?tk_Stretch_middle ?rc_Stretch_middle ?l_Stretch_middle ?hc_Stretch_middle ?k_Stretch_middle ?a_law_pot ?l_law_pot ?hc_law_pot ?k_law_pot ?a_law_take ?l_law_take ?hc_law_take ?k_law_take ?a_law_of ?l_law_of ?hc_law_of ?k_law_of ?a_law_drawn ?l_law_drawn ?hc_law_drawn ?k_law_drawn ?a_law_odd ?l_law_odd ?hc_law_odd ?k_law_odd ?a_law_is_fine ?l_law_is_fine ?hc_law_is_fine ?k_law_is_fine ?a_law_heard ?l_law_heard ?hc_law_heard ?k_law_heard ?a_law_is_refused ?l_law_is_refused ?hc_law_is_refused ?k_law_is_refused ?a_law_is_right ?l_law_is_right ?hc_law_is_right ?k_law_is_right ?a_law ?l_law ?hc_law ?k_law ?z_isinstance ?z_int ?z_bool ?z_abs ?z_len ?z_max ?z_min ?z_range ?z_repr ?z_all ?z_zip ?z_tuple ?kit_NumNum ?kit_StrStr ?kit_blbl ?kit_tuptup ?kit_SB ?kit_SN ?kit_LinNum ?kit_Linbl ?kit_nonNum ?kit_nonbl ?kit_intNum ?kit_intbl ?kit_strNum ?kit_strbl ?kit_tupNum ?kit_tupbl ?kit_lstNum ?kit_lstbl ?kit_dctNum ?kit_dctbl
    (case a_SpeedError => k_is)
    (case a_BadNumber => k_is)
    (case a_BadStretch => k_is)
    (case a_Number => k_is)
    (case pg_Number => k_is)
    (case hd_Number => k_is)
    (case po_Number => k_is)
    (case sa_Number => k_is)
    (case mk_Number => k_is)
    (case kc_Number => k_is)
    (case sf_Number => k_is)
    (case ca_Number => k_is)
    (case cm_Number => k_is)
    (case n_Number_own_top => k_is)
    (case n_Number_own_bottom => k_is)
    (case a_Line => k_is)
    (case pg_Line => k_is)
    (case hd_Line => k_is)
    (case po_Line => k_is)
    (case sa_Line => k_is)
    (case mk_Line => k_is)
    (case kc_Line => k_is)
    (case sf_Line => k_is)
    (case ca_Line => k_is)
    (case cm_Line => k_is)
    (case n_Line_own_base => k_is)
    (case n_Line_own_slope => k_is)
    (case a_Stretch => k_is)
    (case pg_Stretch => k_is)
    (case hd_Stretch => k_is)
    (case po_Stretch => k_is)
    (case sa_Stretch => k_is)
    (case mk_Stretch => k_is)
    (case kc_Stretch => k_is)
    (case sf_Stretch => k_is)
    (case ca_Stretch => k_is)
    (case cm_Stretch => k_is)
    (case n_Stretch_own_low => k_is)
    (case n_Stretch_own_high => k_is)
    (case n_Stretch_includes_low => k_is)
    (case n_Stretch_includes_high => k_is)
    (case n_Stretch_own_middle => k_is)
    (case cn => k_is)
    (case ct => k_is)
    (case z_super => k_is)
    (case tp_any => k_is)
    (case lC_BadStretch => k_is)
    (case rv_BadStretch => rfl)
    (case sa_BadStretch => k_is)
    (case ex_BadStretch => k_is)
    (case ty_BadStretch => k_is)
    (case kc_BadStretch => k_is)
    (case in_BadStretch => k_is)
    (case ti_BadStretch => k_is)
    (case lf_BadStretch => k_is)
    (case hc_BadStretch => k_is)
    (case lk_BadStretch => k_is)
    (case vs_BadStretch => rfl)
    (case fi_BadStretch => kernel_rfl)
    (case lc_BadStretch => k_is)
    (case ms_BadStretch => k_is)
    (case sv_BadStretch => k_is)
    (case sp_BadStretch => kernel_rfl)
    (case no_BadStretch => k_is)
    (case ga_BadStretch => k_is)
    (case gg_BadStretch => k_is)
    (case hd_BadStretch => k_is)
    (case ca_BadStretch => k_is)
    (case cm_BadStretch => k_is)
    (case su_BadStretch_SpeedError => k_is)
    (case ic_SpeedError => k_is)
    (case sb_SpeedError => k_is)
    (case tt_SpeedError => k_is)
    (case a_is_integer => k_is)
    (case l_is_integer => k_is)
    (case hc_is_integer => k_is)
    (case k_is_integer => k_is)
    (case a_shared_divisor => k_is)
    (case l_shared_divisor => k_is)
    (case hc_shared_divisor => k_is)
    (case k_shared_divisor => k_is)
    (case a_Number_init => k_is)
    (case i_Number_init => k_is)
    (case l_Number_init => k_is)
    (case hc_Number_init => k_is)
    (case k_Number_init => k_is)
    (case lT_Number_init => k_is)
    (case at_Number_top => k_is)
    (case gt_Number_top => k_is)
    (case tk_Number_top => k_is)
    (case rc_Number_top => k_is)
    (case l_Number_top => k_is)
    (case hc_Number_top => k_is)
    (case k_Number_top => k_is)
    (case at_Number_bottom => k_is)
    (case gt_Number_bottom => k_is)
    (case tk_Number_bottom => k_is)
    (case rc_Number_bottom => k_is)
    (case l_Number_bottom => k_is)
    (case hc_Number_bottom => k_is)
    (case k_Number_bottom => k_is)
    (case a_Number_eq => k_is)
    (case i_Number_eq => k_is)
    (case l_Number_eq => k_is)
    (case hc_Number_eq => k_is)
    (case k_Number_eq => k_is)
    (case a_Number_is_less => k_is)
    (case i_Number_is_less => k_is)
    (case l_Number_is_less => k_is)
    (case hc_Number_is_less => k_is)
    (case k_Number_is_less => k_is)
    (case a_Number_add => k_is)
    (case i_Number_add => k_is)
    (case l_Number_add => k_is)
    (case hc_Number_add => k_is)
    (case k_Number_add => k_is)
    (case a_Number_divided_by => k_is)
    (case i_Number_divided_by => k_is)
    (case l_Number_divided_by => k_is)
    (case hc_Number_divided_by => k_is)
    (case k_Number_divided_by => k_is)
    (case a_whole => k_is)
    (case l_whole => k_is)
    (case hc_whole => k_is)
    (case k_whole => k_is)
    (case a_Line_init => k_is)
    (case i_Line_init => k_is)
    (case l_Line_init => k_is)
    (case hc_Line_init => k_is)
    (case k_Line_init => k_is)
    (case a_Stretch_init => k_is)
    (case i_Stretch_init => k_is)
    (case l_Stretch_init => k_is)
    (case hc_Stretch_init => k_is)
    (case k_Stretch_init => k_is)
    (case kw_Stretch_init_has_low => k_is)
    (case kw_Stretch_init_has_high => k_is)
    (case at_Stretch_low => k_is)
    (case gt_Stretch_low => k_is)
    (case tk_Stretch_low => k_is)
    (case rc_Stretch_low => k_is)
    (case l_Stretch_low => k_is)
    (case hc_Stretch_low => k_is)
    (case k_Stretch_low => k_is)
    (case at_Stretch_high => k_is)
    (case gt_Stretch_high => k_is)
    (case tk_Stretch_high => k_is)
    (case rc_Stretch_high => k_is)
    (case l_Stretch_high => k_is)
    (case hc_Stretch_high => k_is)
    (case k_Stretch_high => k_is)
    (case at_Stretch_has_low => k_is)
    (case gt_Stretch_has_low => k_is)
    (case tk_Stretch_has_low => k_is)
    (case rc_Stretch_has_low => k_is)
    (case l_Stretch_has_low => k_is)
    (case hc_Stretch_has_low => k_is)
    (case k_Stretch_has_low => k_is)
    (case at_Stretch_has_high => k_is)
    (case gt_Stretch_has_high => k_is)
    (case tk_Stretch_has_high => k_is)
    (case rc_Stretch_has_high => k_is)
    (case l_Stretch_has_high => k_is)
    (case hc_Stretch_has_high => k_is)
    (case k_Stretch_has_high => k_is)
    (case at_Stretch_middle => k_is)
    (case gt_Stretch_middle => k_is)
    (case tk_Stretch_middle => k_is)
    (case rc_Stretch_middle => k_is)
    (case l_Stretch_middle => k_is)
    (case hc_Stretch_middle => k_is)
    (case k_Stretch_middle => k_is)
    (case a_law_pot => k_is)
    (case l_law_pot => k_is)
    (case hc_law_pot => k_is)
    (case k_law_pot => k_is)
    (case a_law_take => k_is)
    (case l_law_take => k_is)
    (case hc_law_take => k_is)
    (case k_law_take => k_is)
    (case a_law_of => k_is)
    (case l_law_of => k_is)
    (case hc_law_of => k_is)
    (case k_law_of => k_is)
    (case a_law_drawn => k_is)
    (case l_law_drawn => k_is)
    (case hc_law_drawn => k_is)
    (case k_law_drawn => k_is)
    (case a_law_odd => k_is)
    (case l_law_odd => k_is)
    (case hc_law_odd => k_is)
    (case k_law_odd => k_is)
    (case a_law_is_fine => k_is)
    (case l_law_is_fine => k_is)
    (case hc_law_is_fine => k_is)
    (case k_law_is_fine => k_is)
    (case a_law_heard => k_is)
    (case l_law_heard => k_is)
    (case hc_law_heard => k_is)
    (case k_law_heard => k_is)
    (case a_law_is_refused => k_is)
    (case l_law_is_refused => k_is)
    (case hc_law_is_refused => k_is)
    (case k_law_is_refused => k_is)
    (case a_law_is_right => k_is)
    (case l_law_is_right => k_is)
    (case hc_law_is_right => k_is)
    (case k_law_is_right => k_is)
    (case a_law => k_is)
    (case l_law => k_is)
    (case hc_law => k_is)
    (case k_law => k_is)
    (case z_isinstance => k_is)
    (case z_int => k_is)
    (case z_bool => k_is)
    (case z_abs => k_is)
    (case z_len => k_is)
    (case z_max => k_is)
    (case z_min => k_is)
    (case z_range => k_is)
    (case z_repr => k_is)
    (case z_all => k_is)
    (case z_zip => k_is)
    (case z_tuple => k_is)
    (case kit_NumNum => kit_is)
    (case kit_StrStr => kit_is)
    (case kit_blbl => kit_is)
    (case kit_tuptup => kit_is)
    (case kit_SB => kit_is)
    (case kit_SN => kit_is)
    (case kit_LinNum => kit_is)
    (case kit_Linbl => kit_is)
    (case kit_nonNum => kit_is)
    (case kit_nonbl => kit_is)
    (case kit_intNum => kit_is)
    (case kit_intbl => kit_is)
    (case kit_strNum => kit_is)
    (case kit_strbl => kit_is)
    (case kit_tupNum => kit_is)
    (case kit_tupbl => kit_is)
    (case kit_lstNum => kit_is)
    (case kit_lstbl => kit_is)
    (case kit_dctNum => kit_is)
    (case kit_dctbl => kit_is)
