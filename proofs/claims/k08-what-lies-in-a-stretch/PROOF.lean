import PyProof.Rows.All
import Wide.All
import OpenK.AllK
import Wide.FinOn
import KE.KOpsOwn
import KE.RegKIsAll
import HandS.ForMost
import HandS.ForExc
import HandS.Wide
import HandS.IsInst
import HandS.Property
import HandS.Star
import HandS.SlotsOwn
import HandS.MakeKw
import HandS.Evl
import HandS.Style
import HandS.MakeKwOnly
import HandS.TupSets
import HandS.Small
import PyProof.MeetsIn
import PyProof.CallType
import PyProof.Conv_bool
import PyProof.ReprRoads
import HandS.Defaults
import KE.DataFind
import HandS.TryOnly
import PySem.Challenge.RW_whatspeed_k08_whole_what_lies_in_a_stret
set_option Elab.async false
set_option linter.all false
set_option maxRecDepth 100000
set_option maxHeartbeats 2000000
namespace WL
open PySem PySem.Spec PyProof.Rows L2

/-! ### operators that the bundles lack -/
def CPowW (i j : Int) : Prop := 0 ≤ j ∧ (Builtin.Int.intBits i : Int) * j ≤ 2 ^ 27
def CDivG (i j : Int) : Prop := j ≠ 0 ∧ j.natAbs.log2 < 9000
section
variable {X : Cx}
theorem op_powW : OpR X (binaryOp .Pow) (rI CPowW fun i j => .int (i ^ j.toNat)) := opI fun _ _ _ _ _ _ _ hc q => pow_int hc.1 hc.2 q
theorem op_fdivG : OpR X (binaryOp .FloorDiv) (rI CDivG fun i j => .int (i.fdiv j)) := opI fun _ _ _ _ _ _ _ hc q =>
  floordiv_int hc.1 q (.inl (PyProof.noPylong_of_log2 hc.2))
end

/-! ### an own class's operators: x op y, both instances of the class at C -/
def rOwn2 (C : Addr) (sp : Sp) (E : XK) : R2 := fun x y H Q => ∃ a dx fs b dy gs, x = .ref a ∧ y = .ref b ∧ H a = some (.ins C dx fs) ∧ H b = some (.ins C dy gs) ∧ sp [x, y] H Q E
/-- x == y, x an instance of the class at C, y of a type that is not below it -/
def rOwnEq (K : PySem.W.Frag) (C : Addr) (sp : Sp) (E : XK) : R2 := fun x y H Q => ∃ a dx fs t, x = .ref a ∧ H a = some (.ins C dx fs) ∧ TyX K H y t ∧ PySem.W.notFirst K C t = true ∧ sp [x, y] H Q E
section
variable {X : Cx} {CX : CXT} {n : Nat} {C g : Addr} {fd : FuncData} {ps : List Str} {sp : Sp} {E : XK}
theorem op_own2 {op : Operator} (F : FnOk X.prog X.w X.K X.mg X.base CX n g fd ps sp) (hb : Binds X.K fd ps []) (hs : PySem.W.findIn X.K (.ref C) (PySem.dunder op.info.2) = some (some (.ref g)))
    (hf : PySem.W.isFn X.K (.ref g) = true) (hc : PySem.W.selfFirst X.K C = true) (hr : Room n X.A) (hx : Passes CX X E) : OpR X (binaryOp op) (rOwn2 C sp E) := by
  intro pins s σ H x y v u Q I rx ry h
  obtain ⟨a, dx, fs, b, dy, gs, rfl, rfl, ha, hb', q⟩ := h
  cases (show v = Value.ref a from rx)
  cases (show u = Value.ref b from ry)
  obtain ⟨mA, J, _⟩ := ins_get I.hok ha
  obtain ⟨mB, J', _⟩ := ins_get I.hok hb'
  obtain ⟨od, J, _⟩ := J.look
  obtain ⟨od', J', _⟩ := J'.look
  obtain ⟨m, hF⟩ := I.fr
  refine PySem.W.binop_K hF I.ok.mod.kin J J'.type hc hs hf ?_
  refine wpAny_mono (run_fn (us := [.ref a, .ref b]) (vs := [.ref a, .ref b]) (dvs := []) (ds := []) F hr hb .nil hx I (.cons rfl (.cons rfl .nil)) q) (fun w s' z => ?_) fun _ _ x => x
  obtain ⟨z', H', I', rz, qz⟩ := z
  exact SlX.cmpback rz ⟨z', H', I', rz, qz⟩
theorem op_ownEq (F : FnOk X.prog X.w X.K X.mg X.base CX n g fd ps sp) (hb : Binds X.K fd ps []) (hs : PySem.W.findIn X.K (.ref C) "__eq__" = some (some (.ref g)))
    (hf : PySem.W.isFn X.K (.ref g) = true) (hr : Room n X.A) (hx : Passes CX X E) : OpR X (compareOp .Eq) (rOwnEq X.K C sp E) := by
  intro pins s σ H x y v u Q I rx ry h
  obtain ⟨a, dx, fs, t, rfl, ha, ty, hn, q⟩ := h
  cases (show v = Value.ref a from rx)
  obtain ⟨mA, J, _⟩ := ins_get I.hok ha
  obtain ⟨od, J, _⟩ := J.look
  obtain ⟨m, hF⟩ := I.fr
  obtain ⟨P, Z, p, _⟩ := kit_of I ry ty
  show wpAny (model X.prog X.w) X.A (richCompare .Eq (.ref a) u) (EP X pins σ Q) X.xe s
  refine PySem.W.cmp_K (op := .Eq) hr.units0 hF I.ok.mod.kin J (Z.ty _ _ I.kIn p) hn hs hf ?_
  refine wpAny_mono (run_fn (us := [.ref a, u]) (vs := [.ref a, y]) (dvs := []) (ds := []) F hr hb .nil hx I (.cons rfl (.cons ry .nil)) q) (fun w s' z => ?_) fun _ _ x => x
  obtain ⟨z', H', I', rz, qz⟩ := z
  exact SlX.cmpback rz ⟨z', H', I', rz, qz⟩
/-- -x -/
def rOwn1 (C : Addr) (sp : Sp) (E : XK) : V → Hp → VK → Prop := fun x H Q => ∃ a dx fs, x = .ref a ∧ H a = some (.ins C dx fs) ∧ sp [x] H Q E
theorem un_ownNeg (F : FnOk X.prog X.w X.K X.mg X.base CX n g fd ps sp) (hb : Binds X.K fd ps []) (hs : PySem.W.findIn X.K (.ref C) "__neg__" = some (some (.ref g)))
    (hf : PySem.W.isFn X.K (.ref g) = true) (hr : Room n X.A) (hx : Passes CX X E) : UnR X (unaryOp .USub) (rOwn1 C sp E) := by
  intro pins s σ H x v Q I rx h
  obtain ⟨a, dx, fs, rfl, ha, q⟩ := h
  cases (show v = Value.ref a from rx)
  obtain ⟨mA, J, _⟩ := ins_get I.hok ha
  obtain ⟨od, J, _⟩ := J.look
  obtain ⟨m, hF⟩ := I.fr
  exact PySem.W.ksp_neg hF I.ok.mod.kin J hs hf (run_fn (us := [.ref a]) (vs := [.ref a]) (dvs := []) (ds := []) F hr hb .nil hx I (.cons rfl .nil) q)
end

/-! ### x != y by an own __eq__ and object's __ne__ -/
section
variable {prog : Program} {w : World} {A : Around} {E : Value → Shared → Prop} {s : Shared} {K : PySem.W.Frag} {x C f L : Addr} {h₀ : Heap} {m : Str → Option Value} {ox : Obj} {od : Option Obj} {b tb : Value}
theorem ne_entry (X : K.In s.heap) (I : PySem.W.InstAt s.heap x ox C od) (hu : A.units < cLine) (hs : PySem.W.findIn K (.ref C) "__eq__" = some (some (.ref f))) (hf : PySem.W.isFn K (.ref f) = true) {Q : Fin → Shared → Prop}
    (h : wpAny (model prog w) A (call (.ref f) [.ref x, b]) (fun v s' => ∃ r, v = .bool r ∧ Q (.done (.ret (.bool (!r)))) s') E s) :
    wpAny (model prog w) A (Builtin.«object.__ne__» ⟨[.ref x, b], []⟩) Q E s := by
  unfold Builtin.«object.__ne__»
  repeat (first
    | with_reducible refine wpAny_cRoomFor hu ?_
    | (refine wpAny_bind (m := callSpecialIfBound? (.ref x) (Str.ofString "__eq__") [b])
        (PySem.W.ifBound_K X I hs hf (wpAny_mono h (fun r s' hr => by
          obtain ⟨b, rfl, hq⟩ := hr
          repeat (first | exact hq | exact wpAny_pure hq | exact wpAny_truthy_bool hq | (refine wpAny_bind (m := truthy (.bool _)) (wpAny_truthy_bool ?_)) | wp_step)) fun _ _ e => e)))
    | wp_step)
theorem try_ne (X : K.In s.heap) (I : PySem.W.InstAt s.heap x ox C od) (hu : A.units + 1 < cLine) (hne : PySem.W.findIn K (.ref C) "__ne__" = some (some (.builtin "object.__ne__"))) (hm : PySem.W.mroIn K C (.type "object") = some true)
    (hs : PySem.W.findIn K (.ref C) "__eq__" = some (some (.ref f))) (hf : PySem.W.isFn K (.ref f) = true) {Q : Option Value → Shared → Prop}
    (h : wpAny (model prog w) A.in1 (call (.ref f) [.ref x, b]) (fun v s' => ∃ r, v = .bool r ∧ Q (some (.bool (!r))) s') E s) :
    wpAny (model prog w) A (tryCompare (.ref x) "__ne__" b) Q E s := by
  unfold tryCompare
  simp only [callSpecialIfBound?, bindSpecialIfBound?]
  refine wpAny_bind (wpAny_holding (wpAny_bind (wpAny_bind (wpAny_bind (I.type.here ((PySem.W.looks_findIn X hne).here ?_))))))
  have call_it : ∀ {Q' : Value → Shared → Prop}, (∀ r s', Q (some (.bool (!r))) s' → Q' (.bool (!r)) s') → wpAny (model prog w) A (call (.builtin "object.__ne__") [.ref x, b]) Q' E s := fun hq =>
    wpAny_call (codeAny_call_builtin F.cmp_object.ne.plain F.cmpEntry_ne (PySem.W.check_slot F.cmpKind_ne F.cmpSplit_ne (I.type.andThen (PySem.W.looks_mroIn X hm)) (F.cmpArgs_ne _ _)
      (ne_entry (A := A.in1) X I hu hs hf (wpAny_mono h (fun v s' hv => by
        obtain ⟨r, rfl, hq'⟩ := hv
        first | exact ⟨r, rfl, hq _ _ hq'⟩ | exact ⟨r, rfl, wpAny_pure (hq _ _ hq')⟩) fun _ _ e => e))))
  simp only [F.cmp_object.ne.bind]
  refine wpAny_bind (wpAny_askSetting (wpAny_ite ?_))
  have fin : wpAny (model prog w) A (call (.builtin "object.__ne__") ([.ref x] ++ [b]) >>= fun v => pure (some v)) (fun r s' => wpAny (model prog w) A (match r with | some .notImplemented => pure none | none => pure none | some v => pure (some v)) Q E s') E s :=
    wpAny_bind (call_it fun r s' q => wpAny_pure (wpAny_pure q))
  split
  · exact wpAny_bind (wpAny_pure (wpAny_pure (by first | exact fin | exact wpAny_mono fin (fun _ _ z => z) fun _ _ z => z)))
  · exact wpAny_tryCatch (wpAny_bind (wpAny_pure (wpAny_pure (by first | exact fin | exact wpAny_mono fin (fun _ _ z => z) fun _ _ z => z))))
theorem ne_K {Q : Value → Shared → Prop} (hu : A.units + 1 < cLine) (X : K.In s.heap) (I : PySem.W.InstAt s.heap x ox C od) (hb : PySem.W.Looks (model prog w) s.heap (typeOf b) tb) (hn : PySem.W.notFirst K C tb = true)
    (hne : PySem.W.findIn K (.ref C) "__ne__" = some (some (.builtin "object.__ne__"))) (hm : PySem.W.mroIn K C (.type "object") = some true) (hs : PySem.W.findIn K (.ref C) "__eq__" = some (some (.ref f))) (hf : PySem.W.isFn K (.ref f) = true)
    (h : wpAny (model prog w) A.in1 (call (.ref f) [.ref x, b]) (fun v s' => ∃ r, v = .bool r ∧ Q (.bool (!r)) s') E s) : wpAny (model prog w) A (richCompare .NotEq (.ref x) b) Q E s := by
  have one : wpAny (model prog w) A (tryCompare (.ref x) "__ne__" b) (fun r s' => ∃ v, r = some v ∧ Q v s') E s := try_ne X I hu hne hm hs hf (wpAny_mono h (fun v s' hv => by
    obtain ⟨r, rfl, q⟩ := hv
    exact ⟨r, rfl, _, rfl, q⟩) fun _ _ e => e)
  unfold richCompare
  simp only [oneThing_ref]
  refine wpAny_holding (wpAny_bind (wpAny_cRoomFor (by omega) ?_))
  refine wpAny_bind (I.type.here (wpAny_bind (hb.here ?_)))
  split
  · rename_i q
    have e : PySem.W.subIn K tb (.ref C) = some false := by
      rcases Bool.or_eq_true_iff.mp hn with e | e
      · rw [beq_iff_eq.mp e] at q; simp at q
      · exact beq_iff_eq.mp e
    refine wpAny_bind ((PySem.W.looks_subIn X e).here ?_)
    simp only [Bool.false_eq_true, if_false]
    refine wpAny_bind (wpAny_mono one (fun r s' z => ?_) fun _ _ e => e)
    obtain ⟨v, rfl, hq⟩ := z
    exact wpAny_pure hq
  · refine wpAny_bind (wpAny_pure ?_)
    simp only [Bool.false_eq_true, if_false]
    refine wpAny_bind (wpAny_mono one (fun r s' z => ?_) fun _ _ e => e)
    obtain ⟨v, rfl, hq⟩ := z
    exact wpAny_pure hq
end
/-- x != y -/
def rOwnNe (K : PySem.W.Frag) (C : Addr) (sp : Sp) (E : XK) : R2 := fun x y H Q => ∃ a dx fs t, x = .ref a ∧ H a = some (.ins C dx fs) ∧ TyX K H y t ∧ PySem.W.notFirst K C t = true ∧ sp [x, y] H (fun z H' => ∃ r, z = .bl r ∧ Q (.bl (!r)) H') E
theorem op_ownNe {X : Cx} (K : PySem.W.Frag) {CX : CXT} {n : Nat} {C g : Addr} {fd : FuncData} {ps : List Str} {sp : Sp} {E : XK} (F : FnOk X.prog X.w X.K X.mg X.base CX n g fd ps sp) (hb : Binds X.K fd ps []) (hne : PySem.W.findIn X.K (.ref C) "__ne__" = some (some (.builtin "object.__ne__"))) (hm : PySem.W.mroIn X.K C (.type "object") = some true)
    (hs : PySem.W.findIn X.K (.ref C) "__eq__" = some (some (.ref g))) (hf : PySem.W.isFn X.K (.ref g) = true) (hr : Room (n + 1) X.A) (hx : Passes CX X E) (hK : X.K = K := by rfl) : OpR X (compareOp .NotEq) (rOwnNe K C sp E) := by
  subst hK
  intro pins s σ H x y v u Q I rx ry h
  obtain ⟨a, dx, fs, t, rfl, ha, ty, hn, q⟩ := h
  cases (show v = Value.ref a from rx)
  obtain ⟨mA, J, _⟩ := ins_get I.hok ha
  obtain ⟨od, J, _⟩ := J.look
  obtain ⟨P, Z, p, _⟩ := kit_of I ry ty
  show wpAny (model X.prog X.w) X.A (richCompare .NotEq (.ref a) u) (EP X pins σ Q) X.xe s
  refine ne_K (by have := hr.un; omega) I.kIn J (Z.ty _ _ I.kIn p) hn hne hm hs hf ?_
  have hl := F.len _ _ _ _ q
  refine wpAny_call (codeAny_mono (F.run X.A.in1 X.stack s H ⟨[.ref a, u], []⟩ [.ref a, u] [.ref a, y] _ E hr.in1 I.env0.in1 (by
    have := hb s [.ref a, u] I.kIn (by simpa using hl)
    simpa using this) (.cons rfl (.cons ry .nil)) q) fun r s' hq => ?_)
  cases r with
  | error e => exact hx pins σ H s e s' I hq
  | ok fl =>
    cases fl with
    | ret u =>
      obtain ⟨z, H', I', rz, r, ez, q'⟩ := I.after hq
      subst ez
      cases (show u = Value.bool r from rz)
      exact ⟨r, rfl, .bl (!r), H', I', rfl, q'⟩
    | next => exact False.elim hq
    | brk => exact False.elim hq
    | cont => exact False.elim hq
/-! ### calls by keywords: f(e, .., k = v), o.m(e, .., k = v) -/
def tMethK (C : Addr) (m : Str) (n mm : Nat) (sp : Sp) (gV : List V → List V → List V) (E : XK) (ta : TE) (t tk : TA) : TE := fun σ H Q => ta σ H fun x H1 => ∃ a dx fs, x = .ref a ∧ H1 a = some (.ins C dx fs) ∧ fs.lookup m = none ∧
  t σ H1 fun vs H2 => tk σ H2 fun zs H3 => vs.length = n ∧ zs.length = mm ∧ sp (gV (x :: vs) zs) H3 Q E
def tCallKN (n mm : Nat) (sp : Sp) (gV : List V → List V → List V) (E : XK) (t tk : TA) : TE := fun σ H Q => t σ H fun vs H2 => tk σ H2 fun zs H3 => vs.length = n ∧ zs.length = mm ∧ sp (gV vs zs) H3 Q E
theorem kbn_of {K : PySem.W.Frag} {x qual : Str} {st : Stmt} {f : Addr} {fd : FuncData} {ps : List Str} (F : Fun K x qual st f fd) (n : Nat) (ks : List Str) (g : {α : Type} → List α → List α → List α)
    (hrel : ∀ {vs zs : List V} {us ws : List Value}, Vals vs us → Vals zs ws → Vals (g vs zs) (g us ws))
    (h : ∀ (kV doc pm : Value) (an : Option Addr) (cdv ct : Value) (us ws : List Value), us.length = n → ws.length = ks.length →
      bindArgs (PySem.W.fnOf x qual (defArgs st) (defBody st) (defScope st) .none kV doc pm an cdv ct) ⟨us, ks.zip ws⟩ = pure (ps.zip (g us ws))) : KBn K fd ps n ks (fun us ws => g us ws) (fun vs zs => g vs zs) := by
  obtain ⟨oc, od, kV, doc, pm, an, cdv, ct, osl, rfl, lk, hcd⟩ := F.ex
  exact ⟨fun s us ws X l1 l2 => .of_eq (h kV doc pm an cdv ct us ws l1 l2), fun r1 r2 => hrel r1 r2⟩
section
variable {X : Cx} {CX : CXT} {k n : Nat} {f C : Addr} {fd : FuncData} {ps ks : List Str} {sp : Sp} {E : XK} {x m : Str} {p pos apos : Pos} {o e : Expr} {es : List Expr} {kws : List Keyword} {ta : TE} {t tk : TA} {g : List Value → List Value → List Value} {gV : List V → List V → List V}
theorem run_fnN {pins : List (Addr × Obj)} {σ : L2.St} {H : Hp} {s : Shared} {Q : VK} {us ws : List Value} {vs zs : List V} (F : FnOk X.prog X.w X.K X.mg X.base CX k f fd ps sp) (hr : Room k X.A) (hb : KBn X.K fd ps n ks g gV) (hx : Passes CX X E)
    (I : Inv X pins σ H s) (r : Vals vs us) (rz : Vals zs ws) (l1 : vs.length = n) (l2 : zs.length = ks.length) (h : sp (gV vs zs) H Q E) : wpAny (model X.prog X.w) X.A (call (.ref f) us (ks.zip ws)) (EP X pins σ Q) X.xe s := by
  have r2 := hb.rel r rz
  refine wpAny_call (codeAny_mono (F.run X.A X.stack s H ⟨us, ks.zip ws⟩ (g us ws) (gV vs zs) Q E hr I.env0 (hb.to s us ws I.kIn (r.length.symm.trans l1) (rz.length.symm.trans l2)) r2 h) fun r s' hq => ?_)
  cases r with
  | error e => exact hx pins σ H s e s' I hq
  | ok fl =>
    cases fl with
    | ret u => exact I.after hq
    | next => exact False.elim hq
    | brk => exact False.elim hq
    | cont => exact False.elim hq
/-- f(k = v, ..) -/
theorem pe_callK0 (F : FnOk X.prog X.w X.K X.mg X.base CX k f fd ps sp) (hr : Room k X.A) (hg : Gl X x) (hm : X.mg x = some (.ref f)) (hk : PySem.W.keepIn X.K (.ref f) = true) (hb : KBn X.K fd ps 0 ks g gV) (hx : Passes CX X E) (hkw : PK X kws tk)
    (hall : (backToKw pos (keywordEach kws X.env)).all (·.1.isSome) = true := by rfl) (hks : (backToKw pos (keywordEach kws X.env)).filterMap (·.1) = ks := by rfl) (hdb : (x == ("__debug__" : Str)) = false := by decide)
    (hpl : ((backTo pos (starEach [] X.env)).any (·.1) || (backToKw pos (keywordEach kws X.env)).any (·.1.isNone)) = false := by rfl) :
    PE X (.Call (.Name x p) [] kws pos) (tCallKN 0 ks.length sp gV E tNil tk) := by
  refine ⟨fun pins s σ H Q I h => ?_⟩
  refine wpAny_Call_Name_kw (ld_glob I hg hm ?_ hdb)
  refine PySem.W.callWith_KW0 (h₀ := X.base) I.ok.mod.kin hk hall ?_ hpl
  refine thn (hkw.run pos pins s σ H _ I h) fun ws s2 ⟨zs, H2, I2, rz, l1, l2, q2⟩ => ⟨I2.kIn, ?_⟩
  rw [hks]
  exact run_fnN (us := []) (vs := []) F hr hb hx I2 .nil rz rfl l2 q2
/-- o.m(k = v, ..) -/
theorem pe_methK0 {pl : Sem Bool} (he : PE X o ta) (c : Cls X.K C) (hm : Meth X.K C m f) (F : FnOk X.prog X.w X.K X.mg X.base CX k f fd ps sp) (hr : Room k X.A) (hb : KBn X.K fd ps 1 ks g gV) (hx : Passes CX X E) (hkw : PK X kws tk)
    (hall : (backToKw pos (keywordEach kws X.env)).all (·.1.isSome) = true := by rfl) (hks : (backToKw pos (keywordEach kws X.env)).filterMap (·.1) = ks := by rfl)
    (hpl : ((backTo pos (starEach [] X.env)).any (·.1) || (backToKw pos (keywordEach kws X.env)).any (·.1.isNone)) = false := by rfl)
    (ht : eval (.Call (.Attribute o m apos) [] kws pos) X.env = (do
      let ov ← eval o X.env
      standAt apos.atName
      let (f, first) ← holding [ov] (getMethod ov m pl)
      callWith pos f first (backTo pos (starEach [] X.env)) (backToKw pos (keywordEach kws X.env))) := by rfl) :
    PE X (.Call (.Attribute o m apos) [] kws pos) (tMethK C m 0 ks.length sp gV E ta tNil tk) := by
  refine ⟨fun pins s σ H Q I h => ?_⟩
  refine PySem.W.methodCall_KW (pl := pl) (thn (he.run pins s σ H _ I h) fun u s1 ⟨x, H1, I1, rx, a, dx, fs, ex, ea, l, q⟩ => ?_) ht
  subst ex
  obtain rfl : u = Value.ref a := rx
  refine getmeth_ok I1 ea c hm l ?_
  refine PySem.W.callWith_KW0 (first := [.ref a]) (h₀ := X.base) I.ok.mod.kin hm.kp hall ?_ hpl
  refine thn (hkw.run pos pins s1 σ H1 _ I1 q) fun ws s2 ⟨zs, H2, I2, rz, l1, l2, q2⟩ => ⟨I2.kIn, ?_⟩
  rw [hks]
  exact run_fnN (us := [.ref a]) (vs := [.ref a]) F hr hb hx I2 (.cons rfl .nil) rz rfl l2 q2
/-- f(e, ..), f an instance of the class at C -/
def tCallI (C : Addr) (sp : Sp) (dvs : List V) (E : XK) (tf : TE) (t : TA) : TE := fun σ H Q => tf σ H fun y H1 => ∃ a, y = V.ref a ∧ t σ H1 fun vs H2 => ∃ dx fs, H2 a = some (.ins C dx fs) ∧ sp (V.ref a :: (vs ++ dvs)) H2 Q E
theorem pe_callI {fe : Expr} {tf : TE} {dvs : List V} {ds : List Value} (hf : PE X fe tf) (c : StX.CallO X.K C f) (F : FnOk X.prog X.w X.K X.mg X.base CX k f fd ps sp) (hr : Room k X.A) (hb : Binds X.K fd ps ds) (hd : Vals dvs ds) (hx : Passes CX X E) (ha : PA X (e :: es) t)
    (ht : eval (.Call fe (e :: es) [] pos) X.env = (do callWith pos (← eval fe X.env) [] (backTo pos (starEach (e :: es) X.env)) (backToKw pos (keywordEach [] X.env))) := by rfl)
    (he : starEach (e :: es) X.env = (false, eval e X.env) :: starEach es X.env := by rfl) (hpl : (backTo pos (starEach es X.env)).any (·.1) = false := by rfl) : PE X (.Call fe (e :: es) [] pos) (tCallI C sp dvs E tf t) := by
  refine ⟨fun pins s σ H Q I h => ?_⟩
  refine Call_ (thn (hf.run pins s σ H _ I h) fun u s1 ⟨y, H1, I1, ry, a, ey, q⟩ => ?_) ht
  subst ey
  obtain rfl : u = Value.ref a := ry
  refine StX.callO_with (thn (ha.run pos pins s1 σ H1 _ I1 q) fun us s2 ⟨vs, H2, I2, r, dx, fs, hi, q2⟩ => ?_) he hpl
  obtain ⟨ox, od, J, hdt⟩ := StX.insC_at I2 (.inr ⟨dx, fs, hi⟩)
  exact ⟨⟨C, ox, od, J, hdt⟩, StX.run_callO c (F.raw hb hd) hr hx I2 (.inr ⟨dx, fs, hi⟩) r q2⟩
end
/-! ### the rules whose readings name the written part, with it told (for a comprehension's block) -/
section
variable {X : Cx} (K : PySem.W.Frag)
theorem ixT (h : X.K = K := by rfl) : IxR X (rIxT K) := h ▸ ix_tup
theorem ixL (h : X.K = K := by rfl) : IxR X (rIxL K) := h ▸ ix_list
theorem cIsi (h : X.K = K := by rfl) : CallR X (.builtin "isinstance") (rIsi K) := h ▸ call_isi
theorem opEqD (hu : X.A.units + 64 < cLine) (h : X.K = K := by rfl) : OpR X (compareOp .Eq) (rEqD K) := h ▸ op_eqD hu
theorem opNeD (hu : X.A.units + 64 < cLine) (h : X.K = K := by rfl) : OpR X (compareOp .NotEq) (rNeD K) := h ▸ op_neD hu
theorem peFld {e : Expr} {f : Str} {pos : Pos} {ta : TE} (he : PE X e ta) (hb : attributeBase e f X.env (eval e X.env) = eval e X.env := by rfl) (h : X.K = K := by rfl) : PE X (.Attribute e f pos) (tFld K ta f) := h ▸ pe_fld he hb
theorem opOwnEq {CX : CXT} {n : Nat} {C g : Addr} {fd : FuncData} {ps : List Str} {sp : Sp} {E : XK} (F : FnOk X.prog X.w X.K X.mg X.base CX n g fd ps sp) (hb : Binds X.K fd ps []) (hs : PySem.W.findIn X.K (.ref C) "__eq__" = some (some (.ref g)))
    (hf : PySem.W.isFn X.K (.ref g) = true) (hr : Room n X.A) (hx : Passes CX X E) (h : X.K = K := by rfl) : OpR X (compareOp .Eq) (rOwnEq K C sp E) := h ▸ op_ownEq F hb hs hf hr hx
theorem piList {tg l : Expr} {tl : TE} (hl : PE X l tl) (h : X.K = K := by rfl) : PI X tg l (iList K tl) := h ▸ pi_list hl
theorem piTup {tg l : Expr} {tl : TE} (hl : PE X l tl) (h : X.K = K := by rfl) : PI X tg l (iTup K tl) := h ▸ pi_tup hl
theorem pgTup (n : Nat) {es : List Expr} {k : Nat} {t : TGs} {pos : Pos} (hc : X.calm = true) (hh : PGs X es t)
    (hn : (assignEach es X.env).length = n := by rfl) (hst : (assignEach es X.env).findIdx? (·.1) = none := by rfl) (h : X.K = K := by rfl) : PG X (.Tuple es k pos) (gTup K n t) := h ▸ pg_tup hc hh hn hst
end
theorem stT {σ σ' : L2.St} {ta tb : TS} {D : Ends} {H : Hp} (e : σ = σ') (h : tSeq ta tb D σ' H) : tSeq ta tb D σ H := e ▸ h
end WL
namespace WM
/-! ### fractions: core Rat -/
theorem gcd_pos {t b : Int} (hb : b ≠ 0) : 0 < b.gcd t := Int.gcd_pos_of_ne_zero_left _ hb
theorem fdiv_pos' {a : Int} {g : Nat} (hg : 0 < g) : a.fdiv (g : Int) = a / (g : Int) := Int.fdiv_eq_ediv_of_nonneg _ (by omega)
theorem fdiv_dvd {a k g : Int} (hg : g ≠ 0) (h : a = g * k) : a.fdiv g = k := by
  subst h
  rw [Int.mul_comm]
  exact Int.mul_fdiv_cancel _ hg
theorem ediv_dvd {a k g : Int} (hg : g ≠ 0) (h : a = g * k) : a / g = k := by
  subst h
  exact Int.mul_ediv_cancel_left _ hg
/-- what Number keeps above the stroke -/
theorem make_num {t b : Int} {g : Nat} (hb : b ≠ 0) (e : g = Nat.gcd t.natAbs b.natAbs) : t.fdiv (if b < 0 then -(g : Int) else (g : Int)) = (Rat.divInt t b).num := by
  have eg : b.gcd t = g := by rw [e, Int.gcd, Nat.gcd_comm]
  have hg : 0 < g := eg ▸ gcd_pos hb
  rw [Rat.num_divInt, eg]
  have hd : (g : Int) ∣ t := by rw [← eg]; exact Int.gcd_dvd_right ..
  obtain ⟨k, hk⟩ := hd
  have hg' : (g : Int) ≠ 0 := by omega
  by_cases hn : b < 0
  · rw [if_pos hn, Int.sign_eq_neg_one_of_neg hn, fdiv_dvd (k := -k) (by omega) (by rw [hk, Int.neg_mul_neg]), ediv_dvd (k := -k) hg' (by rw [hk, Int.neg_one_mul, Int.mul_neg])]
  · rw [if_neg hn, Int.sign_eq_one_of_pos (by omega), fdiv_dvd hg' hk, ediv_dvd (k := k) hg' (by rw [hk, Int.one_mul])]
theorem make_den {t b : Int} {g : Nat} (hb : b ≠ 0) (e : g = Nat.gcd t.natAbs b.natAbs) : b.fdiv (if b < 0 then -(g : Int) else (g : Int)) = ((Rat.divInt t b).den : Int) := by
  have eg : b.gcd t = g := by rw [e, Int.gcd, Nat.gcd_comm]
  have hg : 0 < g := eg ▸ gcd_pos hb
  rw [Rat.den_divInt, if_neg hb, eg]
  have hd : (g : Int) ∣ b := by rw [← eg]; exact Int.gcd_dvd_left ..
  obtain ⟨k, hk⟩ := hd
  have hg' : (g : Int) ≠ 0 := by omega
  have h2 : b.natAbs / g = k.natAbs := by
    rw [hk, Int.natAbs_mul, Int.natAbs_natCast]
    exact Nat.mul_div_cancel_left _ hg
  have hp : 0 < (g : Int) := by omega
  rw [h2]
  by_cases hn : b < 0
  · rw [if_pos hn, fdiv_dvd (k := -k) (by omega) (by rw [hk, Int.neg_mul_neg])]
    have : k < 0 := by
      rcases Int.lt_or_le k 0 with h | h
      · exact h
      · have := Int.mul_nonneg (Int.le_of_lt hp) h
        omega
    omega
  · rw [if_neg hn, fdiv_dvd hg' hk]
    have : 0 ≤ k := by
      rcases Int.lt_or_le k 0 with h | h
      · have := Int.mul_neg_of_pos_of_neg hp h
        omega
      · exact h
    omega
/-- what a law's own reduction gives: sign * t // g, |b| // g -/
theorem least_num {t b : Int} {g : Nat} (hb : b ≠ 0) (e : g = Nat.gcd t.natAbs b.natAbs) : ((if b < 0 then -1 else 1) * t).fdiv (g : Int) = (Rat.divInt t b).num := by
  have eg : b.gcd t = g := by rw [e, Int.gcd, Nat.gcd_comm]
  have hg : 0 < g := eg ▸ gcd_pos hb
  rw [Rat.num_divInt, eg, fdiv_pos' hg]
  by_cases hn : b < 0
  · rw [if_pos hn, Int.sign_eq_neg_one_of_neg hn]
  · rw [if_neg hn, Int.sign_eq_one_of_pos (by omega)]
theorem least_den {t b : Int} {g : Nat} (hb : b ≠ 0) (e : g = Nat.gcd t.natAbs b.natAbs) : (if b < 0 then -b else b).fdiv (g : Int) = ((Rat.divInt t b).den : Int) := by
  have eg : b.gcd t = g := by rw [e, Int.gcd, Nat.gcd_comm]
  have hg : 0 < g := eg ▸ gcd_pos hb
  rw [Rat.den_divInt, if_neg hb, eg, fdiv_pos' hg]
  have : (if b < 0 then -b else b) = (b.natAbs : Int) := by split <;> omega
  rw [this]
  rfl
theorem gcd_ne {t b : Int} {g : Nat} (hb : b ≠ 0) (e : g = Nat.gcd t.natAbs b.natAbs) : 0 < g := by
  have eg : b.gcd t = g := by rw [e, Int.gcd, Nat.gcd_comm]
  exact eg ▸ gcd_pos hb
theorem gcd_le {t b : Int} {g : Nat} (hb : b ≠ 0) (e : g = Nat.gcd t.natAbs b.natAbs) : g ≤ b.natAbs := by
  rw [e]
  exact Nat.gcd_le_right _ (by omega)
/-! ### sizes -/
def Bd (n : Nat) (q : Rat) : Prop := q.num.natAbs < 2 ^ n ∧ q.den < 2 ^ n
theorem two_le {m n : Nat} (h : m ≤ n) : 2 ^ m ≤ 2 ^ n := Nat.pow_le_pow_right (by decide) h
theorem Bd.mono {m n : Nat} {q : Rat} (h : Bd m q) (l : m ≤ n) : Bd n q := ⟨Nat.lt_of_lt_of_le h.1 (two_le l), Nat.lt_of_lt_of_le h.2 (two_le l)⟩
theorem den_ne (q : Rat) : (q.den : Int) ≠ 0 := by have := q.den_pos; omega
theorem den_pos' (q : Rat) : 0 < (q.den : Int) := by have := q.den_pos; omega
theorem Bd.mk' {n : Nat} {t b : Int} (hb : b ≠ 0) (h1 : t.natAbs < 2 ^ n) (h2 : b.natAbs < 2 ^ n) : Bd n (Rat.divInt t b) := by
  refine ⟨?_, ?_⟩
  · rw [Rat.num_divInt]
    refine Nat.lt_of_le_of_lt ?_ h1
    have hg : 0 < b.gcd t := gcd_pos hb
    have hd : ((b.gcd t : Nat) : Int) ∣ b.sign * t := Int.dvd_mul_of_dvd_right (Int.gcd_dvd_right ..)
    obtain ⟨k, hk⟩ := hd
    rw [ediv_dvd (k := k) (by omega) hk]
    have h3 : (b.sign * t).natAbs = t.natAbs := by
      rw [Int.natAbs_mul, Int.natAbs_sign_of_ne_zero hb, Nat.one_mul]
    have h4 : (b.sign * t).natAbs = b.gcd t * k.natAbs := by rw [hk, Int.natAbs_mul, Int.natAbs_natCast]
    rw [← h3, h4]
    exact Nat.le_mul_of_pos_left _ hg
  · rw [Rat.den_divInt, if_neg hb]
    exact Nat.lt_of_le_of_lt (Nat.div_le_self _ _) h2
theorem add_eq (p q : Rat) : Rat.divInt (p.num * q.den + q.num * p.den) (p.den * q.den) = p + q := by
  conv => rhs; rw [← Rat.num_divInt_den p, ← Rat.num_divInt_den q]
  rw [Rat.divInt_add_divInt _ _ (den_ne p) (den_ne q)]
theorem sub_eq (p q : Rat) : Rat.divInt (p.num * q.den - q.num * p.den) (p.den * q.den) = p - q := by
  conv => rhs; rw [← Rat.num_divInt_den p, ← Rat.num_divInt_den q]
  rw [Rat.divInt_sub_divInt _ _ (den_ne p) (den_ne q)]
theorem mul_eq (p q : Rat) : Rat.divInt (p.num * q.num) (p.den * q.den) = p * q := by
  conv => rhs; rw [← Rat.num_divInt_den p, ← Rat.num_divInt_den q]
  rw [Rat.divInt_mul_divInt]
theorem div_eq (p q : Rat) : Rat.divInt (p.num * q.den) (p.den * q.num) = p / q := by
  rw [Rat.div_def, Rat.inv_def]
  conv => rhs; rw [← Rat.num_divInt_den p]
  rw [Rat.divInt_mul_divInt]
theorem neg_eq (p : Rat) : Rat.divInt (-p.num) p.den = -p := by
  conv => rhs; rw [← Rat.num_divInt_den p]
  rw [Rat.neg_divInt]
theorem mul_lt {a b m n : Nat} (ha : a < 2 ^ m) (hb : b < 2 ^ n) : a * b < 2 ^ (m + n) := by
  rw [Nat.pow_add]
  exact Nat.mul_lt_mul'' ha hb
theorem imul_lt {a b : Int} {m n : Nat} (ha : a.natAbs < 2 ^ m) (hb : b.natAbs < 2 ^ n) : (a * b).natAbs < 2 ^ (m + n) := by
  rw [Int.natAbs_mul]
  exact mul_lt ha hb
theorem iadd_lt {a b : Int} {n : Nat} (ha : a.natAbs < 2 ^ n) (hb : b.natAbs < 2 ^ n) : (a + b).natAbs < 2 ^ (n + 1) := by
  have : (a + b).natAbs ≤ a.natAbs + b.natAbs := Int.natAbs_add_le a b
  rw [Nat.pow_succ]
  omega
theorem isub_lt {a b : Int} {n : Nat} (ha : a.natAbs < 2 ^ n) (hb : b.natAbs < 2 ^ n) : (a - b).natAbs < 2 ^ (n + 1) := by
  have : (a - b).natAbs ≤ a.natAbs + b.natAbs := by omega
  rw [Nat.pow_succ]
  omega
theorem up_lt {a m n : Nat} (h : a < 2 ^ m) (l : m ≤ n) : a < 2 ^ n := Nat.lt_of_lt_of_le h (two_le l)
theorem Bd.den' {n : Nat} {q : Rat} (h : Bd n q) : ((q.den : Int)).natAbs < 2 ^ n := by rw [Int.natAbs_natCast]; exact h.2
theorem Bd.add {m n : Nat} {p q : Rat} (h : Bd m p) (k : Bd n q) : Bd (m + n + 1) (p + q) := by
  rw [← add_eq]
  refine Bd.mk' (Int.mul_ne_zero (den_ne p) (den_ne q)) (iadd_lt (imul_lt h.1 k.den') (up_lt (imul_lt k.1 h.den') (by omega))) (up_lt (imul_lt h.den' k.den') (by omega))
theorem Bd.sub {m n : Nat} {p q : Rat} (h : Bd m p) (k : Bd n q) : Bd (m + n + 1) (p - q) := by
  rw [← sub_eq]
  refine Bd.mk' (Int.mul_ne_zero (den_ne p) (den_ne q)) (isub_lt (imul_lt h.1 k.den') (up_lt (imul_lt k.1 h.den') (by omega))) (up_lt (imul_lt h.den' k.den') (by omega))
theorem Bd.mul {m n : Nat} {p q : Rat} (h : Bd m p) (k : Bd n q) : Bd (m + n) (p * q) := by
  rw [← mul_eq]
  exact Bd.mk' (Int.mul_ne_zero (den_ne p) (den_ne q)) (imul_lt h.1 k.1) (imul_lt h.den' k.den')
theorem num_ne {q : Rat} (h : q ≠ 0) : q.num ≠ 0 := fun e => h (Rat.num_eq_zero.mp e)
theorem Bd.div {m n : Nat} {p q : Rat} (h : Bd m p) (k : Bd n q) (hq : q ≠ 0) : Bd (m + n) (p / q) := by
  rw [← div_eq]
  exact Bd.mk' (Int.mul_ne_zero (den_ne p) (num_ne hq)) (imul_lt h.1 k.den') (imul_lt h.den' k.1)
theorem Bd.neg {m : Nat} {p : Rat} (h : Bd m p) : Bd m (-p) := by
  refine ⟨?_, ?_⟩
  · rw [show (-p).num = -p.num from rfl, Int.natAbs_neg]; exact h.1
  · rw [show (-p).den = p.den from rfl]; exact h.2
theorem log2_lt {a n : Nat} (h0 : 0 < n) (h : a < 2 ^ n) : a.log2 < n := by
  by_cases ha : a = 0
  · subst ha; rw [Nat.log2_zero]; exact h0
  · exact (Nat.log2_lt ha).mpr h
/-- equal fractions: the same above and below -/
theorem eq_iff (p q : Rat) : p = q ↔ p.num = q.num ∧ p.den = q.den := ⟨fun e => by rw [e]; exact ⟨rfl, rfl⟩, fun ⟨a, b⟩ => Rat.ext a b⟩
end WM
namespace WO
open PySem PySem.Spec PyProof.Rows L2
open Sem (wp)
/-! ### a type's call, for one program -/
section
variable {prog : Program} {w : World} {A : Around} {E : Value → Shared → Prop} {s : Shared}
theorem typeCall_in {T newId initId : String} {Bn Bi : Builtin} {args : List Value} {S : PySem.Spec} {Q Q₁ : Value → Shared → Prop} (ft : TypeCalled T newId initId)
    (hct : checkTypeCall T ⟨args, []⟩ = pure ()) (hcn : checkBuiltinCall newId ⟨.type T :: args, []⟩ = pure ())
    (entryN : entryFor table newId = some Bn) (entryI : entryFor table initId = some Bi) (g : MeetsIn prog w (Bn ⟨.type T :: args, []⟩) S)
    (h : S A.in1 (wants Q₁ E) s)
    (hnext : ∀ obj s₁, Q₁ obj s₁ → s₁.TypeIs obj T ∧ argsOk initId ⟨obj :: args, []⟩ ∧ ∃ Si, Meets (Bi ⟨obj :: args, []⟩) Si ∧ Si A.in1 (wants (fun r s₂ => r = .none ∧ Q obj s₂) E) s₁) :
    wpAny (model prog w) A (call (.type T) args) Q E s := by
  obtain ⟨c, tl, hmro⟩ := ft.mro
  have hmade := ft.made
  have hsub := ft.sub
  refine wpAny_call (codeAny_of_tree ?_)
  show wpAny _ _ (callAny (.type T) _) _ _ _
  refine wpAny_pure ⟨Code.quiet_builtin _ (by decide +kernel), codeAny_builtin F.entry_type_call ?_⟩
  rw [Around.under_plain (weight_type_call_type T args []) (units_type_call_type T args [])]
  have h1 := ft.notType
  have h2 := ft.canCreate
  repeat (any_goals (first | assumption | wp_step))
  refine codeAny_mono (codeAny_call_builtin ft.plain entryN (wpAny_of_eq hcn (g A.in1 _ s h))) fun r s₁ hr => ?_
  cases r with
  | error e => exact hr
  | ok fl =>
    cases fl with
    | ret obj =>
      obtain ⟨hT, hok, Si, gi, hsi⟩ := hnext _ _ hr
      have hli := ft.init.lookup
      have hbi := ft.init.bind obj
      repeat (any_goals (first | assumption | wp_step))
      refine codeAny_mono (codeAny_call_builtin ft.init.plain entryI (ft.init.check _ _ _ _ _ _ _ _ hT hok (gi prog w A.in1 _ s₁ hsi))) fun r₂ s₂ hr₂ => ?_
      cases r₂ with
      | error e => exact hr₂
      | ok fl₂ =>
        cases fl₂ with
        | ret r =>
          obtain ⟨rfl, hq⟩ := hr₂
          repeat (any_goals (first | assumption | wp_step))
        | _ => exact hr₂.elim
    | _ => exact hr.elim
theorem bool_in {x : Value} {Q : Value → Shared → Prop} (h : wpAny (model prog w) A.in1.in1 (truthy x) (fun b s' => Q (.bool b) s') E s) : wpAny (model prog w) A (call (.type "bool") [x]) Q E s := by
  refine typeCall_in (S := fun A R s => wpAny (model prog w) A.in1 (truthy x) (fun b s' => R (.ok (.ret (.bool b))) s') (fun e s' => R (.error e) s') s) F.called_bool (F.typeCall_bool_1 x) (F.newCall_bool_1 x) F.entry_bool_new F.entry_object_init
    (MeetsIn.of_wp fun A R s hs => ?_) (Q₁ := fun obj s₁ => s₁.TypeIs obj "bool" ∧ Q obj s₁) (wpAny_mono h (fun b s' q => ⟨rfl, q⟩) fun _ _ z => z) fun obj _ hq =>
    ⟨hq.1, F.args_object_init_2 obj x, _, object_init_meets F.called_bool.init.lookup F.called_bool.made F.newNe_bool, hq.1, rfl, hq.2⟩
  have f1 := F.conv_sub_bool
  obtain ⟨hp, g, d, tk, os⟩ := s
  repeat (any_goals (first | assumption | (with_reducible refine wpAny_bind (wpAny_mono hs (fun b s' q => ?_) fun _ _ z => z)) | wp_step))
  all_goals first | exact ⟨_, rfl, q⟩ | skip
end

def sB (b : Bool) : Str := if b = true then "True" else "False"
/-! ### abs(x), bool(x) by an own class's methods; repr of a bool; len of a set of tuples -/
section
variable {X : Cx} {CX : CXT} {n : Nat} {C g : Addr} {fd : FuncData} {ps : List Str} {sp : Sp} {E : XK}
def rOwnCall1 (C : Addr) (sp : Sp) (E : XK) : List V → Hp → VK → Prop := fun xs H Q => ∃ a dx fs, xs = [.ref a] ∧ H a = some (.ins C dx fs) ∧ sp [.ref a] H Q E
theorem call_ownAbs (F : FnOk X.prog X.w X.K X.mg X.base CX n g fd ps sp) (hb : Binds X.K fd ps []) (hs : PySem.W.findIn X.K (.ref C) "__abs__" = some (some (.ref g)))
    (hf : PySem.W.isFn X.K (.ref g) = true) (hr : Room (n + 1) X.A) (hx : Passes CX X E) : CallR X (.builtin "abs") (rOwnCall1 C sp E) := by
  intro pins s σ H xs us Q I r h
  obtain ⟨a, dx, fs, rfl, ha, q⟩ := h
  obtain rfl := Vals.ref1 r
  obtain ⟨mA, J, _⟩ := ins_get I.hok ha
  obtain ⟨od, J, _⟩ := J.look
  obtain ⟨m, hF⟩ := I.fr
  refine Calls.call_function_entry kind_abs plain_abs entry_abs (args_abs _) ?_
  unfold Builtin.«abs»
  refine wpAny_bind (m := oneArg "abs" _) (wpAny_pure ?_)
  have hl := F.len _ _ _ _ q
  refine wpAny_bind (m := callSpecial? (.ref a) (Str.ofString "__abs__")) (PySem.W.special_fn I.kIn J hs (beq_iff_eq.mp hf) ?_)
  refine wpAny_call (codeAny_mono (F.run X.A.in1 X.stack s H ⟨[.ref a], []⟩ [.ref a] [.ref a] _ E hr.in1 I.env0.in1 (by
    have := hb s [.ref a] I.kIn (by simpa using hl)
    simpa using this) (.cons rfl .nil) q) fun r s' hq => ?_)
  cases r with
  | error e => exact hx pins σ H s e s' I hq
  | ok fl =>
    cases fl with
    | ret u => exact wpAny_pure ⟨_, rfl, I.after hq⟩
    | next => exact False.elim hq
    | brk => exact False.elim hq
    | cont => exact False.elim hq
/-- bool(x) -/
def rOwnBool (C : Addr) (sp : Sp) (E : XK) : List V → Hp → VK → Prop := fun xs H Q => ∃ a dx fs, xs = [.ref a] ∧ H a = some (.ins C dx fs) ∧ sp [.ref a] H (fun z H' => ∃ r, z = .bl r ∧ Q (.bl r) H') E
theorem call_ownBool (F : FnOk X.prog X.w X.K X.mg X.base CX n g fd ps sp) (hb : Binds X.K fd ps []) (hs : PySem.W.findIn X.K (.ref C) "__bool__" = some (some (.ref g)))
    (hf : PySem.W.isFn X.K (.ref g) = true) (hr : Room (n + 2) X.A) (hx : Passes CX X E) : CallR X (.type "bool") (rOwnBool C sp E) := by
  intro pins s σ H xs us Q I r h
  obtain ⟨a, dx, fs, rfl, ha, q⟩ := h
  obtain rfl := Vals.ref1 r
  obtain ⟨mA, J, _⟩ := ins_get I.hok ha
  obtain ⟨od, J, _⟩ := J.look
  obtain ⟨m, hF⟩ := I.fr
  refine bool_in (PySem.W.truthy_K hF I.ok.mod.kin J hs hf ?_)
  have hl := F.len _ _ _ _ q
  have hr2 : Room n X.A.in1.in1 := Room.in1 (Room.in1 hr)
  refine wpAny_call (codeAny_mono (F.run X.A.in1.in1 X.stack s H ⟨[.ref a], []⟩ [.ref a] [.ref a] _ E hr2 I.env0.in1.in1 (by
    have := hb s [.ref a] I.kIn (by simpa using hl)
    simpa using this) (.cons rfl .nil) q) fun r s' hq => ?_)
  cases r with
  | error e => exact hx pins σ H s e s' I hq
  | ok fl =>
    cases fl with
    | ret u =>
      obtain ⟨z, H', I', rz, r, ez, q'⟩ := I.after hq
      subst ez
      cases (show u = Value.bool r from rz)
      exact ⟨.bl r, H', I', rfl, q'⟩
    | next => exact False.elim hq
    | brk => exact False.elim hq
    | cont => exact False.elim hq
/-- repr(a bool) -/
theorem call_repr_bl : CallR X (.builtin "repr") (fun xs H Q => ∃ b, xs = [.bl b] ∧ Q (.str (sB b)) H) := by
  intro pins s σ H xs us Q I r h
  obtain ⟨b, rfl, q⟩ := h
  obtain ⟨u, rfl, ru⟩ := vals1 r
  cases (show u = Value.bool b from ru)
  exact PySem.P.repr_of_bool ⟨.str _, H, I.tok _, ⟨_, by cases b <;> rfl⟩, q⟩
/-- len(a set of tuples of ints) -/
def rLenT (K : PySem.W.Frag) (P : Program) (w : World) : List V → Hp → VK → Prop := fun vs H Q => ∃ (a : Addr) (L : List (Addr × List Int)), vs = [V.ref a] ∧ H a = some (SetTO P w a L) ∧ (∀ p ∈ L, SqT K H p.1 (p.2.map V.int)) ∧ ((L.map (·.2)).Nodup → Q (.int L.length) H)
theorem cr_lenT : CallR X (.builtin "len") (rLenT X.K X.prog X.w) := by
  intro pins s σ H vs us Q I r h
  obtain ⟨a, L, rfl, ha, hk, q⟩ := h
  have R0 : SetT0 X.prog X.w s.heap a L := (I.hok a _ ha).1
  obtain ⟨es, ep, t, R⟩ := R0.full fun p hp => I.isT (hk p hp)
  rw [Vals.ref1 r]
  obtain ⟨o, ho, hex, hd⟩ := R.ob
  have hn := R.size
  have hf := R.few
  refine call_len_set ho hex hd R.fits (by omega) ⟨.int L.length, H, I.tok _, ⟨_, by rw [hn]⟩, q R.nd⟩
end
end WO
namespace WG
open PySem PySem.Spec PyProof.Rows L2

/-! ### a def's promise where no repr is under way around it -/
abbrev NoG (A : Around) : Prop := A.guards = some []
structure FnG (P : Program) (w : World) (K : PySem.W.Frag) (mg : Str → Option Value) (base : Heap) (CX : CXT) (k : Nat) (f : Addr) (fd : FuncData) (ps : List Str) (sp : Sp) : Prop where
  ln : ∀ xs Hp0 Qv Ex, sp xs Hp0 Qv Ex → xs.length = ps.length
  go : ∀ (A : Around) (out : List Env) (s : Shared) (H : Hp) (args : Args) (us : List Value) (xs : List V) (Qv : VK) (Ex : XK), NoG A → Room k A → Env0 P w K mg base A out s H → BindsTo s fd args (ps.zip us) →
    Vals xs us → sp xs H Qv Ex → codeAny (model P w) A (.call (.ref f) args) (CR CX out P w H s Qv Ex) s
section
variable {P : Program} {w : World} {K : PySem.W.Frag} {mg : Str → Option Value} {base : Heap} {CX : CXT} {k : Nat} {f : Addr} {fd : FuncData} {ps : List Str} {sp : Sp}
theorem FnG.mono {j : Nat} (F : FnG P w K mg base CX j f fd ps sp) (h : j ≤ k) : FnG P w K mg base CX k f fd ps sp :=
  ⟨F.ln, fun A out s H args us xs Qv Ex g r => F.go A out s H args us xs Qv Ex g (r.mono h)⟩
end
/-- a def by its body -/
theorem fnG_of {CX : CXT} {P : Program} {w : World} {K : PySem.W.Frag} {mg : Str → Option Value} {base : Heap} {k : Nat} {f : Addr} {nm qual : Str} {pr : Arguments} {bd : List Stmt} {sc : Scope} {dV kV doc pm cdv ct oc : Value} {an od : Option Addr}
    {osl : Array (Option Value)} {N ps : List Str} {sp : Sp} (lk : K.lookup f = some ⟨oc, od, .func (PySem.W.fnOf nm qual pr bd sc dV kV doc pm an cdv ct), osl⟩) (hc : PySem.W.codeIn K cdv qual = true) (S : FnScope N ps sc)
    (ln : ∀ xs Hp0 Qv Ex, sp xs Hp0 Qv Ex → xs.length = ps.length)
    (hb : ∀ (A : Around) (out : List Env) (s : Shared) (H : Hp) (xs : List V) (Qv : VK) (Ex : XK), NoG A → Room k (A.deeper (envOfC qual sc s.heap.objs.size f cdv)) → sp xs H Qv Ex →
      ∃ t, PSs (cxOf CX P w K mg base N qual sc f cdv A out s H Ex) bd t ∧ t { nx := fun _ H1 => Qv .non H1, rt := Qv } (start N xs) H) :
    FnG P w K mg base CX (k + 1) f (PySem.W.fnOf nm qual pr bd sc dV kV doc pm an cdv ct) ps sp := by
  refine ⟨ln, fun A out s H args us xs Qv Ex g r e0 bnd rel hq => ?_⟩
  have hin : ∀ b o, base.get? b = some o → s.heap.get? b = some o := fun b o e => (e0.bs b o e).1
  have KX : K.In s.heap := e0.mod.kin.keeps hin
  have slots : ∀ y ∈ ps.zip us, sc.names.lookup y.1 = some .local ∨ (sc.names.lookup y.1 = some .cell ∧ ((cellsFrom (s.heap.objs.size + 1) sc.names []).lookup y.1).isSome = true) := by
    rintro ⟨n, v⟩ hy
    exact (S.par n (List.of_mem_zip hy).1).imp id fun q => ⟨q, PySem.W.cellsFrom_some _ _ _ (.inl q)⟩
  refine codeAny_call_function r.depth (KX _ _ lk) rfl S.co S.gen rfl (PySem.W.codeRec_of KX hc) (bnd _ _ _ _ (wpAny_newFunctionEnv_cells S.kind slots fun env he s1 x => ?_))
  subst he
  refine ⟨(e0.mod.nolimit.keeps hin).keeps x.toInCall.keep, codeAny_func ?_⟩
  obtain ⟨t, ht, q⟩ := hb A out s H xs Qv Ex g (r.deeper _) hq
  have I0 := inv_start (CX := CX) (P := P) (w := w) (E := Ex) S r.hd e0 (ln _ _ _ _ hq) rel x
  refine wpAny_mono (ht.run [] s1 (start N xs) H _ I0 q) (fun fl s2 z => ?_) fun _ _ z => z
  cases fl with
  | brk => exact (z.choose_spec.choose_spec.2 : False).elim
  | cont => exact (z.choose_spec.choose_spec.2 : False).elim
  | next =>
    obtain ⟨σ2, H2, J, q2⟩ := z
    exact ⟨V.non, H2, J.os, J.bare, J.base, J.hok, rfl, q2⟩
  | ret u =>
    obtain ⟨y, σ2, H2, J, ry, q2⟩ := z
    exact ⟨y, H2, J.os, J.bare, J.base, J.hok, ry, q2⟩
section
variable {P : Program} {w : World} {K : PySem.W.Frag} {mg : Str → Option Value} {base : Heap}
theorem okG {x qual : Str} {st : Stmt} {f : Addr} {fd : FuncData} {N ps : List Str} {k : Nat} {sp : Sp} (F : Fun K x qual st f fd) (S : FnScope N ps (defScope st)) (ln : ∀ xs Hp0 Qv Ex, sp xs Hp0 Qv Ex → xs.length = ps.length)
    (hb : ∀ (cdv : Value) (A : Around) (out : List Env) (s : Shared) (H : Hp) (xs : List V) (Qv : VK) (Ex : XK), NoG A → Room k (A.deeper (envOfC qual (defScope st) s.heap.objs.size f cdv)) → sp xs H Qv Ex →
      ∃ t, PSs (cxOf CX0 P w K mg base N qual (defScope st) f cdv A out s H Ex).nox (defBody st) t ∧ t { nx := fun _ H1 => Qv .non H1, rt := Qv } (start N xs) H) : FnG P w K mg base CX0 (k + 1) f fd ps sp := by
  obtain ⟨oc, od, kV, doc, pm, an, cdv, ct, osl, rfl, lk, hc⟩ := F.ex
  refine fnG_of lk hc S ln fun A out s H xs Qv Ex g r hq => ?_
  obtain ⟨t, h, q⟩ := hb cdv A out s H xs Qv Ex g r hq
  exact ⟨t, h.nox, q⟩
end
section
variable {X : Cx} {CX : CXT} {k : Nat} {f : Addr} {fd : FuncData} {ps : List Str} {sp : Sp} {E : XK} {x : Str} {p pos : Pos} {e : Expr} {es : List Expr} {t : TA}
/-- f(..) there -/
theorem pe_callG (F : FnG X.prog X.w X.K X.mg X.base CX k f fd ps sp) (g : NoG X.A) (hr : Room k X.A) (hg : Gl X x) (hm : X.mg x = some (.ref f)) (hk : PySem.W.keepIn X.K (.ref f) = true) (hb : Binds X.K fd ps []) (hx : Passes CX X E)
    (ha : PA X (e :: es) t) (hdb : (x == ("__debug__" : Str)) = false := by decide) (he : starEach (e :: es) X.env = (false, eval e X.env) :: starEach es X.env := by rfl) (hpl : (backTo pos (starEach es X.env)).any (·.1) = false := by rfl) :
    PE X (.Call (.Name x p) (e :: es) [] pos) (tCall sp [] E t) := by
  refine ⟨fun pins s σ H Q I h => wpAny_Call_Name_kw (ld_glob I hg hm (PySem.W.callWith_K (h₀ := X.base) I.ok.mod.kin hk (thn (ha.run pos pins s σ H _ I h) fun us s1 z => ?_) he hpl) hdb)⟩
  obtain ⟨vs, H1, I1, rel, q⟩ := z
  rw [List.append_nil] at q
  refine ⟨I1.kIn, wpAny_call (codeAny_mono (F.go X.A X.stack s1 H1 ⟨us, []⟩ us vs Q E g hr I1.env0 ?_ rel q) fun r s2 z => ?_)⟩
  · have := hb s1 us I1.kIn (by rw [List.append_nil, ← rel.length]; exact F.ln _ _ _ _ q)
    rwa [List.append_nil] at this
  · rcases r with e | fl
    · exact hx pins σ H1 s1 e s2 I1 z
    · cases fl with
      | ret u => exact I1.after z
      | next => exact z.elim
      | brk => exact z.elim
      | cont => exact z.elim
end
/-! ### repr of plain data that is no dict -/
structure Shows (d : PyData) (L k : Nat) : Prop where
  sh : d.showable = true
  nd : d.hasDict = false
  dp : d.depth ≤ k
  ln : d.shown.length ≤ L
theorem Shows.mono {d : PyData} {L k M l : Nat} (h : Shows d L k) (h1 : L ≤ M) (h2 : k ≤ l) : Shows d M l := ⟨h.sh, h.nd, Nat.le_trans h.dp h2, Nat.le_trans h.ln h1⟩
theorem Shows.non {k : Nat} : Shows .none 4 k := ⟨rfl, rfl, Nat.zero_le _, by decide⟩
theorem Shows.bool {b : Bool} {k : Nat} : Shows (.bool b) 5 k := ⟨rfl, rfl, Nat.zero_le _, by cases b <;> decide⟩
theorem Shows.int {i : Int} {k : Nat} (h : i.natAbs < 2 ^ 1900) : Shows (.int i) 1921 k := by
  have hl : i.natAbs.log2 < 1920 := by
    by_cases h0 : i.natAbs = 0
    · rw [h0, Nat.log2_zero]
      decide
    · exact Nat.lt_of_lt_of_le ((Nat.log2_lt h0).mpr h) (by decide)
  refine ⟨?_, rfl, Nat.zero_le _, ?_⟩
  · simp only [PyData.showable, decide_eq_true hl]
  · show (Str.ofString (toString i)).length ≤ 1921
    rw [PySem.ofString_length]
    exact int_text_length_le (k := 1920) (by decide) hl
theorem shows_all {L k : Nat} : ∀ {ds : List PyData}, (∀ d ∈ ds, Shows d L k) → PyData.showableAll ds = true ∧ PyData.hasDictAll ds = false ∧ PyData.depthAll ds ≤ k ∧ ((PyData.shownAll ds).map (·.length)).sum ≤ L * ds.length ∧ (PyData.shownAll ds).length = ds.length
  | [], _ => ⟨rfl, rfl, Nat.zero_le _, Nat.zero_le _, rfl⟩
  | d :: ds, h => by
    obtain ⟨h1, h2, h3, h4, h5⟩ := shows_all (fun x m => h x (List.mem_cons_of_mem _ m))
    have h0 := h d (List.mem_cons_self ..)
    refine ⟨?_, ?_, ?_, ?_, ?_⟩
    · simp only [PyData.showableAll, h0.sh, h1, Bool.and_self]
    · simp only [PyData.hasDictAll, h0.nd, h2, Bool.or_self]
    · simp only [PyData.depthAll]
      exact Nat.max_le.mpr ⟨h0.dp, h3⟩
    · have := h0.ln
      simp only [PyData.shownAll, List.map_cons, List.sum_cons, List.length_cons]
      rw [Nat.mul_succ]
      omega
    · simp only [PyData.shownAll, List.length_cons, h5]
theorem Shows.list {ds : List PyData} {L k : Nat} (h : ∀ d ∈ ds, Shows d L k) : Shows (.list ds) ((L + 2) * ds.length + 3) (k + 1) := by
  obtain ⟨h1, h2, h3, h4, h5⟩ := shows_all h
  refine ⟨by simpa only [PyData.showable] using h1, by simpa only [PyData.hasDict] using h2, by simpa only [PyData.depth] using Nat.succ_le_succ h3, ?_⟩
  have := listText_len_le (PyData.shownAll ds)
  rw [h5] at this
  simp only [PyData.shown, Nat.add_mul]
  omega
theorem Shows.tup {ds : List PyData} {L k : Nat} (h : ∀ d ∈ ds, Shows d L k) : Shows (.tuple ds) ((L + 2) * ds.length + 3) (k + 1) := by
  obtain ⟨h1, h2, h3, h4, h5⟩ := shows_all h
  refine ⟨by simpa only [PyData.showable] using h1, by simpa only [PyData.hasDict] using h2, by simpa only [PyData.depth] using Nat.succ_le_succ h3, ?_⟩
  have := tupleText_len_le (PyData.shownAll ds)
  rw [h5] at this
  simp only [PyData.shown, Nat.add_mul]
  omega
def rReprD (K : PySem.W.Frag) : List V → Hp → VK → Prop := fun xs H Q => ∃ (a : Addr) (d : PyData) (L k : Nat), xs = [.ref a] ∧ Dp K H (.ref a) d ∧ Shows d L k ∧ L ≤ 16000000 ∧ k ≤ 60 ∧ Q (.str d.shown) H
theorem call_reprD {X : Cx} (g : NoG X.A) (hu : X.A.units + 64 < cLine) : CallR X (.builtin "repr") (rReprD X.K) := by
  intro pins s σ H xs us Q I r h
  obtain ⟨a, d, L, k, rfl, hd, S, hL, hk, q⟩ := h
  rw [Vals.ref1 r]
  obtain ⟨as, rd⟩ := Dp.reads I d _ _ hd rfl
  have h60 := S.dp
  exact repr_of_reads' rd S.sh (PyData.noDict_hsm S.nd) g (by omega) (fun _ _ e => e) (fun h' u tk hk => ⟨.str _, H, I.kept hk, ⟨_, rfl⟩, q⟩) (by
    have := S.ln
    rw [sizeLine_eq]
    omega)
/-! ### the head -/
theorem law_callG {P : Program} {w : World} {K : PySem.W.Frag} {mg mb : Str → Option Value} {k : Nat} {fa a : Addr} {fd : FuncData} {x : Str} {sp : Sp} {s₁ : Shared} {vs : List Value} {ns : List Int}
    (KX : K.In s₁.heap) (hns : s₁.heap.Ns mainGlobals mg) (hb : s₁.heap.Ns builtinsNs mb) (hbb : ∀ x : Str, x ≠ "__name__" → mb x = bootBuiltins x) (hlim : s₁.heap.NoLimit) (hg : s₁.gens = #[])
    (ha : s₁.heap.get? a = some { cls := .type "list", data := .seq vs.toArray }) (hi : IntsAre vs ns) (hl : ns.length ≤ sizeLine) (hr : Room k callerA)
    (F : ∀ base : Heap, K.In base → base.Ns mainGlobals mg → FnG P w K mg base CX0 k fa fd [x] sp) (hbind : ∀ (s : Shared) (u : Value), BindsTo s fd ⟨[u], []⟩ [(x, u)])
    (hsp : ∀ H : Hp, Only H → SqL K H a (ns.map V.int) → sp [.ref a] H (fun v _ => v = .bl true) fun _ _ _ => False) :
    codeAny (model P w) callerA (.call (.ref fa) ⟨[.ref a], []⟩) (fun r s' => r = .ok (.ret (.bool true)) ∧ OldK s₁.heap s'.heap ∧ s'.os = s₁.os ∧ AllBare s'.gens) s₁ := by
  have rv := vals_ints hi
  have from_ : ∀ H : Hp, Only H → SqL K H a (ns.map V.int) → HOk P w H s₁.heap → (∀ b, H b ≠ none → b = a) → (H a ≠ none → K.lookup a = none) →
      codeAny (model P w) callerA (.call (.ref fa) ⟨[.ref a], []⟩) (fun r s' => r = .ok (.ret (.bool true)) ∧ OldK s₁.heap s'.heap ∧ s'.os = s₁.os ∧ AllBare s'.gens) s₁ := by
    intro H only seq ok alone noK
    -- what else lies in the heap, lies in the base
    have keepB : ∀ {b : Addr} {o : Obj}, s₁.heap.get? b = some o → (b = a → H a = none) → (hidT s₁.heap H).get? b = some o := fun {b o} e n => hidT_get e (by
      cases q : H b with
      | none => rfl
      | some u =>
        have ea : b = a := alone b (by rw [q]; simp)
        rw [ea, n ea] at q
        cases q)
    have noDict : ∀ {b : Addr} {o : Obj} {es : Array DictEntry} {ep : Nat}, s₁.heap.get? b = some o → o.data = .dict es ep → b ≠ a := fun {b o es ep} e d ea => by
      rw [ea, ha] at e
      cases e
      cases (show Data.seq vs.toArray _ = Data.dict es ep from d)
    have nsB : ∀ {b : Addr} {m : Str → Option Value}, s₁.heap.Ns b m → (hidT s₁.heap H).Ns b m := fun ⟨o, es, ep, e, d, r⟩ => ⟨o, es, ep, keepB e fun ea => absurd ea (noDict e d), d, r⟩
    have KB : K.In (hidT s₁.heap H) := fun b o e => keepB (KX b o e) fun ea => by
      cases q : H a with
      | none => rfl
      | some u =>
        have n := noK (by rw [q]; simp)
        rw [ea, n] at e
        cases e
    have md : Mod K mg (hidT s₁.heap H) := by
      obtain ⟨mc, h1, h2⟩ := hlim
      exact ⟨KB, nsB hns, ⟨mb, nsB hb, hbb⟩, mc, nsB h1, h2⟩
    have en : Env0 P w K mg (hidT s₁.heap H) callerA [] s₁ H := ⟨rfl, md, fun b o e => of_hidT e, Nat.le_of_eq (hidT_size _ _), trivial, fun b z => (List.not_mem_nil z).elim, ok, .of_eq hg⟩
    refine codeAny_mono ((F _ KB (nsB hns)).go callerA [] s₁ H ⟨[.ref a], []⟩ [.ref a] [.ref a] _ _ rfl hr en (hbind s₁ (.ref a)) (.cons rfl .nil) (hsp H only seq)) fun r s2 z => ?_
    rcases r with e | fl
    · exact z.elim
    cases fl with
    | next => exact z.elim
    | brk => exact z.elim
    | cont => exact z.elim
    | ret u =>
      obtain ⟨v, H2, os, bare, un, ok2, ru, ev⟩ := z
      rw [show v = V.bl true from ev] at ru
      cases (show u = Value.bool true from ru)
      refine ⟨rfl, OldK.of_keep fun b o e => ?_, os, bare⟩
      rcases only b with z | ⟨ob, xs, z⟩
      · exact un.keep b o e z List.not_mem_nil List.not_mem_nil
      · have e1 := (ok b _ z).1
        rw [e] at e1
        cases e1
        exact (ok2 b _ (un.frzs b _ _ z)).1
  cases hk : K.lookup a with
  | some o =>
    have e := KX a o hk
    rw [ha] at e
    cases e
    exact from_ (fun _ => none) (fun _ => .inl rfl) (.inr ⟨_, vs.toArray, _, hk, rfl, rfl, rfl, by rw [List.size_toArray, hi.length]; exact hl, by simpa using rv⟩) (fun b u z => by cases (show (none : Option HO) = some u from z)) (fun b z => absurd rfl z) fun z => absurd rfl z
  | none =>
    have one : ∀ b u, (fun b => if b = a then some (HO.frz { cls := .type "list", data := .seq vs.toArray } (.lst (ns.map V.int))) else none : Hp) b = some u → b = a ∧ u = .frz { cls := .type "list", data := .seq vs.toArray } (.lst (ns.map V.int)) := fun b u z => by
      by_cases eb : b = a
      · exact ⟨eb, (Option.some.inj ((if_pos eb).symm.trans z)).symm⟩
      · cases (if_neg eb).symm.trans z
    refine from_ (fun b => if b = a then some (.frz { cls := .type "list", data := .seq vs.toArray } (.lst (ns.map V.int))) else none) (fun b => ?_) (.inl (.inr ⟨_, if_pos rfl⟩)) (fun b u z => ?_) (fun b z => ?_) fun _ => hk
    · by_cases eb : b = a
      · exact .inr ⟨_, _, if_pos eb⟩
      · exact .inl (if_neg eb)
    · obtain ⟨rfl, rfl⟩ := one b u z
      exact ⟨ha, by rw [List.length_map]; exact hl, vs, _, rv, ha⟩
    · by_cases eb : b = a
      · exact eb
      · exact absurd (if_neg eb) z
theorem walk_G {l : PySem.W.OpenLaw} {n k : Nat} {q : Program} {loose : List Str} {XP : (Str → Option Value) → Heap → Prop} {YP : World → Heap → Prop} {d : DefRec} {K : Params → PySem.W.Frag} {sp : World → Sp} {x : Str}
    (hn : l.most = some n) (hn2 : n ≤ sizeLine) (hdf : d.params.defaults = []) (hr : Room k callerA) (hY : ∀ (w : World) (h : Heap), YP w h → (K w.params).In h)
    (F : ∀ (w : World) (mg : Str → Option Value) (fa : Addr) (h : Heap), (K w.params).In h → h.Ns mainGlobals mg → mg d.name = some (.ref fa) →
      ∃ fd : FuncData, (∀ (s : Shared) (u : Value), BindsTo s fd ⟨[u], []⟩ [(x, u)]) ∧ ∀ base : Heap, (K w.params).In base → base.Ns mainGlobals mg → FnG l.prog w (K w.params) mg base CX0 k fa fd [x] (sp w))
    (hsp : ∀ (w : World) (H : Hp) (a : Addr) (ns : List Int), ns.length ≤ n → Only H → SqL (K w.params) H a (ns.map V.int) → sp w [.ref a] H (fun v _ => v = .bl true) fun _ _ _ => False) :
    PySem.W.WalkO q loose XP YP l.row.toRowW d [] (fun f vs => PySem.call f vs) :=
  Att.attach_call hn hdf fun w s₀ s₁ mg mb fa o pm cd doc a vs ns G Y ho hd hcd hmg hobj hints hlen hg => by
    obtain ⟨fd, hb, hF⟩ := F w mg fa _ (hY w _ Y) G.T.g hmg
    exact law_callG (hY w _ Y) G.T.g G.T.b G.T.builtins G.T.nolimit hg hobj hints (Nat.le_trans hlen hn2) hr hF hb fun H hO hS => hsp w H a ns hlen hO hS
end WG
namespace WS
open PySem PySem.Spec PyProof.Rows L2
/-! ### x in y, y of an own class; xs.count(a bool) -/
section
variable {X : Cx} {CX : CXT} {n : Nat} {C g : Addr} {fd : FuncData} {ps : List Str} {sp : Sp} {E : XK}
def rOwnIn (C : Addr) (sp : Sp) (E : XK) : R2 := fun x y H Q => ∃ a dx fs, y = .ref a ∧ H a = some (.ins C dx fs) ∧ sp [.ref a, x] H (fun z H1 => ∃ r, z = .bl r ∧ Q (.bl r) H1) E
theorem op_ownIn (F : FnOk X.prog X.w X.K X.mg X.base CX n g fd ps sp) (hb : Binds X.K fd ps []) (hs : PySem.W.findIn X.K (.ref C) "__contains__" = some (some (.ref g)))
    (hf : PySem.W.isFn X.K (.ref g) = true) (hr : Room n X.A) (hx : Passes CX X E) : OpR X (compareOp .In) (rOwnIn C sp E) := by
  intro pins s σ H x y v u Q I rx ry h
  obtain ⟨a, dx, fs, rfl, ha, q⟩ := h
  cases (show u = Value.ref a from ry)
  obtain ⟨mA, J, _⟩ := ins_get I.hok ha
  obtain ⟨od, J, _⟩ := J.look
  obtain ⟨m, hF⟩ := I.fr
  refine PySem.W.in_K hF I.ok.mod.kin J hs hf (wpAny_mono (run_fn (us := [.ref a, v]) (vs := [.ref a, x]) (dvs := []) (ds := []) F hr hb .nil hx I (.cons rfl (.cons rx .nil)) q) (fun w s1 z => ?_) fun _ _ e => e)
  obtain ⟨z1, H1, I1, rz, r, e, q1⟩ := z
  subst e
  cases (show w = Value.bool r from rz)
  exact wpAny_truthy_bool ⟨.bl r, H1, I1, rfl, q1⟩
theorem reads_bools {h : Heap} : ∀ {bs : List Bool} {us : List Value}, Vals (bs.map V.bl) us → ReadsAll h us (bs.map PyData.bool) []
  | [], _, .nil => .nil
  | b :: bs, _, .cons r t => by
    cases r
    exact .cons (.bool b) (reads_bools t)
theorem plain_bools : ∀ bs : List Bool, PyData.plainAll (bs.map PyData.bool) = true
  | [] => rfl
  | b :: bs => by simp [PyData.plainAll, PyData.plain, plain_bools bs]
theorem depth_bools : ∀ bs : List Bool, PyData.depthAll (bs.map PyData.bool) = 0
  | [] => rfl
  | b :: bs => by simp [PyData.depthAll, PyData.depth, depth_bools bs]
def rCntB (K : PySem.W.Frag) : V → List V → Hp → VK → Prop := fun x xs H Q => ∃ (p : Addr) (bs : List Bool) (b : Bool), x = .ref p ∧ xs = [.bl b] ∧ SqL K H p (bs.map V.bl) ∧ Q (.int (bs.countP fun c => c == b : Nat)) H
theorem mt_lcountB (hu : X.A.units + 64 < cLine) : MtR X "list.count" (rCntB X.K) := by
  intro pins s σ H x xs v us Q I rx rxs h
  obtain ⟨p, bs, b, rfl, rfl, hs, q⟩ := h
  cases rx
  obtain ⟨u, rfl, ru⟩ := rxs.one
  cases (show u = Value.bool b from ru)
  obtain ⟨its, rv, hl, hlen⟩ := I.list hs
  have ra := reads_bools (h := s.heap) rv
  refine PySem.SeqAt.count_list_data hl.isList (by simpa using ra) (.bool b) (plain_bools bs) rfl (by rw [depth_bools]; simp; omega) ⟨.int _, H, I.tok _, ⟨s.toks, ?_⟩, q⟩
  rw [List.countP_map]
  rfl
end
end WS
namespace Q
open PySem PySem.Spec PyProof.Rows L2 WL WM WO WG WS
def top (i : Nat) : Stmt := PySem.Challenge.pw_whatspeed_k08_whole_what_lies_in_a_stret.main.body.getD i (.Pass ⟨0, 0, 0, 0⟩)
abbrev s_is_integer : Stmt := top 6
abbrev N_is_integer : List Str := ["value"]
theorem sc_is_integer : FnScope ["value"] ["value"] (defScope s_is_integer) := ⟨rfl, rfl, rfl, by decide +kernel, rfl, by decide +kernel, by decide +kernel⟩
abbrev s_shared_divisor : Stmt := top 8
abbrev N_shared_divisor : List Str := ["one", "other"]
theorem sc_shared_divisor : FnScope ["one", "other"] ["one", "other"] (defScope s_shared_divisor) := ⟨rfl, rfl, rfl, by decide +kernel, rfl, by decide +kernel, by decide +kernel⟩
abbrev s_Number_init : Stmt := inClass (top 9) 0
abbrev N_Number_init : List Str := ["self", "top", "bottom", "shared"]
theorem sc_Number_init : FnScope ["self", "top", "bottom", "shared"] ["self", "top", "bottom"] (defScope s_Number_init) := ⟨rfl, rfl, rfl, by decide +kernel, rfl, by decide +kernel, by decide +kernel⟩
abbrev s_Number_top : Stmt := inClass (top 9) 1
abbrev N_Number_top : List Str := ["self"]
theorem sc_Number_top : FnScope ["self"] ["self"] (defScope s_Number_top) := ⟨rfl, rfl, rfl, by decide +kernel, rfl, by decide +kernel, by decide +kernel⟩
abbrev s_Number_bottom : Stmt := inClass (top 9) 2
abbrev N_Number_bottom : List Str := ["self"]
theorem sc_Number_bottom : FnScope ["self"] ["self"] (defScope s_Number_bottom) := ⟨rfl, rfl, rfl, by decide +kernel, rfl, by decide +kernel, by decide +kernel⟩
abbrev s_Number_eq : Stmt := inClass (top 9) 3
abbrev N_Number_eq : List Str := ["self", "other"]
theorem sc_Number_eq : FnScope ["self", "other"] ["self", "other"] (defScope s_Number_eq) := ⟨rfl, rfl, rfl, by decide +kernel, rfl, by decide +kernel, by decide +kernel⟩
abbrev s_Number_is_less : Stmt := inClass (top 9) 4
abbrev N_Number_is_less : List Str := ["self", "other"]
theorem sc_Number_is_less : FnScope ["self", "other"] ["self", "other"] (defScope s_Number_is_less) := ⟨rfl, rfl, rfl, by decide +kernel, rfl, by decide +kernel, by decide +kernel⟩
abbrev s_Number_add : Stmt := inClass (top 9) 5
abbrev N_Number_add : List Str := ["self", "other", "top"]
theorem sc_Number_add : FnScope ["self", "other", "top"] ["self", "other"] (defScope s_Number_add) := ⟨rfl, rfl, rfl, by decide +kernel, rfl, by decide +kernel, by decide +kernel⟩
abbrev s_Number_divided_by : Stmt := inClass (top 9) 8
abbrev N_Number_divided_by : List Str := ["self", "other"]
theorem sc_Number_divided_by : FnScope ["self", "other"] ["self", "other"] (defScope s_Number_divided_by) := ⟨rfl, rfl, rfl, by decide +kernel, rfl, by decide +kernel, by decide +kernel⟩
abbrev s_whole : Stmt := top 10
abbrev N_whole : List Str := ["count"]
theorem sc_whole : FnScope ["count"] ["count"] (defScope s_whole) := ⟨rfl, rfl, rfl, by decide +kernel, rfl, by decide +kernel, by decide +kernel⟩
abbrev s_Line_init : Stmt := inClass (top 11) 0
abbrev N_Line_init : List Str := ["self", "base", "slope"]
theorem sc_Line_init : FnScope ["self", "base", "slope"] ["self", "base", "slope"] (defScope s_Line_init) := ⟨rfl, rfl, rfl, by decide +kernel, rfl, by decide +kernel, by decide +kernel⟩
abbrev s_Line_eq : Stmt := inClass (top 11) 4
abbrev N_Line_eq : List Str := ["self", "other"]
theorem sc_Line_eq : FnScope ["self", "other"] ["self", "other"] (defScope s_Line_eq) := ⟨rfl, rfl, rfl, by decide +kernel, rfl, by decide +kernel, by decide +kernel⟩
abbrev s_Stretch_init : Stmt := inClass (top 12) 0
abbrev N_Stretch_init : List Str := ["self", "low", "high", "has_low", "has_high"]
theorem sc_Stretch_init : FnScope ["self", "low", "high", "has_low", "has_high"] ["self", "low", "high", "has_low", "has_high"] (defScope s_Stretch_init) := ⟨rfl, rfl, rfl, by decide +kernel, rfl, by decide +kernel, by decide +kernel⟩
abbrev s_Stretch_middle : Stmt := inClass (top 12) 5
abbrev N_Stretch_middle : List Str := ["self"]
theorem sc_Stretch_middle : FnScope ["self"] ["self"] (defScope s_Stretch_middle) := ⟨rfl, rfl, rfl, by decide +kernel, rfl, by decide +kernel, by decide +kernel⟩
abbrev s_Stretch_contains : Stmt := inClass (top 12) 6
abbrev N_Stretch_contains : List Str := ["self", "s", "above", "below"]
theorem sc_Stretch_contains : FnScope ["self", "s", "above", "below"] ["self", "s"] (defScope s_Stretch_contains) := ⟨rfl, rfl, rfl, by decide +kernel, rfl, by decide +kernel, by decide +kernel⟩
abbrev s_Stretch_eq : Stmt := inClass (top 12) 7
abbrev N_Stretch_eq : List Str := ["self", "other"]
theorem sc_Stretch_eq : FnScope ["self", "other"] ["self", "other"] (defScope s_Stretch_eq) := ⟨rfl, rfl, rfl, by decide +kernel, rfl, by decide +kernel, by decide +kernel⟩
abbrev s_law_pot : Stmt := top 14
abbrev N_law_pot : List Str := ["script", "k", "cell", "own"]
theorem sc_law_pot : FnScope ["script", "k", "cell", "own"] ["script", "k"] (defScope s_law_pot) := ⟨rfl, rfl, rfl, by decide +kernel, rfl, by decide +kernel, by decide +kernel⟩
abbrev s_law_take : Stmt := top 15
abbrev N_law_take : List Str := ["pot", "upto", "digit", "prime", "mixed"]
theorem sc_law_take : FnScope ["pot", "upto", "digit", "prime", "mixed"] ["pot", "upto"] (defScope s_law_take) := ⟨rfl, rfl, rfl, by decide +kernel, rfl, by decide +kernel, by decide +kernel⟩
abbrev s_law_of : Stmt := top 16
abbrev N_law_of : List Str := ["pot", "some"]
theorem sc_law_of : FnScope ["pot", "some"] ["pot", "some"] (defScope s_law_of) := ⟨rfl, rfl, rfl, by decide +kernel, rfl, by decide +kernel, by decide +kernel⟩
abbrev s_law_ends : Stmt := top 17
abbrev N_law_ends : List Str := ["pot", "a", "b", "turn", "left", "right"]
theorem sc_law_ends : FnScope ["pot", "a", "b", "turn", "left", "right"] ["pot"] (defScope s_law_ends) := ⟨rfl, rfl, rfl, by decide +kernel, rfl, by decide +kernel, by decide +kernel⟩
abbrev s_law_made : Stmt := top 18
abbrev N_law_made : List Str := ["ends"]
theorem sc_law_made : FnScope ["ends"] ["ends"] (defScope s_law_made) := ⟨rfl, rfl, rfl, by decide +kernel, rfl, by decide +kernel, by decide +kernel⟩
abbrev s_law_lies : Stmt := top 19
abbrev N_law_lies : List Str := ["ends", "s", "left", "here", "there", "right"]
theorem sc_law_lies : FnScope ["ends", "s", "left", "here", "there", "right"] ["ends", "s"] (defScope s_law_lies) := ⟨rfl, rfl, rfl, by decide +kernel, rfl, by decide +kernel, by decide +kernel⟩
abbrev s_law_spots : Stmt := top 20
abbrev N_law_spots : List Str := ["one", "other", "found", "end", "k", "a", "b"]
theorem sc_law_spots : FnScope ["one", "other", "found", "end", "k", "a", "b"] ["one", "other"] (defScope s_law_spots) := ⟨rfl, rfl, rfl, by decide +kernel, rfl, by decide +kernel, by decide +kernel⟩
abbrev s_law_is_right : Stmt := top 21
abbrev N_law_is_right : List Str := ["pot", "one", "other", "first", "second", "spots", "ahead", "behind", "s", "alike"]
theorem sc_law_is_right : FnScope ["pot", "one", "other", "first", "second", "spots", "ahead", "behind", "s", "alike"] ["pot"] (defScope s_law_is_right) := ⟨rfl, rfl, rfl, by decide +kernel, rfl, by decide +kernel, by decide +kernel⟩
abbrev s_law_odd_right : Stmt := top 22
abbrev N_law_odd_right : List Str := ["things", "odd", "thing", "one", "other"]
theorem sc_law_odd_right : FnScope ["things", "odd", "thing", "one", "other"] [] (defScope s_law_odd_right) := ⟨rfl, rfl, rfl, by decide +kernel, rfl, by decide +kernel, by decide +kernel⟩
abbrev s_law : Stmt := top 23
abbrev N_law : List Str := ["script", "k", "pot", "turn"]
theorem sc_law : FnScope ["script", "k", "pot", "turn"] ["script"] (defScope s_law) := ⟨rfl, rfl, rfl, by decide +kernel, rfl, by decide +kernel, by decide +kernel⟩
structure Ad where
  c_Number : Addr
  c_Line : Addr
  c_Stretch : Addr
  f_is_integer : Addr
  d_is_integer : FuncData
  f_shared_divisor : Addr
  d_shared_divisor : FuncData
  f_Number_init : Addr
  d_Number_init : FuncData
  f_Number_top : Addr
  d_Number_top : FuncData
  p_Number_top : Addr
  f_Number_bottom : Addr
  d_Number_bottom : FuncData
  p_Number_bottom : Addr
  f_Number_eq : Addr
  d_Number_eq : FuncData
  f_Number_is_less : Addr
  d_Number_is_less : FuncData
  f_Number_add : Addr
  d_Number_add : FuncData
  f_Number_divided_by : Addr
  d_Number_divided_by : FuncData
  f_whole : Addr
  d_whole : FuncData
  f_Line_init : Addr
  d_Line_init : FuncData
  f_Line_eq : Addr
  d_Line_eq : FuncData
  f_Stretch_init : Addr
  d_Stretch_init : FuncData
  f_Stretch_middle : Addr
  d_Stretch_middle : FuncData
  p_Stretch_middle : Addr
  f_Stretch_contains : Addr
  d_Stretch_contains : FuncData
  f_Stretch_eq : Addr
  d_Stretch_eq : FuncData
  f_law_pot : Addr
  d_law_pot : FuncData
  f_law_take : Addr
  d_law_take : FuncData
  f_law_of : Addr
  d_law_of : FuncData
  f_law_ends : Addr
  d_law_ends : FuncData
  f_law_made : Addr
  d_law_made : FuncData
  f_law_lies : Addr
  d_law_lies : FuncData
  f_law_spots : Addr
  d_law_spots : FuncData
  f_law_is_right : Addr
  d_law_is_right : FuncData
  f_law_odd_right : Addr
  d_law_odd_right : FuncData
  f_law : Addr
  d_law : FuncData
structure Txt (K : PySem.W.Frag) (mg : Str → Option Value) (A : Ad) : Prop where
  g_Number : mg "Number" = some (.ref A.c_Number)
  cl_Number : Cls K A.c_Number
  M_Number : Mk K A.c_Number A.f_Number_init
  sf_Number : PySem.W.selfFirst K A.c_Number = true
  ca_Number : PySem.W.findIn K (.ref A.c_Number) "__class__" = some (some (.builtin "object.__class__"))
  cm_Number : PySem.W.mroIn K A.c_Number (.type "object") = some true
  n_Number_own_top : NoAttr K A.c_Number "own_top"
  n_Number_own_bottom : NoAttr K A.c_Number "own_bottom"
  g_Line : mg "Line" = some (.ref A.c_Line)
  cl_Line : Cls K A.c_Line
  M_Line : Mk K A.c_Line A.f_Line_init
  sf_Line : PySem.W.selfFirst K A.c_Line = true
  ca_Line : PySem.W.findIn K (.ref A.c_Line) "__class__" = some (some (.builtin "object.__class__"))
  cm_Line : PySem.W.mroIn K A.c_Line (.type "object") = some true
  n_Line_own_base : NoAttr K A.c_Line "own_base"
  n_Line_own_slope : NoAttr K A.c_Line "own_slope"
  g_Stretch : mg "Stretch" = some (.ref A.c_Stretch)
  cl_Stretch : Cls K A.c_Stretch
  M_Stretch : Mk K A.c_Stretch A.f_Stretch_init
  sf_Stretch : PySem.W.selfFirst K A.c_Stretch = true
  ca_Stretch : PySem.W.findIn K (.ref A.c_Stretch) "__class__" = some (some (.builtin "object.__class__"))
  cm_Stretch : PySem.W.mroIn K A.c_Stretch (.type "object") = some true
  n_Stretch_own_low : NoAttr K A.c_Stretch "own_low"
  n_Stretch_own_high : NoAttr K A.c_Stretch "own_high"
  n_Stretch_includes_low : NoAttr K A.c_Stretch "includes_low"
  n_Stretch_includes_high : NoAttr K A.c_Stretch "includes_high"
  n_Stretch_own_middle : NoAttr K A.c_Stretch "own_middle"
  cn : PySem.W.specialIn K (.builtin "object.__class__") "__get__" = some (some (.builtin "getset_descriptor.__get__"))
  ct : PySem.W.takesIn K (.builtin "object.__class__") = some true
  g_is_integer : mg "is_integer" = some (.ref A.f_is_integer)
  F_is_integer : Fun K "is_integer" "is_integer" s_is_integer A.f_is_integer A.d_is_integer
  b_is_integer : Binds K A.d_is_integer ["value"] []
  g_shared_divisor : mg "shared_divisor" = some (.ref A.f_shared_divisor)
  F_shared_divisor : Fun K "shared_divisor" "shared_divisor" s_shared_divisor A.f_shared_divisor A.d_shared_divisor
  b_shared_divisor : Binds K A.d_shared_divisor ["one", "other"] []
  m_Number_init : Meth K A.c_Number "__init__" A.f_Number_init
  F_Number_init : FunD K "__init__" "Number.__init__" (defArgs s_Number_init) (defBody s_Number_init) (defScope s_Number_init) [.int 1] [] A.f_Number_init A.d_Number_init
  P_Number_top : PropOf K A.c_Number "top" A.p_Number_top A.f_Number_top
  F_Number_top : Fun K "top" "Number.top" s_Number_top A.f_Number_top A.d_Number_top
  b_Number_top : Binds K A.d_Number_top ["self"] []
  P_Number_bottom : PropOf K A.c_Number "bottom" A.p_Number_bottom A.f_Number_bottom
  F_Number_bottom : Fun K "bottom" "Number.bottom" s_Number_bottom A.f_Number_bottom A.d_Number_bottom
  b_Number_bottom : Binds K A.d_Number_bottom ["self"] []
  m_Number_eq : Meth K A.c_Number "__eq__" A.f_Number_eq
  F_Number_eq : Fun K "__eq__" "Number.__eq__" s_Number_eq A.f_Number_eq A.d_Number_eq
  b_Number_eq : Binds K A.d_Number_eq ["self", "other"] []
  m_Number_is_less : Meth K A.c_Number "is_less" A.f_Number_is_less
  F_Number_is_less : Fun K "is_less" "Number.is_less" s_Number_is_less A.f_Number_is_less A.d_Number_is_less
  b_Number_is_less : Binds K A.d_Number_is_less ["self", "other"] []
  m_Number_add : Meth K A.c_Number "__add__" A.f_Number_add
  F_Number_add : Fun K "__add__" "Number.__add__" s_Number_add A.f_Number_add A.d_Number_add
  b_Number_add : Binds K A.d_Number_add ["self", "other"] []
  m_Number_divided_by : Meth K A.c_Number "divided_by" A.f_Number_divided_by
  F_Number_divided_by : Fun K "divided_by" "Number.divided_by" s_Number_divided_by A.f_Number_divided_by A.d_Number_divided_by
  b_Number_divided_by : Binds K A.d_Number_divided_by ["self", "other"] []
  g_whole : mg "whole" = some (.ref A.f_whole)
  F_whole : Fun K "whole" "whole" s_whole A.f_whole A.d_whole
  b_whole : Binds K A.d_whole ["count"] []
  m_Line_init : Meth K A.c_Line "__init__" A.f_Line_init
  F_Line_init : Fun K "__init__" "Line.__init__" s_Line_init A.f_Line_init A.d_Line_init
  b_Line_init : Binds K A.d_Line_init ["self", "base", "slope"] []
  m_Line_eq : Meth K A.c_Line "__eq__" A.f_Line_eq
  F_Line_eq : Fun K "__eq__" "Line.__eq__" s_Line_eq A.f_Line_eq A.d_Line_eq
  b_Line_eq : Binds K A.d_Line_eq ["self", "other"] []
  m_Stretch_init : Meth K A.c_Stretch "__init__" A.f_Stretch_init
  F_Stretch_init : FunD K "__init__" "Stretch.__init__" (defArgs s_Stretch_init) (defBody s_Stretch_init) (defScope s_Stretch_init) [] [("has_low", .bl true), ("has_high", .bl true)] A.f_Stretch_init A.d_Stretch_init
  P_Stretch_middle : PropOf K A.c_Stretch "middle" A.p_Stretch_middle A.f_Stretch_middle
  F_Stretch_middle : Fun K "middle" "Stretch.middle" s_Stretch_middle A.f_Stretch_middle A.d_Stretch_middle
  b_Stretch_middle : Binds K A.d_Stretch_middle ["self"] []
  m_Stretch_contains : Meth K A.c_Stretch "__contains__" A.f_Stretch_contains
  F_Stretch_contains : Fun K "__contains__" "Stretch.__contains__" s_Stretch_contains A.f_Stretch_contains A.d_Stretch_contains
  b_Stretch_contains : Binds K A.d_Stretch_contains ["self", "s"] []
  m_Stretch_eq : Meth K A.c_Stretch "__eq__" A.f_Stretch_eq
  F_Stretch_eq : Fun K "__eq__" "Stretch.__eq__" s_Stretch_eq A.f_Stretch_eq A.d_Stretch_eq
  b_Stretch_eq : Binds K A.d_Stretch_eq ["self", "other"] []
  g_law_pot : mg "_law_pot" = some (.ref A.f_law_pot)
  F_law_pot : Fun K "_law_pot" "_law_pot" s_law_pot A.f_law_pot A.d_law_pot
  b_law_pot : Binds K A.d_law_pot ["script", "k"] []
  g_law_take : mg "_law_take" = some (.ref A.f_law_take)
  F_law_take : Fun K "_law_take" "_law_take" s_law_take A.f_law_take A.d_law_take
  b_law_take : Binds K A.d_law_take ["pot", "upto"] []
  g_law_of : mg "_law_of" = some (.ref A.f_law_of)
  F_law_of : Fun K "_law_of" "_law_of" s_law_of A.f_law_of A.d_law_of
  b_law_of : Binds K A.d_law_of ["pot", "some"] []
  g_law_ends : mg "_law_ends" = some (.ref A.f_law_ends)
  F_law_ends : Fun K "_law_ends" "_law_ends" s_law_ends A.f_law_ends A.d_law_ends
  b_law_ends : Binds K A.d_law_ends ["pot"] []
  g_law_made : mg "_law_made" = some (.ref A.f_law_made)
  F_law_made : Fun K "_law_made" "_law_made" s_law_made A.f_law_made A.d_law_made
  b_law_made : Binds K A.d_law_made ["ends"] []
  g_law_lies : mg "_law_lies" = some (.ref A.f_law_lies)
  F_law_lies : Fun K "_law_lies" "_law_lies" s_law_lies A.f_law_lies A.d_law_lies
  b_law_lies : Binds K A.d_law_lies ["ends", "s"] []
  g_law_spots : mg "_law_spots" = some (.ref A.f_law_spots)
  F_law_spots : Fun K "_law_spots" "_law_spots" s_law_spots A.f_law_spots A.d_law_spots
  b_law_spots : Binds K A.d_law_spots ["one", "other"] []
  g_law_is_right : mg "_law_is_right" = some (.ref A.f_law_is_right)
  F_law_is_right : Fun K "_law_is_right" "_law_is_right" s_law_is_right A.f_law_is_right A.d_law_is_right
  b_law_is_right : Binds K A.d_law_is_right ["pot"] []
  g_law_odd_right : mg "_law_odd_right" = some (.ref A.f_law_odd_right)
  F_law_odd_right : Fun K "_law_odd_right" "_law_odd_right" s_law_odd_right A.f_law_odd_right A.d_law_odd_right
  b_law_odd_right : Binds K A.d_law_odd_right [] []
  F_law : Fun K "law" "law" s_law A.f_law A.d_law
  b_law : Binds K A.d_law ["script"] []
  z_isinstance : mg "isinstance" = none
  z_int : mg "int" = none
  z_bool : mg "bool" = none
  z_abs : mg "abs" = none
  z_len : mg "len" = none
  z_max : mg "max" = none
  z_min : mg "min" = none
  z_range : mg "range" = none
  z_repr : mg "repr" = none
  z_all : mg "all" = none
  z_any : mg "any" = none
  kit_NumNum : PySem.W.kitOne K (.ref A.c_Number) (.ref A.c_Number) = some true
  kit_StrStr : PySem.W.kitOne K (.ref A.c_Stretch) (.ref A.c_Stretch) = some true
  kit_LinLin : PySem.W.kitOne K (.ref A.c_Line) (.ref A.c_Line) = some true
  kit_blbl : PySem.W.kitOne K (.type "bool") (.type "bool") = some true
  kit_nonNum : PySem.W.kitOne K (.type "NoneType") (.ref A.c_Number) = some false
  kit_blNum : PySem.W.kitOne K (.type "bool") (.ref A.c_Number) = some false
  kit_intNum : PySem.W.kitOne K (.type "int") (.ref A.c_Number) = some false
  kit_strNum : PySem.W.kitOne K (.type "str") (.ref A.c_Number) = some false
  kit_tupNum : PySem.W.kitOne K (.type "tuple") (.ref A.c_Number) = some false
  kit_lstNum : PySem.W.kitOne K (.type "list") (.ref A.c_Number) = some false
  kit_dctNum : PySem.W.kitOne K (.type "dict") (.ref A.c_Number) = some false
  kit_LinNum : PySem.W.kitOne K (.ref A.c_Line) (.ref A.c_Number) = some false
  kit_StrNum : PySem.W.kitOne K (.ref A.c_Stretch) (.ref A.c_Number) = some false
  kit_nonLin : PySem.W.kitOne K (.type "NoneType") (.ref A.c_Line) = some false
  kit_blLin : PySem.W.kitOne K (.type "bool") (.ref A.c_Line) = some false
  kit_intLin : PySem.W.kitOne K (.type "int") (.ref A.c_Line) = some false
  kit_strLin : PySem.W.kitOne K (.type "str") (.ref A.c_Line) = some false
  kit_tupLin : PySem.W.kitOne K (.type "tuple") (.ref A.c_Line) = some false
  kit_lstLin : PySem.W.kitOne K (.type "list") (.ref A.c_Line) = some false
  kit_dctLin : PySem.W.kitOne K (.type "dict") (.ref A.c_Line) = some false
  kit_NumLin : PySem.W.kitOne K (.ref A.c_Number) (.ref A.c_Line) = some false
  kit_StrLin : PySem.W.kitOne K (.ref A.c_Stretch) (.ref A.c_Line) = some false
  kit_nonStr : PySem.W.kitOne K (.type "NoneType") (.ref A.c_Stretch) = some false
  kit_blStr : PySem.W.kitOne K (.type "bool") (.ref A.c_Stretch) = some false
  kit_intStr : PySem.W.kitOne K (.type "int") (.ref A.c_Stretch) = some false
  kit_strStr : PySem.W.kitOne K (.type "str") (.ref A.c_Stretch) = some false
  kit_tupStr : PySem.W.kitOne K (.type "tuple") (.ref A.c_Stretch) = some false
  kit_lstStr : PySem.W.kitOne K (.type "list") (.ref A.c_Stretch) = some false
  kit_dctStr : PySem.W.kitOne K (.type "dict") (.ref A.c_Stretch) = some false
  kit_NumStr : PySem.W.kitOne K (.ref A.c_Number) (.ref A.c_Stretch) = some false
  kit_LinStr : PySem.W.kitOne K (.ref A.c_Line) (.ref A.c_Stretch) = some false
  ne_Number : PySem.W.findIn K (.ref A.c_Number) "__ne__" = some (some (.builtin "object.__ne__"))
  ne_Stretch : PySem.W.findIn K (.ref A.c_Stretch) "__ne__" = some (some (.builtin "object.__ne__"))
  sub_nonNum : PySem.W.subIn K (.type "NoneType") (.ref A.c_Number) = some false
  sub_blNum : PySem.W.subIn K (.type "bool") (.ref A.c_Number) = some false
  sub_intNum : PySem.W.subIn K (.type "int") (.ref A.c_Number) = some false
  sub_strNum : PySem.W.subIn K (.type "str") (.ref A.c_Number) = some false
  sub_tupNum : PySem.W.subIn K (.type "tuple") (.ref A.c_Number) = some false
  sub_lstNum : PySem.W.subIn K (.type "list") (.ref A.c_Number) = some false
  sub_dctNum : PySem.W.subIn K (.type "dict") (.ref A.c_Number) = some false
  sub_LinNum : PySem.W.subIn K (.ref A.c_Line) (.ref A.c_Number) = some false
  sub_StrNum : PySem.W.subIn K (.ref A.c_Stretch) (.ref A.c_Number) = some false
  sub_nonLin : PySem.W.subIn K (.type "NoneType") (.ref A.c_Line) = some false
  sub_blLin : PySem.W.subIn K (.type "bool") (.ref A.c_Line) = some false
  sub_intLin : PySem.W.subIn K (.type "int") (.ref A.c_Line) = some false
  sub_strLin : PySem.W.subIn K (.type "str") (.ref A.c_Line) = some false
  sub_tupLin : PySem.W.subIn K (.type "tuple") (.ref A.c_Line) = some false
  sub_lstLin : PySem.W.subIn K (.type "list") (.ref A.c_Line) = some false
  sub_dctLin : PySem.W.subIn K (.type "dict") (.ref A.c_Line) = some false
  sub_NumLin : PySem.W.subIn K (.ref A.c_Number) (.ref A.c_Line) = some false
  sub_StrLin : PySem.W.subIn K (.ref A.c_Stretch) (.ref A.c_Line) = some false
  sub_nonStr : PySem.W.subIn K (.type "NoneType") (.ref A.c_Stretch) = some false
  sub_blStr : PySem.W.subIn K (.type "bool") (.ref A.c_Stretch) = some false
  sub_intStr : PySem.W.subIn K (.type "int") (.ref A.c_Stretch) = some false
  sub_strStr : PySem.W.subIn K (.type "str") (.ref A.c_Stretch) = some false
  sub_tupStr : PySem.W.subIn K (.type "tuple") (.ref A.c_Stretch) = some false
  sub_lstStr : PySem.W.subIn K (.type "list") (.ref A.c_Stretch) = some false
  sub_dctStr : PySem.W.subIn K (.type "dict") (.ref A.c_Stretch) = some false
  sub_NumStr : PySem.W.subIn K (.ref A.c_Number) (.ref A.c_Stretch) = some false
  sub_LinStr : PySem.W.subIn K (.ref A.c_Line) (.ref A.c_Stretch) = some false
section
variable {P : Program} {w : World} {K : PySem.W.Frag} {mg : Str → Option Value} {base : Heap} {A : Ad}
/-- an int is an integer -/
def spIsInt : Sp := fun vs H Q _ => ∃ i : Int, vs = [.int i] ∧ Q (.bl true) H
theorem ok_is_integer (T : Txt K mg A) : FnOk P w K mg base CX0 1 A.f_is_integer A.d_is_integer ["value"] spIsInt := by
  refine T.F_is_integer.ok sc_is_integer (fun vs H Q E h => ?_) (fun cdv B outer s H vs Q E hr h => ?_)
  · obtain ⟨i, rfl, _⟩ := h
    rfl
  · obtain ⟨i, rfl, k⟩ := h
    refine ⟨_, pss_one (ps_ret (pe_and (pe_callB call_isi (by rfl) T.z_isinstance (by decide +kernel) (pa_cons (pv 0) (pa_cons (pe_bltn (v := .ty "int") (by rfl) T.z_int (by decide +kernel) rfl) pa_nil)))
      (pe_one (pe_not (pe_callB call_isi (by rfl) T.z_isinstance (by decide +kernel) (pa_cons (pv 0) (pa_cons (pe_bltn (v := .ty "bool") (by rfl) T.z_bool (by decide +kernel) rfl) pa_nil))))))), ?_⟩
    refine ⟨_, rfl, _, _, _, _, true, rfl, .ty "int", .base (.int i), kit_ty (by decide +kernel), true, rfl, ?_⟩
    refine iteT ?_
    refine ⟨_, rfl, _, _, _, _, false, rfl, .ty "bool", .base (.int i), kit_ty (by decide +kernel), false, rfl, ?_⟩
    exact k
end
section
variable {P : Program} {w : World} {K : PySem.W.Frag} {mg : Str → Option Value} {base : Heap} {A : Ad}
def spGcd : Sp := fun vs H Q _ => ∃ a b : Nat, vs = [.int a, .int b] ∧ Q (.int (Nat.gcd a b : Nat)) H
def natAt (σ : L2.St) (i : Nat) : Nat := match σ[i]? with
  | some (some (.int k)) => k.toNat
  | _ => 0
theorem ok_shared_divisor (T : Txt K mg A) : FnOk P w K mg base CX0 1 A.f_shared_divisor A.d_shared_divisor ["one", "other"] spGcd := by
  refine T.F_shared_divisor.ok sc_shared_divisor (fun vs H Q E h => ?_) (fun cdv B outer s H vs Q E hr h => ?_)
  · obtain ⟨a, b, rfl, _⟩ := h
    rfl
  · obtain ⟨a, b, rfl, k⟩ := h
    refine ⟨_, pss_cons (ps_while PassesOwn.never (pt_cmpR op_ne (pv 1) pe_int (nomark _))
      (pss_one (ps_par (i := 0) (j := 1) rfl sc_shared_divisor.nd rfl rfl (by decide) rfl rfl (pa_cons (pv 1) (pa_cons (pe_op op_mod (pv 0) (pv 1)) pa_nil)) (by rfl))))
      (pss_one (ps_ret (pv 0))), ?_⟩
    refine while_by (fun σ H' => ∃ c d : Nat, σ = [some (.int c), some (.int d)] ∧ Nat.gcd c d = Nat.gcd a b ∧ H' = H) (fun σ _ => natAt σ 1) ⟨a, b, rfl, rfl, rfl⟩ ?_ ?_
    · rintro σ H' ⟨c, d, rfl, hg, rfl⟩
      refine ⟨_, rfl, rfl, _, rfl, ?_⟩
      by_cases hd : d = 0
      · subst hd
        refine iteF ?_
        rw [Nat.gcd_zero_right] at hg
        refine ⟨_, rfl, ?_⟩
        rw [hg]
        exact k
      · have hne : (!decide (V.int (d : Int) = V.int 0)) = true := by
          have : ¬ (V.int (d : Int) = V.int 0) := fun e => hd (by injection e with e; omega)
          rw [decide_eq_false this]
          rfl
        rw [hne]
        refine iteT ?_
        refine ⟨_, rfl, _, rfl, _, rfl, _, _, rfl, rfl, (by show (0 : Int) < d; omega), _, _, rfl, ⟨d, c % d, ?_, ?_, rfl⟩, ?_⟩
        · rfl
        · rw [← hg, Nat.gcd_comm c d, Nat.gcd_rec d c, Nat.gcd_comm]
        · show ((c : Int) % (d : Int)).toNat < (d : Int).toNat
          have := Int.emod_lt_of_pos (c : Int) (show (0 : Int) < d by omega)
          have := Int.emod_nonneg (c : Int) (show (d : Int) ≠ 0 by omega)
          omega
    · intro σ H Q Q' m h
      obtain ⟨v, e, q⟩ := h
      obtain ⟨z, b, e2, q2⟩ := q
      exact ⟨v, e, z, b, e2, m _ _ q2⟩
end
/-! ### Number -/
def nf (q : Rat) : List (Str × V) := [("own_top", .int q.num), ("own_bottom", .int (q.den : Int))]
def Num (C : Addr) (H : Hp) (a : Addr) (q : Rat) : Prop := ∃ dx, H a = some (.ins C dx (nf q))
theorem Num.mono {C : Addr} {H H' : Hp} {a : Addr} {q : Rat} (h : Num C H a q) (s : Same H H') : Num C H' a q := by
  obtain ⟨dx, e⟩ := h
  exact ⟨dx, s _ _ e⟩
theorem nf_put (q : Rat) : putF "own_bottom" (.int (q.den : Int)) (putF "own_top" (.int q.num) []) = nf q := by
  show (if ("own_top" : Str) = "own_bottom" then [(("own_bottom" : Str), V.int (q.den : Int))] else (("own_top" : Str), V.int q.num) :: putF "own_bottom" (.int (q.den : Int)) []) = nf q
  rw [if_neg (by decide +kernel)]
  rfl
theorem nf_top (q : Rat) : (nf q).lookup ("own_top" : Str) = some (.int q.num) := by simp [nf, List.lookup]
theorem nf_bot (q : Rat) : (nf q).lookup ("own_bottom" : Str) = some (.int (q.den : Int)) := by
  have : (("own_bottom" : Str) == ("own_top" : Str)) = false := by decide +kernel
  simp [nf, List.lookup, this]
theorem nf_no (q : Rat) {m : Str} (h1 : (m == ("own_top" : Str)) = false) (h2 : (m == ("own_bottom" : Str)) = false) : (nf q).lookup m = none := by simp [nf, List.lookup, h1, h2]
/-- a new instance and its dict, then its fields -/
theorem same_made {C : Addr} {H : Hp} {x dx : Addr} {fs gs : List (Str × V)} (nx : H x = none) (ndx : H dx = none) : Same H (upd (upd (upd H dx (.own x)) x (.ins C dx fs)) x (.ins C dx gs)) := fun b o e => by
  rw [upd_upd, upd_ne (ne_of_none e nx), upd_ne (ne_of_none e ndx)]
  exact e
theorem same_new {H : Hp} {x : Addr} {o : HO} (nx : H x = none) : Same H (upd H x o) := fun b u e => by
  rw [upd_ne (ne_of_none e nx)]
  exact e
theorem abs_nat (t : Int) : (if t < 0 then -t else t) = (t.natAbs : Int) := by split <;> omega
theorem dint_ne {b c : Int} (h : b ≠ c) : decide (V.int b = V.int c) = false := decide_eq_false fun e => h (by injection e)
theorem dint_eq {b c : Int} (h : b = c) : decide (V.int b = V.int c) = true := decide_eq_true (by rw [h])
section
variable {P : Program} {w : World} {K : PySem.W.Frag} {mg : Str → Option Value} {base : Heap} {A : Ad}
def spNumI (C : Addr) : Sp := fun vs H Q _ => ∃ (p dx : Addr) (t b : Int), vs = [.ref p, .int t, .int b] ∧ b ≠ 0 ∧ b.natAbs < 2 ^ 9000 ∧ H p = some (.ins C dx []) ∧ Q .non (upd H p (.ins C dx (nf (Rat.divInt t b))))
theorem ok_Number_init (T : Txt K mg A) : FnOk P w K mg base CX0 2 A.f_Number_init A.d_Number_init ["self", "top", "bottom"] (spNumI A.c_Number) := by
  refine T.F_Number_init.ok sc_Number_init (fun vs H Q E h => ?_) (fun cdv B outer s H vs Q E hr h => ?_)
  · obtain ⟨p, dx, t, b, rfl, _⟩ := h
    rfl
  · obtain ⟨p, dx, t, b, rfl, hb, hbd, hp, k⟩ := h
    refine ⟨_, pss_cons (ps_if (PW.pt (pw_or (pt_not (pt_val (pe_call (ok_is_integer T) hr rfl T.g_is_integer T.F_is_integer.kp T.b_is_integer .nil pass0 (pa_cons (pv 1) pa_nil))))
        (pw_or (pt_not (pt_val (pe_call (ok_is_integer T) hr rfl T.g_is_integer T.F_is_integer.kp T.b_is_integer .nil pass0 (pa_cons (pv 2) pa_nil))))
        (pw_or1 (pt_cmpR op_eq (pv 2) pe_int (nomark _)))))) pss_never pss_nil)
      (pss_cons (ps_set (i := 3) sc_Number_init.nd rfl (Or.inl rfl) (pe_call (ok_shared_divisor T) hr rfl T.g_shared_divisor T.F_shared_divisor.kp T.b_shared_divisor .nil pass0
        (pa_cons (pe_callB call_abs (by rfl) T.z_abs (by decide +kernel) (pa_cons (pv 1) pa_nil)) (pa_cons (pe_callB call_abs (by rfl) T.z_abs (by decide +kernel) (pa_cons (pv 2) pa_nil)) pa_nil))))
      (pss_cons (ps_if (pt_cmpR op_lt (pv 2) pe_int (nomark _)) (pss_one (ps_set (i := 3) sc_Number_init.nd rfl (Or.inl rfl) (pe_un un_neg (pv 3)))) pss_nil)
      (pss_cons (ps_fld (pv 0) (pe_op op_fdivG (pv 1) (pv 3)) rfl)
      (pss_one (ps_fld (pv 0) (pe_op op_fdivG (pv 2) (pv 3)) rfl))))), ?_⟩
    refine ⟨_, rfl, t, rfl, true, rfl, ?_⟩
    refine iteF ?_
    refine ⟨_, rfl, b, rfl, true, rfl, ?_⟩
    refine iteF ?_
    refine ⟨_, rfl, rfl, _, rfl, ?_⟩
    rw [dint_ne hb]
    refine iteF ?_
    refine ⟨_, rfl, t, rfl, _, rfl, b, rfl, t.natAbs, b.natAbs, by rw [abs_nat, abs_nat]; rfl, ?_⟩
    have hg0 : 0 < Nat.gcd t.natAbs b.natAbs := gcd_ne hb rfl
    have hgl : Nat.gcd t.natAbs b.natAbs ≤ b.natAbs := gcd_le hb rfl
    have hn : ∀ s : Int, s = (if b < 0 then -((Nat.gcd t.natAbs b.natAbs : Nat) : Int) else ((Nat.gcd t.natAbs b.natAbs : Nat) : Int)) → CDivG t s ∧ CDivG b s ∧ t.fdiv s = (Rat.divInt t b).num ∧ b.fdiv s = ((Rat.divInt t b).den : Int) := fun s e => by
      have h1 : s ≠ 0 := by rw [e]; split <;> omega
      have h2 : s.natAbs = Nat.gcd t.natAbs b.natAbs := by rw [e]; split <;> omega
      have h3 : s.natAbs.log2 < 9000 := log2_lt (by decide) (by rw [h2]; exact Nat.lt_of_le_of_lt hgl hbd)
      exact ⟨⟨h1, h3⟩, ⟨h1, h3⟩, by rw [e]; exact make_num hb rfl, by rw [e]; exact make_den hb rfl⟩
    refine ⟨_, rfl, _, _, rfl, rfl, _, rfl, ?_⟩
    have fin : ∀ s : Int, s = (if b < 0 then -((Nat.gcd t.natAbs b.natAbs : Nat) : Int) else ((Nat.gcd t.natAbs b.natAbs : Nat) : Int)) →
        (tSeq (sFld K (tVar 0) (tOp (rI CDivG fun i j => .int (i.fdiv j)) (tVar 1) (tVar 3)) "own_top") (sFld K (tVar 0) (tOp (rI CDivG fun i j => .int (i.fdiv j)) (tVar 2) (tVar 3)) "own_bottom")) { nx := fun _ H' => Q .non H', rt := Q }
          [some (.ref p), some (.int t), some (.int b), some (.int s)] H := fun s e => by
      obtain ⟨c1, c2, e1, e2⟩ := hn s e
      refine ⟨_, rfl, _, rfl, _, _, rfl, rfl, c1, _, rfl, p, A.c_Number, dx, [], rfl, hp, T.cl_Number, T.n_Number_own_top, (by decide), ?_⟩
      refine ⟨_, rfl, _, rfl, _, _, rfl, rfl, c2, _, rfl, p, A.c_Number, dx, _, rfl, upd_same, T.cl_Number, T.n_Number_own_bottom, (by show 1 < 1000; decide), ?_⟩
      dsimp only
      rw [upd_upd, e1, e2, nf_put]
      exact k
    refine ite2 (fun hlt => ?_) (fun hlt => ?_)
    · refine ⟨_, rfl, _, rfl, ?_⟩
      exact fin _ (by rw [if_pos (of_decide_eq_true hlt)])
    · exact fin _ (by rw [if_neg fun z => hlt (decide_eq_true z)])
/-- Number(t, b), both written -/
theorem b_Number (T : Txt K mg A) : Binds K A.d_Number_init ["self", "top", "bottom"] [] := by
  obtain ⟨ds, r, b⟩ := T.F_Number_init.binds1 (ps := ["self", "top", "bottom"]) 3 1 (by simp) rfl (fun T' kV dc pm an cd ct us its hu hi => by
    match us, hu, its, hi with
    | [u1, u2, u3], _, [i1], _ => exact ⟨_, rfl, rfl⟩)
  cases r
  exact b
end
/-! ### Number's methods -/
/-- Number(t, b) gives a new number -/
theorem made_num {C : Addr} {H : Hp} {x dx : Addr} (q : Rat) (nx : H x = none) (ndx : H dx = none) :
    Same H (upd (upd (upd H dx (.own x)) x (.ins C dx [])) x (.ins C dx (nf q))) ∧ Num C (upd (upd (upd H dx (.own x)) x (.ins C dx [])) x (.ins C dx (nf q))) x q :=
  ⟨same_made nx ndx, dx, upd_same⟩
section
variable {P : Program} {w : World} {K : PySem.W.Frag} {mg : Str → Option Value} {base : Heap} {A : Ad}
theorem ok_Number_top (T : Txt K mg A) : FnOk P w K mg base CX0 1 A.f_Number_top A.d_Number_top ["self"] (getSp A.c_Number "own_top") := by
  refine T.F_Number_top.ok sc_Number_top (fun vs H Q E h => ?_) (fun cdv B outer s H vs Q E hr h => ?_)
  · obtain ⟨a, dx, fs, v, rfl, _⟩ := h
    rfl
  · obtain ⟨a, dx, fs, v, rfl, e, l, k⟩ := h
    exact ⟨_, pss_one (ps_ret (pe_fld (pv 0) rfl)), _, rfl, a, _, dx, fs, v, rfl, e, T.cl_Number, T.n_Number_own_top, l, k⟩
end
section
variable {P : Program} {w : World} {K : PySem.W.Frag} {mg : Str → Option Value} {base : Heap} {A : Ad}
theorem ok_Number_bottom (T : Txt K mg A) : FnOk P w K mg base CX0 1 A.f_Number_bottom A.d_Number_bottom ["self"] (getSp A.c_Number "own_bottom") := by
  refine T.F_Number_bottom.ok sc_Number_bottom (fun vs H Q E h => ?_) (fun cdv B outer s H vs Q E hr h => ?_)
  · obtain ⟨a, dx, fs, v, rfl, _⟩ := h
    rfl
  · obtain ⟨a, dx, fs, v, rfl, e, l, k⟩ := h
    exact ⟨_, pss_one (ps_ret (pe_fld (pv 0) rfl)), _, rfl, a, _, dx, fs, v, rfl, e, T.cl_Number, T.n_Number_own_bottom, l, k⟩
end
section
variable {P : Program} {w : World} {K : PySem.W.Frag} {mg : Str → Option Value} {base : Heap} {A : Ad}
/-- == of two numbers -/
def spNumEq (C : Addr) : Sp := fun vs H Q _ => ∃ (a b : Addr) (p q : Rat), vs = [.ref a, .ref b] ∧ Num C H a p ∧ Num C H b q ∧ Q (.bl (decide (p = q))) H
theorem rat_eq_dec (p q : Rat) : decide (p = q) = (decide (V.int p.num = V.int q.num) && decide (V.int (p.den : Int) = V.int (q.den : Int))) := by
  by_cases h : p = q
  · subst h
    simp
  · rw [decide_eq_false h]
    by_cases h1 : p.num = q.num
    · have h2 : ¬ ((p.den : Int) = (q.den : Int)) := fun e => h (Rat.ext h1 (by omega))
      rw [dint_ne h2, Bool.and_false]
    · rw [dint_ne h1, Bool.false_and]
theorem ok_Number_eq (T : Txt K mg A) : FnOk P w K mg base CX0 1 A.f_Number_eq A.d_Number_eq ["self", "other"] (spNumEq A.c_Number) := by
  refine T.F_Number_eq.ok sc_Number_eq (fun vs H Q E h => ?_) (fun cdv B outer s H vs Q E hr h => ?_)
  · obtain ⟨a, b, p, q, rfl, _⟩ := h
    rfl
  · obtain ⟨a, b, p, q, rfl, ⟨dx, ha⟩, ⟨dy, hb⟩, k⟩ := h
    refine ⟨_, pss_one (ps_ret (pe_and (pe_callB call_isi (by rfl) T.z_isinstance (by decide +kernel) (pa_cons (pv 1) (pa_cons (pe_glob (v := .ref A.c_Number) (by rfl) T.g_Number rfl) pa_nil)))
      (pe_and (pe_cmpR op_eq (pe_fld (pv 0) rfl) (pe_fld (pv 1) rfl) (nomark _)) (pe_one (pe_cmpR op_eq (pe_fld (pv 0) rfl) (pe_fld (pv 1) rfl) (nomark _)))))), ?_⟩
    refine ⟨_, rfl, _, _, _, _, true, rfl, .own _, .base (.ins hb T.cl_Number T.ca_Number T.cn T.ct T.cm_Number), T.kit_NumNum, true, rfl, ?_⟩
    refine iteT ?_
    refine ⟨_, rfl, a, _, dx, _, _, rfl, ha, T.cl_Number, T.n_Number_own_top, nf_top p, _, rfl, b, _, dy, _, _, rfl, hb, T.cl_Number, T.n_Number_own_top, nf_top q, rfl, _, rfl, ?_⟩
    rw [rat_eq_dec] at k
    refine ite2 (fun h1 => ?_) (fun h1 => ?_)
    · rw [h1, Bool.true_and] at k
      exact ⟨_, rfl, a, _, dx, _, _, rfl, ha, T.cl_Number, T.n_Number_own_bottom, nf_bot p, _, rfl, b, _, dy, _, _, rfl, hb, T.cl_Number, T.n_Number_own_bottom, nf_bot q, rfl, k⟩
    · have h2 := Bool.eq_false_iff.mpr h1
      rw [h2, Bool.false_and] at k
      exact k
end
section
variable {P : Program} {w : World} {K : PySem.W.Frag} {mg : Str → Option Value} {base : Heap} {A : Ad}
/-- an operation of two numbers -/
def spNum2 (C : Addr) (f : Rat → Rat → Rat) : Sp := fun vs H Q _ => ∃ (a b : Addr) (p q : Rat), vs = [.ref a, .ref b] ∧ Num C H a p ∧ Num C H b q ∧ Bd 4000 p ∧ Bd 4000 q ∧
  ∀ x H', Same H H' → H x = none → Num C H' x (f p q) → Q (.ref x) H'
theorem bdw {m n : Nat} {i j : Int} (ha : i.natAbs < 2 ^ m) (hb : j.natAbs < 2 ^ n) (h0 : 0 < m := by decide) (h1 : 0 < n := by decide) (h : m + n ≤ 1000000 := by decide) : CMulW i j := wide_mul ha hb h0 h1 h
end
section
variable {P : Program} {w : World} {K : PySem.W.Frag} {mg : Str → Option Value} {base : Heap} {A : Ad}
theorem ok_Number_add (T : Txt K mg A) : FnOk P w K mg base CX0 4 A.f_Number_add A.d_Number_add ["self", "other"] (spNum2 A.c_Number (· + ·)) := by
  refine T.F_Number_add.ok sc_Number_add (fun vs H Q E h => ?_) (fun cdv B outer s H vs Q E hr h => ?_)
  · obtain ⟨a, b, p, q, rfl, _⟩ := h
    rfl
  · obtain ⟨a, b, p, q, rfl, ⟨dx, ha⟩, ⟨dy, hb⟩, bp, bq, k⟩ := h
    refine ⟨_, pss_cons (ps_set (i := 2) sc_Number_add.nd rfl (Or.inl rfl) (pe_op op_add (pe_op op_mulW (pe_fld (pv 0) rfl) (pe_fld (pv 1) rfl)) (pe_op op_mulW (pe_fld (pv 1) rfl) (pe_fld (pv 0) rfl))))
      (pss_one (ps_ret (pe_make T.M_Number (ok_Number_init T) hr rfl T.g_Number (b_Number T) .nil pass0 (pa_cons (pv 2) (pa_cons (pe_op op_mulW (pe_fld (pv 0) rfl) (pe_fld (pv 1) rfl)) pa_nil))))), ?_⟩
    refine ⟨_, rfl, a, _, dx, _, _, rfl, ha, T.cl_Number, T.n_Number_own_top, nf_top p, _, rfl, b, _, dy, _, _, rfl, hb, T.cl_Number, T.n_Number_own_bottom, nf_bot q, _, _, rfl, rfl, bdw bp.1 bq.den', ?_⟩
    refine ⟨_, rfl, b, _, dy, _, _, rfl, hb, T.cl_Number, T.n_Number_own_top, nf_top q, _, rfl, a, _, dx, _, _, rfl, ha, T.cl_Number, T.n_Number_own_bottom, nf_bot p, _, _, rfl, rfl, bdw bq.1 bp.den', _, _, rfl, rfl, ?_⟩
    refine ⟨_, rfl, _, rfl, a, _, dx, _, _, rfl, ha, T.cl_Number, T.n_Number_own_bottom, nf_bot p, _, rfl, b, _, dy, _, _, rfl, hb, T.cl_Number, T.n_Number_own_bottom, nf_bot q, _, _, rfl, rfl, bdw bp.den' bq.den', ?_⟩
    intro x dz nx ndz nex
    refine ⟨x, dz, _, _, rfl, Int.mul_ne_zero (den_ne p) (den_ne q), up_lt (imul_lt bp.den' bq.den') (by decide), upd_same, rfl, ?_⟩
    have e := made_num (C := A.c_Number) (p + q) nx ndz
    rw [← add_eq] at e
    exact k _ _ e.1 nx (by show Num _ _ _ (p + q); rw [← add_eq]; exact e.2)
end
section
variable {P : Program} {w : World} {K : PySem.W.Frag} {mg : Str → Option Value} {base : Heap} {A : Ad}
/-- the quotient by what is not 0 -/
def spNumDiv (C : Addr) : Sp := fun vs H Q _ => ∃ (a b : Addr) (p q : Rat), vs = [.ref a, .ref b] ∧ Num C H a p ∧ Num C H b q ∧ Bd 4000 p ∧ Bd 4000 q ∧ q ≠ 0 ∧
  ∀ x H', Same H H' → H x = none → Num C H' x (p / q) → Q (.ref x) H'
theorem ok_Number_divided_by (T : Txt K mg A) : FnOk P w K mg base CX0 4 A.f_Number_divided_by A.d_Number_divided_by ["self", "other"] (spNumDiv A.c_Number) := by
  refine T.F_Number_divided_by.ok sc_Number_divided_by (fun vs H Q E h => ?_) (fun cdv B outer s H vs Q E hr h => ?_)
  · obtain ⟨a, b, p, q, rfl, _⟩ := h
    rfl
  · obtain ⟨a, b, p, q, rfl, ⟨dx, ha⟩, ⟨dy, hb⟩, bp, bq, hq, k⟩ := h
    refine ⟨_, pss_cons (ps_if (pt_cmpR op_eq (pe_fld (pv 1) rfl) pe_int (nomark _)) pss_never pss_nil)
      (pss_one (ps_ret (pe_make T.M_Number (ok_Number_init T) hr rfl T.g_Number (b_Number T) .nil pass0 (pa_cons (pe_op op_mulW (pe_fld (pv 0) rfl) (pe_fld (pv 1) rfl)) (pa_cons (pe_op op_mulW (pe_fld (pv 0) rfl) (pe_fld (pv 1) rfl)) pa_nil))))), ?_⟩
    refine ⟨_, rfl, b, _, dy, _, _, rfl, hb, T.cl_Number, T.n_Number_own_top, nf_top q, rfl, _, rfl, ?_⟩
    rw [dint_ne (num_ne hq)]
    refine iteF ?_
    refine ⟨_, rfl, a, _, dx, _, _, rfl, ha, T.cl_Number, T.n_Number_own_top, nf_top p, _, rfl, b, _, dy, _, _, rfl, hb, T.cl_Number, T.n_Number_own_bottom, nf_bot q, _, _, rfl, rfl, bdw bp.1 bq.den', ?_⟩
    refine ⟨_, rfl, a, _, dx, _, _, rfl, ha, T.cl_Number, T.n_Number_own_bottom, nf_bot p, _, rfl, b, _, dy, _, _, rfl, hb, T.cl_Number, T.n_Number_own_top, nf_top q, _, _, rfl, rfl, bdw bp.den' bq.1, ?_⟩
    intro x dz nx ndz nex
    refine ⟨x, dz, _, _, rfl, Int.mul_ne_zero (den_ne p) (num_ne hq), up_lt (imul_lt bp.den' bq.1) (by decide), upd_same, rfl, ?_⟩
    have e := made_num (C := A.c_Number) (p / q) nx ndz
    rw [← div_eq] at e
    exact k _ _ e.1 nx (by rw [← div_eq]; exact e.2)
end
/-! ### Number: is_less; Number(t) -/
theorem less_eq (p q : Rat) : decide (p.num * (q.den : Int) < q.num * (p.den : Int)) = decide (p < q) := decide_eq_decide.mpr (Rat.lt_iff p q).symm
section
variable {P : Program} {w : World} {K : PySem.W.Frag} {mg : Str → Option Value} {base : Heap} {A : Ad}
def spNumLess (C : Addr) : Sp := fun vs H Q _ => ∃ (a b : Addr) (p q : Rat), vs = [.ref a, .ref b] ∧ Num C H a p ∧ Num C H b q ∧ Bd 8000 p ∧ Bd 8000 q ∧ Q (.bl (decide (p < q))) H
theorem ok_Number_is_less (T : Txt K mg A) : FnOk P w K mg base CX0 1 A.f_Number_is_less A.d_Number_is_less ["self", "other"] (spNumLess A.c_Number) := by
  refine T.F_Number_is_less.ok sc_Number_is_less (fun vs H Q E h => ?_) (fun cdv B outer s H vs Q E hr h => ?_)
  · obtain ⟨a, b, p, q, rfl, _⟩ := h
    rfl
  · obtain ⟨a, b, p, q, rfl, ⟨dx, ha⟩, ⟨dy, hb⟩, bp, bq, k⟩ := h
    refine ⟨_, pss_one (ps_ret (pe_cmpR op_lt (pe_op op_mulW (pe_fld (pv 0) rfl) (pe_fld (pv 1) rfl)) (pe_op op_mulW (pe_fld (pv 1) rfl) (pe_fld (pv 0) rfl)) (nomark _))), ?_⟩
    refine ⟨_, rfl, a, _, dx, _, _, rfl, ha, T.cl_Number, T.n_Number_own_top, nf_top p, _, rfl, b, _, dy, _, _, rfl, hb, T.cl_Number, T.n_Number_own_bottom, nf_bot q, _, _, rfl, rfl, bdw bp.1 bq.den', ?_⟩
    refine ⟨_, rfl, b, _, dy, _, _, rfl, hb, T.cl_Number, T.n_Number_own_top, nf_top q, _, rfl, a, _, dx, _, _, rfl, ha, T.cl_Number, T.n_Number_own_bottom, nf_bot p, _, _, rfl, rfl, bdw bq.1 bp.den', _, _, rfl, rfl, ?_⟩
    show Q (.bl (decide (_ < _))) H
    rw [less_eq]
    exact k
/-- Number(t) -/
theorem b1_Number (T : Txt K mg A) : ∃ ds, Vals [V.int 1] ds ∧ Binds K A.d_Number_init ["self", "top", "bottom"] ds := by
  obtain ⟨ds, r, b⟩ := T.F_Number_init.binds1 (ps := ["self", "top", "bottom"]) 2 0 (by simp) rfl (fun T' kV dc pm an cd ct us its hu hi => by
    match us, hu, its, hi with
    | [u1, u2], _, [i1], _ => exact ⟨_, rfl, rfl⟩)
  exact ⟨ds, r, b⟩
end
/-! ### draws -/
/-- a pot at p, of which n numbers at most were drawn behind its own digits -/
def Pot (H : Hp) (p : Addr) (n : Nat) : Prop := ∃ own mix c : Int, H p = some (.lst [.int own, .int mix, .int c]) ∧ 0 ≤ own ∧ 0 ≤ mix ∧ mix < 2305843009213693921 ∧ 0 ≤ c ∧ c ≤ n
theorem Pot.mono {H : Hp} {p : Addr} {m n : Nat} (h : Pot H p m) (l : m ≤ n) : Pot H p n := by
  obtain ⟨own, mix, c, e, h1, h2, h3, h4, h5⟩ := h
  exact ⟨own, mix, c, e, h1, h2, h3, h4, by omega⟩
theorem Pot.same {H H' : Hp} {p : Addr} {n : Nat} (h : Pot H p n) (s : Same H H') : Pot H' p n := by
  obtain ⟨own, mix, c, e, h⟩ := h
  exact ⟨own, mix, c, s _ _ e, h⟩
/-- all but what stands at p is as it was -/
def SameBut (p : Addr) (H H' : Hp) : Prop := ∀ b o, H b = some o → b ≠ p → H' b = some o
theorem SameBut.refl (p : Addr) (H : Hp) : SameBut p H H := fun _ _ e _ => e
theorem SameBut.trans {p : Addr} {H H1 H2 : Hp} (a : SameBut p H H1) (b : SameBut p H1 H2) : SameBut p H H2 := fun c o e n => b c o (a c o e n) n
theorem SameBut.same {p : Addr} {H H1 H2 : Hp} (a : SameBut p H H1) (b : Same H1 H2) : SameBut p H H2 := fun c o e n => b c o (a c o e n)
theorem Same.but {H H1 : Hp} (p : Addr) (b : Same H H1) : SameBut p H H1 := fun c o e _ => b c o e
theorem but_upd {p : Addr} {H : Hp} {o : HO} : SameBut p H (upd H p o) := fun c u e n => by rw [upd_ne n]; exact e
theorem Num.but {C p : Addr} {H H' : Hp} {a : Addr} {q : Rat} (h : Num C H a q) (s : SameBut p H H') (hp : ∃ xs, H p = some (.lst xs)) : Num C H' a q := by
  obtain ⟨dx, e⟩ := h
  obtain ⟨xs, ep⟩ := hp
  exact ⟨dx, s _ _ e (ne_of e ep (by intro z; cases z))⟩
theorem tup_but {p a : Addr} {H H' : Hp} {ys : List V} (h : H a = some (.tup ys)) (s : SameBut p H H') (hp : ∃ xs, H p = some (.lst xs)) : H' a = some (.tup ys) := by
  obtain ⟨xs, ep⟩ := hp
  exact s _ _ h (ne_of h ep (by intro z; cases z))
theorem Pot.lst {H : Hp} {p : Addr} {n : Nat} (h : Pot H p n) : ∃ xs, H p = some (.lst xs) := by
  obtain ⟨own, mix, c, e, _⟩ := h
  exact ⟨_, e⟩
theorem prime_at (c : Int) (h : 0 ≤ c) : ∃ q : Int, atI [V.int 2147483647, V.int 2147483629, V.int 2147483587, V.int 2147483579, V.int 2147483563] (c % 5) = some (.int q) ∧ 0 < q ∧ q < 2 ^ 32 := by
  have h1 := Int.emod_nonneg c (show (5 : Int) ≠ 0 by decide)
  have h2 := Int.emod_lt_of_pos c (show (0 : Int) < 5 by decide)
  have h3 : c % 5 = 0 ∨ c % 5 = 1 ∨ c % 5 = 2 ∨ c % 5 = 3 ∨ c % 5 = 4 := by omega
  rcases h3 with e | e | e | e | e <;> rw [e]
  · exact ⟨_, rfl, by decide, by decide⟩
  · exact ⟨_, rfl, by decide, by decide⟩
  · exact ⟨_, rfl, by decide, by decide⟩
  · exact ⟨_, rfl, by decide, by decide⟩
  · exact ⟨_, rfl, by decide, by decide⟩
theorem at_mem {α : Type} {xs : List α} {i : Int} (h0 : 0 ≤ i) (h1 : i < xs.length) : ∃ v, atI xs i = some v ∧ v ∈ xs := by
  have hl : i.toNat < xs.length := by omega
  have e : ((i.toNat : Nat) : Int) = i := by omega
  have h := atI_nat (xs := xs) (j := i.toNat) (v := xs[i.toNat]) (by simp [hl])
  rw [e] at h
  exact ⟨_, h, List.getElem_mem hl⟩
theorem bit_lt (c : Bool) : -(2 ^ 64) < (if c = true then (1 : Int) else 0) ∧ (if c = true then (1 : Int) else 0) < 2 ^ 64 := by cases c <;> decide
theorem bit_nn (c : Bool) : 0 ≤ (if c = true then (1 : Int) else 0) := by cases c <;> decide
/-- the answer is an int, whichever way -/
theorem with_int {Q : VK} {te : TE} {σ : L2.St} {H : Hp} (h : (∀ i : Int, Q (.int i) H) → te σ H Q) (hq : ∀ i : Int, Q (.int i) H) : te σ H Q := h hq
theorem SameBut.free {p x : Addr} {H H' : Hp} (a : SameBut p H H') (hp : ∃ xs, H p = some (.lst xs)) (hq : ∃ xs, H' p = some (.lst xs)) (h : H' x = none) : H x = none := by
  cases e : H x with
  | none => rfl
  | some o =>
    by_cases n : x = p
    · obtain ⟨xs, ex⟩ := hq
      rw [n, ex] at h
      cases h
    · rw [a x o e n] at h
      cases h
section
variable {P : Program} {w : World} {K : PySem.W.Frag} {mg : Str → Option Value} {base : Heap} {A : Ad}
/-- _law_pot(script, k) -/
def spPot (K : PySem.W.Frag) : Sp := fun vs H Q _ => ∃ (a : Addr) (ns : List Int) (k : Int), vs = [.ref a, .int k] ∧ SqL K H a (ns.map V.int) ∧ 0 ≤ k ∧ k ≤ 100 ∧ ∀ p H', Same H H' → H p = none → Pot H' p 0 → Q (.ref p) H'
theorem ok_law_pot (T : Txt K mg A) : FnOk P w K mg base CX0 1 A.f_law_pot A.d_law_pot ["script", "k"] (spPot K) := by
  refine T.F_law_pot.ok sc_law_pot (fun vs H Q E h => ?_) (fun cdv B outer s H vs Q E hr h => ?_)
  · obtain ⟨a, ns, k, rfl, _⟩ := h
    rfl
  · obtain ⟨a, ns, k, rfl, hS, k0, k1, kq⟩ := h
    refine ⟨_, pss_cons (ps_set (i := 2) sc_law_pot.nd rfl (Or.inl rfl) (pe_ifExp (pt_cmpR op_lt (pv 1) (pe_callB call_len_seq (by rfl) T.z_len (by decide +kernel) (pa_cons (pv 0) pa_nil)) (nomark _))
        (pe_callTy call_int1 (by rfl) T.z_int (by decide +kernel) (pa_cons (pe_ix ix_list (pv 0) (pv 1) (fun _ _ => rfl)) pa_nil)) (pe_op op_add (pe_op op_mul pe_int (pv 1)) pe_int)))
      (pss_cons (ps_set (i := 3) sc_law_pot.nd rfl (Or.inl rfl) (pe_op op_mul (pe_op op_mod (pe_callTy call_int1 (by rfl) T.z_int (by decide +kernel) (pa_cons (pe_callB call_abs (by rfl) T.z_abs (by decide +kernel) (pa_cons (pv 2) pa_nil)) pa_nil))
          (pe_op op_powW (pe_op op_powW pe_int pe_int) pe_int)) (pe_callTy call_int1 (by rfl) T.z_int (by decide +kernel) (pa_cons (pe_cmpR op_ge (pe_callB call_abs (by rfl) T.z_abs (by decide +kernel) (pa_cons (pv 2) pa_nil)) (pe_op op_powW pe_int pe_int) (nomark _)) pa_nil))))
      (pss_one (ps_ret (pe_lst (pa_cons (pv 3) (pa_cons (pe_op op_mod (pe_callTy call_int1 (by rfl) T.z_int (by decide +kernel) (pa_cons (pe_op op_add (pe_op op_add (pe_op op_mul (pe_op op_mod (pe_callTy call_int1 (by rfl) T.z_int (by decide +kernel) (pa_cons (pv 2) pa_nil)) pe_int) pe_int)
          (pe_op op_mul (pe_op op_mul pe_int (pv 1)) (pv 1))) pe_int) pa_nil)) pe_int) (pa_cons pe_int pa_nil))))))), ?_⟩
    refine with_int (fun rest => ?_) (fun cell => ?_)
    · refine ⟨_, rfl, _, rfl, a, _, rfl, Or.inl hS, _, _, rfl, rfl, _, rfl, ?_⟩
      refine ite2 (fun e => ?_) (fun e => ?_)
      · have hk := of_decide_eq_true e
        have hk' : k < (ns.map V.int).length := hk
        obtain ⟨v, hv, hm⟩ := at_mem (xs := ns.map V.int) k0 hk'
        obtain ⟨n, _, rfl⟩ := List.mem_map.mp hm
        exact ⟨_, rfl, _, rfl, a, _, _, _, rfl, rfl, hS, hv, Or.inl ⟨n, rfl, rest n⟩⟩
      · exact ⟨_, rfl, _, _, rfl, rfl, Or.inl (by decide), _, _, rfl, rfl, rest _⟩
    · refine ⟨_, rfl, _, rfl, Or.inl ⟨_, rfl, _, _, rfl, rfl, ⟨by decide, by decide⟩, _, _, rfl, rfl, ⟨by decide, by decide +kernel⟩, _, _, rfl, rfl, Int.pow_pos (Int.pow_pos (by decide)), ?_⟩⟩
      refine ⟨_, rfl, _, rfl, _, _, rfl, rfl, ⟨by decide, by decide⟩, _, _, rfl, rfl, Or.inr ⟨_, rfl, _, _, rfl, rfl, Or.inr (bit_lt _), ?_⟩⟩
      refine ⟨_, rfl, _, rfl, Or.inl ⟨_, rfl, _, _, rfl, rfl, (by show (0 : Int) < 2305843009213693951; decide), _, _, rfl, rfl, Or.inr (by decide), _, rfl, _, _, rfl, rfl, Or.inl (by decide), _, rfl, _, _, rfl, rfl, Or.inr ⟨by omega, by omega⟩, _, _, rfl, rfl, _, _, rfl, rfl, Or.inl ⟨_, rfl, _, _, rfl, rfl, (by show (0 : Int) < 2305843009213693921; decide), ?_⟩⟩⟩
      refine ⟨by show 3 ≤ sizeLine; decide, fun p hp => ?_⟩
      refine kq p _ (same_new hp) hp ⟨_, _, _, upd_same, ?_, Int.emod_nonneg _ (by decide), Int.emod_lt_of_pos _ (by decide), Int.le_refl _, by decide⟩
      exact Int.mul_nonneg (Int.emod_nonneg _ (Int.ne_of_gt (Int.pow_pos (Int.pow_pos (by decide))))) (bit_nn _)
end
section
variable {P : Program} {w : World} {K : PySem.W.Frag} {mg : Str → Option Value} {base : Heap} {A : Ad}
/-- _law_take(pot, upto): some number from 0 to upto - 1 -/
def spTake : Sp := fun vs H Q _ => ∃ (p : Addr) (u : Int) (n : Nat), vs = [.ref p, .int u] ∧ 0 < u ∧ u.natAbs < 2 ^ 9000 ∧ Pot H p n ∧ n ≤ 100000 ∧ ∀ r H', 0 ≤ r → r < u → Pot H' p (n + 1) → SameBut p H H' → Q (.int r) H'
theorem ok_law_take (T : Txt K mg A) : FnOk P w K mg base CX0 1 A.f_law_take A.d_law_take ["pot", "upto"] spTake := by
  refine T.F_law_take.ok sc_law_take (fun vs H Q E h => ?_) (fun cdv B outer s H vs Q E hr h => ?_)
  · obtain ⟨p, u, n, rfl, _⟩ := h
    rfl
  · obtain ⟨p, u, n, rfl, u0, u1, ⟨own, mix, c, hp, o0, m0, m1, c0, c1⟩, hn, k⟩ := h
    refine ⟨_, pss_cons (ps_if (pt_cmpR op_gt (pe_ix ix_list (pv 0) pe_int (fun _ _ => rfl)) pe_int (nomark _))
        (pss_cons (ps_set (i := 2) sc_law_take.nd rfl (Or.inl rfl) (pe_op op_mod (pe_callTy call_int1 (by rfl) T.z_int (by decide +kernel) (pa_cons (pe_ix ix_list (pv 0) pe_int (fun _ _ => rfl)) pa_nil)) (pv 1)))
        (pss_cons (ps_asg (pe_op op_fdivG (pe_ix ix_list (pv 0) pe_int (fun _ _ => rfl)) (pv 1)) (pg_sub (pv 0) pe_int set_list))
        (pss_one (ps_ret (pv 2))))) pss_nil)
      (pss_cons (ps_asg (pe_op op_add (pe_ix ix_list (pv 0) pe_int (fun _ _ => rfl)) pe_int) (pg_sub (pv 0) pe_int set_list))
      (pss_cons (ps_set (i := 3) sc_law_take.nd rfl (Or.inl rfl) (pe_ix ix_list (pe_lst (pa_cons pe_int (pa_cons pe_int (pa_cons pe_int (pa_cons pe_int (pa_cons pe_int pa_nil))))))
          (pe_op op_mod (pe_callTy call_int1 (by rfl) T.z_int (by decide +kernel) (pa_cons (pe_ix ix_list (pv 0) pe_int (fun _ _ => rfl)) pa_nil)) pe_int) (fun _ _ => rfl)))
      (pss_cons (ps_set (i := 4) sc_law_take.nd rfl (Or.inl rfl) (pe_op op_mod (pe_callTy call_int1 (by rfl) T.z_int (by decide +kernel) (pa_cons (pe_op op_pow (pe_op op_add (pe_op op_add (pe_ix ix_list (pv 0) pe_int (fun _ _ => rfl))
          (pe_op op_mul (pe_op op_mul pe_int (pe_ix ix_list (pv 0) pe_int (fun _ _ => rfl))) (pe_ix ix_list (pv 0) pe_int (fun _ _ => rfl)))) pe_int) pe_int) pa_nil)) (pv 3)))
      (pss_one (ps_ret (pe_op op_mod (pe_callTy call_int1 (by rfl) T.z_int (by decide +kernel) (pa_cons (pe_op op_fdiv (pe_op op_mul (pv 4) (pe_op op_add (pe_op op_mod (pe_callTy call_int1 (by rfl) T.z_int (by decide +kernel) (pa_cons (pv 4) pa_nil)) pe_int)
          (pe_op op_mul pe_int (pe_ix ix_list (pv 0) pe_int (fun _ _ => rfl))))) pe_int) pa_nil)) (pv 1))))))), ?_⟩
    refine ⟨_, rfl, p, _, _, _, rfl, rfl, SqL.of hp, rfl, _, _, rfl, rfl, _, rfl, ?_⟩
    refine ite2 (fun e => ?_) (fun e => ?_)
    · have ho : 0 < own := of_decide_eq_true e
      refine ⟨_, rfl, p, _, _, _, rfl, rfl, SqL.of hp, rfl, Or.inl ⟨_, rfl, _, rfl, _, _, rfl, rfl, u0, ?_⟩⟩
      refine ⟨_, rfl, p, _, _, _, rfl, rfl, SqL.of hp, rfl, _, rfl, _, _, rfl, rfl, ⟨by omega, log2_lt (by decide) u1⟩, _, rfl, ?_⟩
      refine ⟨p, _, _, 0, rfl, rfl, hp, rfl, _, rfl, ?_⟩
      refine k _ _ (Int.emod_nonneg _ (by omega)) (Int.emod_lt_of_pos _ u0) ⟨_, _, _, upd_same, ?_, m0, m1, c0, by omega⟩ but_upd
      rw [Int.fdiv_eq_ediv_of_nonneg _ (by omega)]
      exact Int.ediv_nonneg o0 (by omega)
    · refine ⟨_, rfl, p, _, _, _, rfl, rfl, SqL.of hp, rfl, _, _, rfl, rfl, _, rfl, p, _, _, 2, rfl, rfl, hp, rfl, ?_⟩
      refine ⟨by show 5 ≤ sizeLine; decide, fun l hl => ?_⟩
      have npl : p ≠ l := ne_of_none upd_same hl
      have hp1 : ∀ {o : HO}, (upd (upd H p (.lst [.int own, .int mix, .int (c + 1)])) l o) p = some (.lst [.int own, .int mix, .int (c + 1)]) := by
        intro o
        rw [upd_ne npl]
        exact upd_same
      obtain ⟨pr, e1, e2, e3⟩ := prime_at (c + 1) (by omega)
      refine ⟨_, rfl, p, _, _, _, rfl, rfl, SqL.of hp1, rfl, Or.inl ⟨_, rfl, _, _, rfl, rfl, (by show (0 : Int) < 5; decide), l, _, _, _, rfl, rfl, SqL.of upd_same, e1, ?_⟩⟩
      have hc : (c + 1) * (c + 1) ≤ 100001 * 100001 := Int.mul_le_mul (by omega) (by omega) (by omega) (by decide)
      have hc' : 0 ≤ (c + 1) * (c + 1) := Int.mul_nonneg (by omega) (by omega)
      have hcc : 99961 * (c + 1) * (c + 1) = 99961 * ((c + 1) * (c + 1)) := Int.mul_assoc _ _ _
      refine ⟨_, rfl, p, _, _, _, rfl, rfl, SqL.of hp1, rfl, _, rfl, p, _, _, _, rfl, rfl, SqL.of hp1, rfl, _, _, rfl, rfl, Or.inl (by decide), _, rfl, p, _, _, _, rfl, rfl, SqL.of hp1, rfl, _, _, rfl, rfl, Or.inr ⟨by omega, by omega⟩, _, _, rfl, rfl, _, _, rfl, rfl,
        _, _, rfl, rfl, ⟨by decide, by decide, by omega⟩, Or.inl ⟨_, rfl, _, rfl, _, _, rfl, rfl, e2, ?_⟩⟩
      have n0 := Int.emod_nonneg (((mix + 99961 * (c + 1) * (c + 1) + 47) ^ (3 : Int).toNat)) (show pr ≠ 0 by omega)
      have n1 := Int.emod_lt_of_pos (((mix + 99961 * (c + 1) * (c + 1) + 47) ^ (3 : Int).toNat)) e2
      refine ⟨_, rfl, _, rfl, Or.inl ⟨_, rfl, _, _, rfl, rfl, (by show (0 : Int) < 10009; decide), _, rfl, p, _, _, _, rfl, rfl, SqL.of hp1, rfl, _, _, rfl, rfl, Or.inl (by decide), _, _, rfl, rfl, _, _, rfl, rfl, Or.inl ⟨by omega, by omega⟩, _, _, rfl, rfl, ⟨by decide, by decide⟩,
        Or.inl ⟨_, rfl, _, rfl, _, _, rfl, rfl, u0, ?_⟩⟩⟩
      refine k _ _ (Int.emod_nonneg _ (by omega)) (Int.emod_lt_of_pos _ u0) ⟨_, _, _, hp1, o0, m0, m1, by omega, by omega⟩ fun b o eb nb => ?_
      have hb2 : (upd H p (.lst [.int own, .int mix, .int (c + 1)])) b = some o := by rw [upd_ne nb]; exact eb
      rw [upd_ne (ne_of_none hb2 hl)]
      exact hb2
end
section
variable {P : Program} {w : World} {K : PySem.W.Frag} {mg : Str → Option Value} {base : Heap} {A : Ad}
/-- _law_of(pot, some): one of a list's items -/
def spOf : Sp := fun vs H Q _ => ∃ (p l : Addr) (xs : List V) (n : Nat), vs = [.ref p, .ref l] ∧ H l = some (.lst xs) ∧ l ≠ p ∧ xs ≠ [] ∧ xs.length ≤ 1000 ∧ Pot H p n ∧ n ≤ 100000 ∧ ∀ v H', v ∈ xs → Pot H' p (n + 1) → SameBut p H H' → Q v H'
theorem ok_law_of (T : Txt K mg A) : FnOk P w K mg base CX0 2 A.f_law_of A.d_law_of ["pot", "some"] spOf := by
  refine T.F_law_of.ok sc_law_of (fun vs H Q E h => ?_) (fun cdv B outer s H vs Q E hr h => ?_)
  · obtain ⟨p, l, xs, n, rfl, _⟩ := h
    rfl
  · obtain ⟨p, l, xs, n, rfl, hl, nlp, ne, hlen, hP, hn, k⟩ := h
    refine ⟨_, pss_one (ps_ret (pe_ix ix_list (pv 1) (pe_call (ok_law_take T) hr rfl T.g_law_take T.F_law_take.kp T.b_law_take .nil pass0 (pa_cons (pv 0) (pa_cons (pe_callB call_len_seq (by rfl) T.z_len (by decide +kernel) (pa_cons (pv 1) pa_nil)) pa_nil))) (fun _ _ => rfl))), ?_⟩
    have h0 : 0 < xs.length := List.length_pos_iff.mpr ne
    refine ⟨_, rfl, _, rfl, _, rfl, l, _, rfl, Or.inl (SqL.of hl), p, _, n, rfl, (by omega), ?_, hP, hn, fun r H' r0 r1 hP' sb => ?_⟩
    · have : ((xs.length : Int)).natAbs < 2 ^ 10 := by omega
      exact up_lt this (by decide)
    · obtain ⟨v, hv, hm⟩ := at_mem r0 r1
      exact ⟨l, _, _, _, rfl, rfl, SqL.of (sb _ _ hl nlp), hv, k v H' hm hP' sb⟩
end
/-! ### the law's own fractions -/
/-- a pair of ints at r -/
structure Pr (H : Hp) (r : Addr) (t b : Int) (n : Nat) : Prop where
  at_ : H r = some (.tup [.int t, .int b])
  lt : t.natAbs < 2 ^ n
  pos : 0 < b
  lb : b.natAbs < 2 ^ n
theorem Pr.but {p r : Addr} {H H' : Hp} {t b : Int} {n : Nat} (h : Pr H r t b n) (s : SameBut p H H') (hp : ∃ xs, H p = some (.lst xs)) : Pr H' r t b n := ⟨tup_but h.at_ s hp, h.lt, h.pos, h.lb⟩
theorem Pr.same {r : Addr} {H H' : Hp} {t b : Int} {n : Nat} (h : Pr H r t b n) (s : Same H H') : Pr H' r t b n := ⟨s _ _ h.at_, h.lt, h.pos, h.lb⟩
theorem Pr.bd {r : Addr} {H : Hp} {t b : Int} {n : Nat} (h : Pr H r t b n) : Bd n (Rat.divInt t b) := Bd.mk' (Int.ne_of_gt h.pos) h.lt h.lb
def BI (n : Nat) (v : V) : Prop := ∃ t : Int, v = .int t ∧ t.natAbs < 2 ^ n
def BP (n : Nat) (v : V) : Prop := ∃ t : Int, v = .int t ∧ 0 < t ∧ t.natAbs < 2 ^ n
/-! ### one turn of the law -/
theorem same_mut {H0 H : Hp} {D : Addr} {o : HO} (s : Same H0 H) (h : H0 D = none) : Same H0 (upd H D o) := fun b u e => by
  rw [upd_ne (ne_of_none e h)]
  exact s b u e
theorem Num.upl {C D a : Addr} {H : Hp} {q : Rat} {xs : List V} {o : HO} (h : Num C H a q) (hD : H D = some (.lst xs)) : Num C (upd H D o) a q := h.but but_upd ⟨_, hD⟩
theorem memq {α : Type} {xs : List α} {i : Nat} {v : α} {R : α → Prop} (h : xs[i]? = some v) (hR : ∀ x ∈ xs, R x) : R v := hR v (List.mem_of_getElem? h)
theorem yes_of {σ : L2.St} {H : Hp} {Q : Bool → Hp → Prop} (h : Q true H) : tYes σ H Q := h
theorem get_nil {R : Prop} {j : Nat} {a : Addr} (h : ([] : List Addr)[j]? = some a) : R := by simp at h
theorem get_snoc {α : Type} {xs : List α} {y v : α} {j : Nat} (h : (xs ++ [y])[j]? = some v) : xs[j]? = some v ∨ (j = xs.length ∧ v = y) := by
  by_cases hj : j < xs.length
  · rw [List.getElem?_append_left hj] at h
    exact .inl h
  · rw [List.getElem?_append_right (by omega)] at h
    have : j - xs.length = 0 := by
      rcases Nat.eq_zero_or_pos (j - xs.length) with e | e
      · exact e
      · rw [List.getElem?_eq_none (by simpa using (show 1 ≤ j - xs.length from e))] at h
        cases h
    rw [this] at h
    exact .inr ⟨by omega, (Option.some.inj h).symm⟩
theorem get_map {xs : List Addr} {i : Nat} {v : V} (h : (xs.map V.ref)[i]? = some v) : ∃ a, xs[i]? = some a ∧ v = .ref a := by
  rw [List.getElem?_map] at h
  cases e : xs[i]? with
  | none => rw [e] at h; cases h
  | some a => rw [e] at h; exact ⟨a, rfl, (Option.some.inj h).symm⟩
theorem iteT' {c : Bool} {A B : Prop} (hc : c = true) (h : A) : if c = true then A else B := by
  rw [if_pos hc]
  exact h
theorem iteF' {c : Bool} {A B : Prop} (hc : c = false) (h : B) : if c = true then A else B := by
  rw [hc, if_neg Bool.false_ne_true]
  exact h
/-! ### whole(n) -/
section
variable {P : Program} {w : World} {K : PySem.W.Frag} {mg : Str → Option Value} {base : Heap} {A : Ad}
def spWhole (A : Ad) : Sp := fun vs H Q _ => ∃ n : Int, vs = [.int n] ∧ ∀ x H', Same H H' → H x = none → Num A.c_Number H' x (Rat.divInt n 1) → Q (.ref x) H'
theorem ok_whole (T : Txt K mg A) : FnOk P w K mg base CX0 4 A.f_whole A.d_whole ["count"] (spWhole A) := by
  refine T.F_whole.ok sc_whole (fun vs H Q E h => ?_) (fun cdv B outer s H vs Q E hr h => ?_)
  · obtain ⟨n, rfl, _⟩ := h
    rfl
  · obtain ⟨n, rfl, k⟩ := h
    have hr3 : Room 3 _ := hr.mono (by decide)
    obtain ⟨_, r1Number, b1Number⟩ := b1_Number T
    refine ⟨_, (pss_one (ps_ret (pe_make T.M_Number (ok_Number_init T) hr3 rfl T.g_Number b1Number r1Number pass0 (pa_cons (pv 0) pa_nil)))), ?_⟩
    refine ⟨_, rfl, ?_⟩
    intro x dx nx ndx nex
    refine ⟨x, dx, n, 1, rfl, by decide, up_lt (n := 9000) (show (1 : Int).natAbs < 2 ^ 1 by decide) (by decide), upd_same, rfl, ?_⟩
    exact k x _ (made_num (C := A.c_Number) (Rat.divInt n 1) nx ndx).1 nx (made_num (C := A.c_Number) (Rat.divInt n 1) nx ndx).2
end
/-! ### Stretch -/
def sf (lo hi mi : Addr) (b1 b2 : Bool) : List (Str × V) := [("own_low", .ref lo), ("own_high", .ref hi), ("includes_low", .bl b1), ("includes_high", .bl b2), ("own_middle", .ref mi)]
theorem sf_own_low (lo hi mi : Addr) (b1 b2 : Bool) : (sf lo hi mi b1 b2).lookup ("own_low" : Str) = some (.ref lo) := by
  simp [sf, List.lookup]
theorem sf_own_high (lo hi mi : Addr) (b1 b2 : Bool) : (sf lo hi mi b1 b2).lookup ("own_high" : Str) = some (.ref hi) := by
  have h0 : (("own_high" : Str) == ("own_low" : Str)) = false := by decide +kernel
  simp [sf, List.lookup, h0]
theorem sf_includes_low (lo hi mi : Addr) (b1 b2 : Bool) : (sf lo hi mi b1 b2).lookup ("includes_low" : Str) = some (.bl b1) := by
  have h0 : (("includes_low" : Str) == ("own_low" : Str)) = false := by decide +kernel
  have h1 : (("includes_low" : Str) == ("own_high" : Str)) = false := by decide +kernel
  simp [sf, List.lookup, h0, h1]
theorem sf_includes_high (lo hi mi : Addr) (b1 b2 : Bool) : (sf lo hi mi b1 b2).lookup ("includes_high" : Str) = some (.bl b2) := by
  have h0 : (("includes_high" : Str) == ("own_low" : Str)) = false := by decide +kernel
  have h1 : (("includes_high" : Str) == ("own_high" : Str)) = false := by decide +kernel
  have h2 : (("includes_high" : Str) == ("includes_low" : Str)) = false := by decide +kernel
  simp [sf, List.lookup, h0, h1, h2]
theorem sf_own_middle (lo hi mi : Addr) (b1 b2 : Bool) : (sf lo hi mi b1 b2).lookup ("own_middle" : Str) = some (.ref mi) := by
  have h0 : (("own_middle" : Str) == ("own_low" : Str)) = false := by decide +kernel
  have h1 : (("own_middle" : Str) == ("own_high" : Str)) = false := by decide +kernel
  have h2 : (("own_middle" : Str) == ("includes_low" : Str)) = false := by decide +kernel
  have h3 : (("own_middle" : Str) == ("includes_high" : Str)) = false := by decide +kernel
  simp [sf, List.lookup, h0, h1, h2, h3]
theorem sf_no (lo hi mi : Addr) (b1 b2 : Bool) {m : Str} (h : ∀ f ∈ (["own_low", "own_high", "includes_low", "includes_high", "own_middle"] : List Str), (m == f) = false) : (sf lo hi mi b1 b2).lookup m = none := by
  have h0 := h "own_low" (by simp)
  have h1 := h "own_high" (by simp)
  have h2 := h "includes_low" (by simp)
  have h3 := h "includes_high" (by simp)
  have h4 := h "own_middle" (by simp)
  simp [sf, List.lookup, h0, h1, h2, h3, h4]
theorem sf_put (lo hi mi : Addr) (b1 b2 : Bool) : (putF "own_middle" (.ref mi) (putF "includes_high" (.bl b2) (putF "includes_low" (.bl b1) (putF "own_high" (.ref hi) (putF "own_low" (.ref lo) []))))) = sf lo hi mi b1 b2 := by
  simp only [putF]
  repeat rw [if_neg (by decide +kernel)]
  rfl
/-- a stretch at a: its ends p and q, whether they belong to it -/
def Strh (A : Ad) (H : Hp) (a : Addr) (p q : Rat) (b1 b2 : Bool) : Prop := ∃ dx lo hi mi, H a = some (.ins A.c_Stretch dx (sf lo hi mi b1 b2)) ∧ Num A.c_Number H lo p ∧ Num A.c_Number H hi q ∧ Num A.c_Number H mi ((p + q) / 2)
theorem Strh.mono {A : Ad} {H H' : Hp} {a : Addr} {p q : Rat} {b1 b2 : Bool} (h : Strh A H a p q b1 b2) (s : Same H H') : Strh A H' a p q b1 b2 := by
  obtain ⟨dx, lo, hi, mi, e, h1, h2, h3⟩ := h
  exact ⟨dx, lo, hi, mi, s _ _ e, h1.mono s, h2.mono s, h3.mono s⟩
theorem num_ne_ins {C : Addr} {H : Hp} {a o D dx : Addr} {q : Rat} (h : Num C H a q) (e : H o = some (.ins D dx [])) : a ≠ o := fun z => by
  obtain ⟨dy, h⟩ := h
  rw [z, e] at h
  injection h with h
  injection h with _ _ h
  cases h
theorem Num.upn {C : Addr} {H : Hp} {a o : Addr} {q : Rat} {u : HO} (h : Num C H a q) (n : a ≠ o) : Num C (upd H o u) a q := by
  obtain ⟨dy, e⟩ := h
  exact ⟨dy, by rw [upd_ne n]; exact e⟩
theorem half_eq (p q : Rat) : (p + q) / Rat.divInt 2 1 = (p + q) / 2 := by
  rw [show Rat.divInt 2 1 = 2 by decide]
section
variable {P : Program} {w : World} {K : PySem.W.Frag} {mg : Str → Option Value} {base : Heap} {A : Ad}
def spStrI (A : Ad) : Sp := fun vs H Q _ => ∃ (o dx lo hi : Addr) (p q : Rat) (b1 b2 : Bool), vs = [.ref o, .ref lo, .ref hi, .bl b1, .bl b2] ∧ Num A.c_Number H lo p ∧ Num A.c_Number H hi q ∧ Bd 1000 p ∧ Bd 1000 q ∧ (p < q ∨ (p = q ∧ b1 = true ∧ b2 = true)) ∧
  H o = some (.ins A.c_Stretch dx []) ∧ ∀ mi H', SameBut o H H' → H' o = some (.ins A.c_Stretch dx (sf lo hi mi b1 b2)) → Num A.c_Number H' mi ((p + q) / 2) → Q .non H'
theorem ok_Stretch_init (T : Txt K mg A) : FnOk P w K mg base CX0 6 A.f_Stretch_init A.d_Stretch_init ["self", "low", "high", "has_low", "has_high"] (spStrI A) := by
  refine T.F_Stretch_init.ok sc_Stretch_init (fun vs H Q E h => ?_) (fun cdv B outer s H vs Q E hr h => ?_)
  · obtain ⟨o, dx, lo, hi, p, q, b1, b2, rfl, _⟩ := h
    rfl
  · obtain ⟨o, dx, lo, hi, p, q, b1, b2, rfl, hp, hq, bp, bq, good, ho, k⟩ := h
    have nlo := num_ne_ins hp ho
    have nhi := num_ne_ins hq ho
    have hr1 : Room 1 _ := hr.mono (by decide)
    have hr4 : Room 4 _ := hr.mono (by decide)
    refine ⟨_, (pss_cons (ps_if (PW.pt (pw_or (pt_not (pt_val (pe_callB call_isi (by rfl) T.z_isinstance (by decide +kernel) (pa_cons (pv 1) (pa_cons (pe_glob (v := .ref A.c_Number) (by rfl) T.g_Number rfl) pa_nil))))) (pw_or1 (pt_not (pt_val (pe_callB call_isi (by rfl) T.z_isinstance (by decide +kernel) (pa_cons (pv 2) (pa_cons (pe_glob (v := .ref A.c_Number) (by rfl) T.g_Number rfl) pa_nil)))))))) (pss_one ps_never) pss_nil)
      (pss_cons (ps_if (PW.pt (pw_or (pt_not (pt_val (pe_callB call_isi (by rfl) T.z_isinstance (by decide +kernel) (pa_cons (pv 3) (pa_cons (pe_bltn (v := .ty "bool") (by rfl) T.z_bool (by decide +kernel) rfl) pa_nil))))) (pw_or1 (pt_not (pt_val (pe_callB call_isi (by rfl) T.z_isinstance (by decide +kernel) (pa_cons (pv 4) (pa_cons (pe_bltn (v := .ty "bool") (by rfl) T.z_bool (by decide +kernel) rfl) pa_nil)))))))) (pss_one ps_never) pss_nil)
      (Evl.pss_cut (ps_if (PW.pt (pw_or (pt_val (pe_meth (pv 2) T.cl_Number T.m_Number_is_less (ok_Number_is_less T) hr1 T.b_Number_is_less .nil pass0 (pa_cons (pv 1) pa_nil))) (pw_or1 (PW.pt (pw_and (pt_cmpR (opOwnEq K (ok_Number_eq T) T.b_Number_eq T.m_Number_eq.at_ T.m_Number_eq.fn hr1 pass0) (pv 1) (pv 2) (nomark _)) (pw_and1 (pt_not (PW.pt (pw_and (pt_val (pv 3)) (pw_and1 (pt_val (pv 4)))))))))))) (pss_one ps_never) pss_nil)
      (pss_cons (ps_fld (pv 0) (pv 1) rfl)
      (pss_cons (ps_fld (pv 0) (pv 2) rfl)
      (pss_cons (ps_fld (pv 0) (pv 3) rfl)
      (pss_cons (ps_fld (pv 0) (pv 4) rfl)
      (pss_one (ps_fld (pv 0) (pe_meth (pe_op (op_own2 (ok_Number_add T) T.b_Number_add T.m_Number_add.at_ T.m_Number_add.fn T.sf_Number hr4 pass0) (pv 1) (pv 2)) T.cl_Number T.m_Number_divided_by (ok_Number_divided_by T) hr4 T.b_Number_divided_by .nil pass0 (pa_cons (pe_call (ok_whole T) hr4 rfl T.g_whole T.F_whole.kp T.b_whole .nil pass0 (pa_cons pe_int pa_nil)) pa_nil)) rfl))))))))), ?_⟩
    refine ⟨_, rfl, _, _, _, _, true, rfl, .own _, .base (.ins hp.choose_spec T.cl_Number T.ca_Number T.cn T.ct T.cm_Number), T.kit_NumNum, true, rfl, ?_⟩
    refine iteF' rfl ?_
    refine ⟨_, rfl, _, _, _, _, true, rfl, .own _, .base (.ins hq.choose_spec T.cl_Number T.ca_Number T.cn T.ct T.cm_Number), T.kit_NumNum, true, rfl, ?_⟩
    refine iteF' rfl ?_
    refine ⟨_, rfl, _, _, _, _, true, rfl, .ty "bool", .base (.bl _), T.kit_blbl, true, rfl, ?_⟩
    refine iteF' rfl ?_
    refine ⟨_, rfl, _, _, _, _, true, rfl, .ty "bool", .base (.bl _), T.kit_blbl, true, rfl, ?_⟩
    refine iteF' rfl ?_
    refine ⟨fun σ' H' => σ' = [some (.ref o), some (.ref lo), some (.ref hi), some (.bl b1), some (.bl b2)] ∧ H = H', ?_, ?_⟩
    · refine ⟨_, rfl, hi, _, _, rfl, hq.choose_spec, nf_no _ (by decide +kernel) (by decide +kernel), _, rfl, hi, lo, q, p, rfl, hq, hp, bq.mono (by decide), bp.mono (by decide), _, rfl, ?_⟩
      have nlt : decide (q < p) = false := decide_eq_false (by rcases good with h | ⟨h, _⟩ <;> grind)
      refine iteF' nlt ?_
      refine ⟨_, rfl, _, rfl, lo, _, _, _, rfl, hp.choose_spec, .base (.ins hq.choose_spec T.cl_Number T.ca_Number T.cn T.ct T.cm_Number), (by simp [PySem.W.notFirst]), lo, hi, p, q, rfl, hp, hq, _, rfl, ?_⟩
      refine ite2 (fun h => ?_) (fun h => ?_)
      · have h := of_decide_eq_true h
        rcases good with g | ⟨_, rfl, rfl⟩
        · grind
        · refine ⟨_, rfl, _, rfl, ?_⟩
          refine iteT' rfl ?_
          refine ⟨_, rfl, _, rfl, ?_⟩
          exact iteF' rfl ⟨rfl, rfl⟩
      · exact iteF' rfl ⟨rfl, rfl⟩
    rintro σ' H' ⟨rfl, rfl⟩
    refine ⟨_, rfl, _, rfl, o, A.c_Stretch, dx, [], rfl, ho, T.cl_Stretch, T.n_Stretch_own_low, (by decide), ?_⟩
    dsimp only
    refine ⟨_, rfl, _, rfl, o, A.c_Stretch, dx, _, rfl, upd_same, T.cl_Stretch, T.n_Stretch_own_high, (by show 1 < 1000; decide), ?_⟩
    dsimp only
    rw [upd_upd]
    refine ⟨_, rfl, _, rfl, o, A.c_Stretch, dx, _, rfl, upd_same, T.cl_Stretch, T.n_Stretch_includes_low, (by show _ < 1000; simp only [putF]; rw [if_neg (by decide +kernel)]; show 2 < 1000; decide), ?_⟩
    dsimp only
    rw [upd_upd]
    refine ⟨_, rfl, _, rfl, o, A.c_Stretch, dx, _, rfl, upd_same, T.cl_Stretch, T.n_Stretch_includes_high, (by simp only [putF]; repeat rw [if_neg (by decide +kernel)]; show 3 < 1000; decide), ?_⟩
    dsimp only
    rw [upd_upd]
    generalize hf4 : putF "includes_high" (V.bl b2) (putF "includes_low" (V.bl b1) (putF "own_high" (V.ref hi) (putF "own_low" (V.ref lo) []))) = f4
    have l4 : f4.length < 1000 := by
      rw [← hf4]
      simp only [putF]
      repeat rw [if_neg (by decide +kernel)]
      show 4 < 1000
      decide
    have sb := but_upd (p := o) (H := H) (o := .ins A.c_Stretch dx f4)
    have hp1 := hp.upn (u := .ins A.c_Stretch dx f4) nlo
    have hq1 := hq.upn (u := .ins A.c_Stretch dx f4) nhi
    have eo : (upd H o (.ins A.c_Stretch dx f4)) o = some (.ins A.c_Stretch dx f4) := upd_same
    generalize upd H o (.ins A.c_Stretch dx f4) = H1 at *
    refine ⟨_, rfl, _, rfl, lo, _, _, hi, _, _, rfl, rfl, hp1.choose_spec, hq1.choose_spec, lo, hi, p, q, rfl, hp1, hq1, bp.mono (by decide), bq.mono (by decide), fun x H2 s2 n2 h2 => ?_⟩
    refine ⟨x, _, _, rfl, h2.choose_spec, nf_no _ (by decide +kernel) (by decide +kernel), 2, rfl, fun y H3 s3 n3 h3 => ?_⟩
    have b2' : Bd 2 (Rat.divInt 2 1) := ⟨by decide, by decide⟩
    refine ⟨x, y, p + q, Rat.divInt 2 1, rfl, h2.mono s3, h3, (bp.add bq).mono (by decide), b2'.mono (by decide), by decide, fun z H4 s4 n4 h4 => ?_⟩
    have s14 := (s2.trans s3).trans s4
    refine ⟨_, rfl, o, A.c_Stretch, dx, f4, rfl, s14 _ _ eo, T.cl_Stretch, T.n_Stretch_own_middle, l4, ?_⟩
    rw [half_eq] at h4
    have nz : z ≠ o := fun e => by
      rw [e] at n4
      have q4 := (s2.trans s3) _ _ eo
      rw [n4] at q4
      cases q4
    refine k z _ ((sb.same s14).trans but_upd) ?_ (h4.upn nz)
    rw [← hf4, sf_put, upd_same]
/-- a new stretch -/
theorem made_str {H H' : Hp} {x dx lo hi mi : Addr} {p q : Rat} {b1 b2 : Bool} (nx : H x = none) (ndx : H dx = none) (sb : SameBut x (upd (upd H dx (.own x)) x (.ins A.c_Stretch dx [])) H') (e : H' x = some (.ins A.c_Stretch dx (sf lo hi mi b1 b2))) (hp : Num A.c_Number H lo p) (hq : Num A.c_Number H hi q) (hm : Num A.c_Number H' mi ((p + q) / 2)) :
    Same H H' ∧ Strh A H' x p q b1 b2 := by
  have s : Same H H' := fun b o h => sb b o (by rw [upd_ne (ne_of_none h nx), upd_ne (ne_of_none h ndx)]; exact h) (ne_of_none h nx)
  exact ⟨s, dx, lo, hi, mi, e, hp.mono s, hq.mono s, hm⟩
end
/-! ### Stretch: its middle, what lies in it, == -/
theorem sgn1 (p u : Rat) : (u.num * (p.den : Int) - p.num * (u.den : Int) < 0) ↔ u < p := by
  rw [Rat.lt_iff]
  omega
theorem sgn2 (p u : Rat) : (0 < u.num * (p.den : Int) - p.num * (u.den : Int)) ↔ p < u := by
  rw [Rat.lt_iff]
  omega
/-- what the program works out -/
def inI (a b : Int) (b1 b2 : Bool) : Bool := !(decide (a < 0) || decide (b < 0)) && ((decide (0 < a) || b1) && (decide (0 < b) || b2))
/-- whether u lies between p and q -/
def inS (p q : Rat) (b1 b2 : Bool) (u : Rat) : Bool := (decide (p < u) || (decide (p = u) && b1)) && (decide (u < q) || (decide (u = q) && b2))
theorem inI_eq (p q u : Rat) (b1 b2 : Bool) : inI (u.num * (p.den : Int) - p.num * (u.den : Int)) (q.num * (u.den : Int) - u.num * (q.den : Int)) b1 b2 = inS p q b1 b2 u := by
  have h1 := sgn1 p u
  have h2 := sgn2 p u
  have h3 := sgn1 u q
  have h4 := sgn2 u q
  have d1 : decide (u.num * (p.den : Int) - p.num * (u.den : Int) < 0) = decide (u < p) := decide_eq_decide.mpr h1
  have d2 : decide (0 < u.num * (p.den : Int) - p.num * (u.den : Int)) = decide (p < u) := decide_eq_decide.mpr h2
  have d3 : decide (q.num * (u.den : Int) - u.num * (q.den : Int) < 0) = decide (q < u) := decide_eq_decide.mpr h3
  have d4 : decide (0 < q.num * (u.den : Int) - u.num * (q.den : Int)) = decide (u < q) := decide_eq_decide.mpr h4
  unfold inI inS
  rw [d1, d2, d3, d4]
  clear h1 h2 h3 h4 d1 d2 d3 d4
  by_cases c1 : p < u
  · have n1 : ¬ u < p := by grind
    have n2 : ¬ p = u := by grind
    by_cases c2 : u < q
    · have n3 : ¬ q < u := by grind
      simp [c1, c2, n1, n3]
    · by_cases c3 : u = q
      · subst c3
        simp [c1, n1]
      · have n3 : q < u := by grind
        simp [c1, c2, c3, n1, n3]
  · by_cases c0 : p = u
    · subst c0
      by_cases c2 : p < q
      · have n3 : ¬ q < p := by grind
        have n4 : ¬ p = q := by grind
        simp [c2, n3, n4]
      · by_cases c3 : p = q
        · subst c3
          simp
        · have n3 : q < p := by grind
          simp [c2, c3, n3]
    · have n1 : u < p := by grind
      simp [c1, c0, n1]
section
variable {P : Program} {w : World} {K : PySem.W.Frag} {mg : Str → Option Value} {base : Heap} {A : Ad}
theorem ok_Stretch_middle (T : Txt K mg A) : FnOk P w K mg base CX0 1 A.f_Stretch_middle A.d_Stretch_middle ["self"] (getSp A.c_Stretch "own_middle") := by
  refine T.F_Stretch_middle.ok sc_Stretch_middle (fun vs H Q E h => ?_) (fun cdv B outer s H vs Q E hr h => ?_)
  · obtain ⟨a, dx, fs, v, rfl, _⟩ := h
    rfl
  · obtain ⟨a, dx, fs, v, rfl, e, l, k⟩ := h
    exact ⟨_, pss_one (ps_ret (pe_fld (pv 0) rfl)), _, rfl, a, _, dx, fs, v, rfl, e, T.cl_Stretch, T.n_Stretch_own_middle, l, k⟩
def spStrIn (A : Ad) : Sp := fun vs H Q _ => ∃ (a c : Addr) (p q u : Rat) (b1 b2 : Bool), vs = [.ref a, .ref c] ∧ Strh A H a p q b1 b2 ∧ Num A.c_Number H c u ∧ Bd 4000 p ∧ Bd 4000 q ∧ Bd 4000 u ∧ Q (.bl (inS p q b1 b2 u)) H
theorem ok_Stretch_contains (T : Txt K mg A) : FnOk P w K mg base CX0 1 A.f_Stretch_contains A.d_Stretch_contains ["self", "s"] (spStrIn A) := by
  refine T.F_Stretch_contains.ok sc_Stretch_contains (fun vs H Q E h => ?_) (fun cdv B outer s H vs Q E hr h => ?_)
  · obtain ⟨a, c, p, q, u, b1, b2, rfl, _⟩ := h
    rfl
  · obtain ⟨a, c, p, q, u, b1, b2, rfl, ⟨dx, lo, hi, mi, ha, ⟨d1, hp⟩, ⟨d2, hq⟩, _⟩, ⟨d3, hu⟩, bp, bq, bu, k⟩ := h
    rw [← inI_eq] at k
    refine ⟨_, (pss_cons (ps_set (i := 2) sc_Stretch_contains.nd rfl (Or.inl rfl) (pe_op op_sub (pe_op op_mulW (pe_fld (pv 1) rfl) (pe_fld (pe_fld (pv 0) rfl) rfl)) (pe_op op_mulW (pe_fld (pe_fld (pv 0) rfl) rfl) (pe_fld (pv 1) rfl))))
      (pss_cons (ps_set (i := 3) sc_Stretch_contains.nd rfl (Or.inl rfl) (pe_op op_sub (pe_op op_mulW (pe_fld (pe_fld (pv 0) rfl) rfl) (pe_fld (pv 1) rfl)) (pe_op op_mulW (pe_fld (pv 1) rfl) (pe_fld (pe_fld (pv 0) rfl) rfl))))
      (pss_cons (ps_if (PW.pt (pw_or (pt_cmpR op_lt (pv 2) pe_int (nomark _)) (pw_or1 (pt_cmpR op_lt (pv 3) pe_int (nomark _))))) (pss_one (ps_ret pe_bl)) pss_nil)
      (pss_one (ps_ret (pe_and (pe_or (pe_cmpR op_gt (pv 2) pe_int (nomark _)) (pe_one (pe_fld (pv 0) rfl))) (pe_one (pe_or (pe_cmpR op_gt (pv 3) pe_int (nomark _)) (pe_one (pe_fld (pv 0) rfl)))))))))), ?_⟩
    refine ⟨_, rfl, c, _, d3, _, _, rfl, hu, T.cl_Number, T.n_Number_own_top, nf_top u, _, rfl, a, _, dx, _, _, rfl, ha, T.cl_Stretch, T.n_Stretch_own_low, sf_own_low lo hi mi b1 b2, lo, _, d1, _, _, rfl, hp, T.cl_Number, T.n_Number_own_bottom, nf_bot p, _, _, rfl, rfl, bdw bu.1 bp.den', _, rfl, a, _, dx, _, _, rfl, ha, T.cl_Stretch, T.n_Stretch_own_low, sf_own_low lo hi mi b1 b2, lo, _, d1, _, _, rfl, hp, T.cl_Number, T.n_Number_own_top, nf_top p, _, rfl, c, _, d3, _, _, rfl, hu, T.cl_Number, T.n_Number_own_bottom, nf_bot u, _, _, rfl, rfl, bdw bp.1 bu.den', _, _, rfl, rfl, ?_⟩
    refine stT (σ' := [some (.ref a), some (.ref c), some (.int (u.num * (p.den : Int) - p.num * (u.den : Int))), none]) rfl ?_
    refine ⟨_, rfl, a, _, dx, _, _, rfl, ha, T.cl_Stretch, T.n_Stretch_own_high, sf_own_high lo hi mi b1 b2, hi, _, d2, _, _, rfl, hq, T.cl_Number, T.n_Number_own_top, nf_top q, _, rfl, c, _, d3, _, _, rfl, hu, T.cl_Number, T.n_Number_own_bottom, nf_bot u, _, _, rfl, rfl, bdw bq.1 bu.den', _, rfl, c, _, d3, _, _, rfl, hu, T.cl_Number, T.n_Number_own_top, nf_top u, _, rfl, a, _, dx, _, _, rfl, ha, T.cl_Stretch, T.n_Stretch_own_high, sf_own_high lo hi mi b1 b2, hi, _, d2, _, _, rfl, hq, T.cl_Number, T.n_Number_own_bottom, nf_bot q, _, _, rfl, rfl, bdw bu.1 bq.den', _, _, rfl, rfl, ?_⟩
    refine stT (σ' := [some (.ref a), some (.ref c), some (.int (u.num * (p.den : Int) - p.num * (u.den : Int))), some (.int (q.num * (u.den : Int) - u.num * (q.den : Int)))]) rfl ?_
    generalize u.num * (p.den : Int) - p.num * (u.den : Int) = I at *
    generalize q.num * (u.den : Int) - u.num * (q.den : Int) = J at *
    refine ⟨_, rfl, _, _, rfl, rfl, _, rfl, ?_⟩
    refine ite2 (fun h1 => ?_) (fun h1 => ?_)
    · have e : inI I J b1 b2 = false := by
        unfold inI
        rw [h1]
        simp
      rw [e] at k
      exact iteT' rfl k
    refine ⟨_, rfl, _, _, rfl, rfl, _, rfl, ?_⟩
    refine ite2 (fun h2 => ?_) (fun h2 => ?_)
    · have e : inI I J b1 b2 = false := by
        unfold inI
        rw [h2]
        simp
      rw [e] at k
      exact k
    have e : inI I J b1 b2 = ((decide (0 < I) || b1) && (decide (0 < J) || b2)) := by
      unfold inI
      rw [Bool.eq_false_iff.mpr h1, Bool.eq_false_iff.mpr h2]
      simp
    rw [e] at k
    refine ⟨_, rfl, _, _, rfl, rfl, _, rfl, ?_⟩
    refine ite2 (fun h3 => ?_) (fun h3 => ?_)
    · refine ⟨_, rfl, ?_⟩
      refine iteT' rfl ?_
      have h6 : (decide (0 < I) || b1) = true := by rw [h3]; rfl
      rw [h6, Bool.true_and] at k
      refine ⟨_, rfl, _, _, rfl, rfl, _, rfl, ?_⟩
      refine ite2 (fun h5 => ?_) (fun h5 => ?_)
      · rw [h5, Bool.true_or] at k
        exact k
      · rw [Bool.eq_false_iff.mpr h5, Bool.false_or] at k
        exact ⟨_, rfl, a, _, dx, _, _, rfl, ha, T.cl_Stretch, T.n_Stretch_includes_high, sf_includes_high lo hi mi b1 b2, k⟩
    · refine ⟨_, rfl, a, _, dx, _, _, rfl, ha, T.cl_Stretch, T.n_Stretch_includes_low, sf_includes_low lo hi mi b1 b2, _, rfl, ?_⟩
      refine ite2 (fun h4 => ?_) (fun h4 => ?_)
      · have h6 : (decide (0 < I) || b1) = true := by rw [h4, Bool.or_true]
        rw [h6, Bool.true_and] at k
        refine ⟨_, rfl, _, _, rfl, rfl, _, rfl, ?_⟩
        refine ite2 (fun h5 => ?_) (fun h5 => ?_)
        · rw [h5, Bool.true_or] at k
          exact k
        · rw [Bool.eq_false_iff.mpr h5, Bool.false_or] at k
          exact ⟨_, rfl, a, _, dx, _, _, rfl, ha, T.cl_Stretch, T.n_Stretch_includes_high, sf_includes_high lo hi mi b1 b2, k⟩
      · rw [Bool.eq_false_iff.mpr h3, Bool.eq_false_iff.mpr h4] at k
        exact k
/-- == of a stretch and any value -/
def spStrEq (K : PySem.W.Frag) (A : Ad) : Sp := fun vs H Q _ => ∃ (a : Addr) (p q : Rat) (b1 b2 : Bool) (y : V), vs = [.ref a, y] ∧ Strh A H a p q b1 b2 ∧
  ((∃ c p' q' c1 c2, y = .ref c ∧ Strh A H c p' q' c1 c2 ∧ Q (.bl ((decide (p = p') && decide (q = q')) && (decide (b1 = c1) && decide (b2 = c2)))) H) ∨ (∃ ty, TyX K H y ty ∧ PySem.W.kitOne K ty (.ref A.c_Stretch) = some false ∧ Q (.bl false) H))
theorem dbl (b c : Bool) : decide (V.bl b = V.bl c) = decide (b = c) := decide_eq_decide.mpr ⟨fun e => by injection e, fun e => by rw [e]⟩
theorem ok_Stretch_eq (T : Txt K mg A) : FnOk P w K mg base CX0 3 A.f_Stretch_eq A.d_Stretch_eq ["self", "other"] (spStrEq K A) := by
  refine T.F_Stretch_eq.ok sc_Stretch_eq (fun vs H Q E h => ?_) (fun cdv B outer s H vs Q E hr h => ?_)
  · obtain ⟨a, p, q, b1, b2, y, rfl, _⟩ := h
    rfl
  · obtain ⟨a, p, q, b1, b2, y, rfl, ⟨dx, lo, hi, mi, ha, hp, hq, _⟩, h⟩ := h
    have hr2 : Room 2 _ := hr.mono (by decide)
    refine ⟨_, (pss_cons (ps_if (PW.pt (pw_or (pt_not (pt_val (pe_callB call_isi (by rfl) T.z_isinstance (by decide +kernel) (pa_cons (pv 1) (pa_cons (pe_glob (v := .ref A.c_Stretch) (by rfl) T.g_Stretch rfl) pa_nil))))) (pw_or (pt_cmpR (op_ownNe K (ok_Number_eq T) T.b_Number_eq T.ne_Number T.cm_Number T.m_Number_eq.at_ T.m_Number_eq.fn hr2 pass0) (pe_fld (pv 0) rfl) (pe_fld (pv 1) rfl) (nomark _)) (pw_or1 (pt_cmpR (op_ownNe K (ok_Number_eq T) T.b_Number_eq T.ne_Number T.cm_Number T.m_Number_eq.at_ T.m_Number_eq.fn hr2 pass0) (pe_fld (pv 0) rfl) (pe_fld (pv 1) rfl) (nomark _)))))) (pss_one (ps_ret pe_bl)) pss_nil)
      (pss_one (ps_ret (pe_and (pe_cmpR op_eq (pe_fld (pv 0) rfl) (pe_fld (pv 1) rfl) (nomark _)) (pe_one (pe_cmpR op_eq (pe_fld (pv 0) rfl) (pe_fld (pv 1) rfl) (nomark _))))))), ?_⟩
    rcases h with ⟨c, p', q', c1, c2, rfl, ⟨dy, lo', hi', mi', hc, hp', hq', _⟩, k⟩ | ⟨ty, hty, hk, k⟩
    · refine ⟨_, rfl, _, _, _, _, true, rfl, .own _, .base (.ins hc T.cl_Stretch T.ca_Stretch T.cn T.ct T.cm_Stretch), T.kit_StrStr, true, rfl, ?_⟩
      refine iteF' rfl ?_
      refine ⟨_, rfl, a, _, dx, _, _, rfl, ha, T.cl_Stretch, T.n_Stretch_own_low, sf_own_low lo hi mi b1 b2, _, rfl, c, _, dy, _, _, rfl, hc, T.cl_Stretch, T.n_Stretch_own_low, sf_own_low lo' hi' mi' c1 c2, lo, _, _, _, rfl, hp.choose_spec, .base (.ins hp'.choose_spec T.cl_Number T.ca_Number T.cn T.ct T.cm_Number), (by simp [PySem.W.notFirst]), lo, lo', p, p', rfl, hp, hp', _, rfl, _, rfl, ?_⟩
      by_cases e1 : p = p'
      · rw [decide_eq_true e1, Bool.true_and] at k
        refine iteF' (by rw [decide_eq_true e1]; rfl) ?_
        refine ⟨_, rfl, a, _, dx, _, _, rfl, ha, T.cl_Stretch, T.n_Stretch_own_high, sf_own_high lo hi mi b1 b2, _, rfl, c, _, dy, _, _, rfl, hc, T.cl_Stretch, T.n_Stretch_own_high, sf_own_high lo' hi' mi' c1 c2, hi, _, _, _, rfl, hq.choose_spec, .base (.ins hq'.choose_spec T.cl_Number T.ca_Number T.cn T.ct T.cm_Number), (by simp [PySem.W.notFirst]), hi, hi', q, q', rfl, hq, hq', _, rfl, _, rfl, ?_⟩
        by_cases e2 : q = q'
        · rw [decide_eq_true e2, Bool.true_and] at k
          refine iteF' (by rw [decide_eq_true e2]; rfl) ?_
          refine ⟨_, rfl, a, _, dx, _, _, rfl, ha, T.cl_Stretch, T.n_Stretch_includes_low, sf_includes_low lo hi mi b1 b2, _, rfl, c, _, dy, _, _, rfl, hc, T.cl_Stretch, T.n_Stretch_includes_low, sf_includes_low lo' hi' mi' c1 c2, rfl, _, rfl, ?_⟩
          rw [dbl]
          refine ite2 (fun e3 => ?_) (fun e3 => ?_)
          · rw [e3, Bool.true_and] at k
            refine ⟨_, rfl, a, _, dx, _, _, rfl, ha, T.cl_Stretch, T.n_Stretch_includes_high, sf_includes_high lo hi mi b1 b2, _, rfl, c, _, dy, _, _, rfl, hc, T.cl_Stretch, T.n_Stretch_includes_high, sf_includes_high lo' hi' mi' c1 c2, rfl, ?_⟩
            rw [dbl]
            exact k
          · rw [Bool.eq_false_iff.mpr e3, Bool.false_and] at k
            exact k
        · rw [decide_eq_false e2, Bool.false_and] at k
          exact iteT' (by rw [decide_eq_false e2]; rfl) k
      · rw [decide_eq_false e1, Bool.false_and, Bool.false_and] at k
        exact iteT' (by rw [decide_eq_false e1]; rfl) (iteT' rfl k)
    · refine ⟨_, rfl, _, _, _, _, false, rfl, .own _, hty, hk, false, rfl, ?_⟩
      exact iteT' rfl (iteT' rfl k)
end
/-! ### Line -/
def lf (p q : Addr) : List (Str × V) := [("own_base", .ref p), ("own_slope", .ref q)]
theorem lf_put (p q : Addr) : putF "own_slope" (.ref q) (putF "own_base" (.ref p) []) = lf p q := by
  show (if ("own_base" : Str) = "own_slope" then [(("own_slope" : Str), V.ref q)] else (("own_base" : Str), V.ref p) :: putF "own_slope" (.ref q) []) = lf p q
  rw [if_neg (by decide +kernel)]
  rfl
theorem lf_base (p q : Addr) : (lf p q).lookup ("own_base" : Str) = some (.ref p) := by simp [lf, List.lookup]
theorem lf_slope (p q : Addr) : (lf p q).lookup ("own_slope" : Str) = some (.ref q) := by
  have : (("own_slope" : Str) == ("own_base" : Str)) = false := by decide +kernel
  simp [lf, List.lookup, this]
theorem lf_no (p q : Addr) {m : Str} (h1 : (m == ("own_base" : Str)) = false) (h2 : (m == ("own_slope" : Str)) = false) : (lf p q).lookup m = none := by simp [lf, List.lookup, h1, h2]
/-- a line at a: the numbers b and s at p and q -/
structure Lin (A : Ad) (H : Hp) (a : Addr) (b s : Rat) : Prop where
  ex : ∃ dx p q, H a = some (.ins A.c_Line dx (lf p q)) ∧ Num A.c_Number H p b ∧ Num A.c_Number H q s
theorem Lin.mono {A : Ad} {H H' : Hp} {a : Addr} {b t : Rat} (h : Lin A H a b t) (s : Same H H') : Lin A H' a b t := by
  obtain ⟨dx, p, q, e, h1, h2⟩ := h.ex
  exact ⟨dx, p, q, s _ _ e, h1.mono s, h2.mono s⟩
section
variable {P : Program} {w : World} {K : PySem.W.Frag} {mg : Str → Option Value} {base : Heap} {A : Ad}
def spLineI (C : Addr) : Sp := fun vs H Q _ => ∃ (o dx p q : Addr), vs = [.ref o, .ref p, .ref q] ∧ H o = some (.ins C dx []) ∧ Q .non (upd H o (.ins C dx (lf p q)))
theorem ok_Line_init (T : Txt K mg A) : FnOk P w K mg base CX0 1 A.f_Line_init A.d_Line_init ["self", "base", "slope"] (spLineI A.c_Line) := by
  refine T.F_Line_init.ok sc_Line_init (fun vs H Q E h => ?_) (fun cdv B outer s H vs Q E hr h => ?_)
  · obtain ⟨o, dx, p, q, rfl, _⟩ := h
    rfl
  · obtain ⟨o, dx, p, q, rfl, hp, k⟩ := h
    refine ⟨_, pss_cons (ps_fld (pv 0) (pv 1) rfl) (pss_one (ps_fld (pv 0) (pv 2) rfl)), ?_⟩
    refine ⟨_, rfl, _, rfl, o, A.c_Line, dx, [], rfl, hp, T.cl_Line, T.n_Line_own_base, (by decide), ?_⟩
    refine ⟨_, rfl, _, rfl, o, A.c_Line, dx, _, rfl, upd_same, T.cl_Line, T.n_Line_own_slope, (by show 1 < 1000; decide), ?_⟩
    dsimp only
    rw [upd_upd, lf_put]
    exact k
/-- Line(p, q) gives a new line -/
theorem made_lin {H : Hp} {x dx p q : Addr} {b t : Rat} (hp : Num A.c_Number H p b) (hq : Num A.c_Number H q t) (nx : H x = none) (ndx : H dx = none) :
    Same H (upd (upd (upd H dx (.own x)) x (.ins A.c_Line dx [])) x (.ins A.c_Line dx (lf p q))) ∧ Lin A (upd (upd (upd H dx (.own x)) x (.ins A.c_Line dx [])) x (.ins A.c_Line dx (lf p q))) x b t :=
  ⟨same_made nx ndx, ⟨dx, p, q, upd_same, hp.mono (same_made nx ndx), hq.mono (same_made nx ndx)⟩⟩
end
section
variable {P : Program} {w : World} {K : PySem.W.Frag} {mg : Str → Option Value} {base : Heap} {A : Ad}
/-- line == any value: another line, or what is none -/
def spLineEq (K : PySem.W.Frag) (A : Ad) : Sp := fun vs H Q _ => ∃ (a : Addr) (b t : Rat) (y : V), vs = [.ref a, y] ∧ Lin A H a b t ∧
  ((∃ c b' t', y = .ref c ∧ Lin A H c b' t' ∧ Q (.bl (decide (b = b') && decide (t = t'))) H) ∨ (∃ ty, TyX K H y ty ∧ PySem.W.kitOne K ty (.ref A.c_Line) = some false ∧ Q (.bl false) H))
theorem ok_Line_eq (T : Txt K mg A) : FnOk P w K mg base CX0 2 A.f_Line_eq A.d_Line_eq ["self", "other"] (spLineEq K A) := by
  refine T.F_Line_eq.ok sc_Line_eq (fun vs H Q E h => ?_) (fun cdv B outer s H vs Q E hr h => ?_)
  · obtain ⟨a, b, t, y, rfl, _⟩ := h
    rfl
  · obtain ⟨a, b, t, y, rfl, ⟨dx, p, q, ha, ⟨d1, hp⟩, ⟨d2, hq⟩⟩, h⟩ := h
    have hr1 : Room 1 _ := hr.mono (by decide)
    refine ⟨_, pss_one (ps_ret (pe_and (pe_callB call_isi (by rfl) T.z_isinstance (by decide +kernel) (pa_cons (pv 1) (pa_cons (pe_glob (v := .ref A.c_Line) (by rfl) T.g_Line rfl) pa_nil)))
      (pe_and (pe_cmpR (op_ownEq (ok_Number_eq T) T.b_Number_eq T.m_Number_eq.at_ T.m_Number_eq.fn hr1 pass0) (pe_fld (pv 0) rfl) (pe_fld (pv 1) rfl) (nomark _)) (pe_one (pe_cmpR (op_ownEq (ok_Number_eq T) T.b_Number_eq T.m_Number_eq.at_ T.m_Number_eq.fn hr1 pass0) (pe_fld (pv 0) rfl) (pe_fld (pv 1) rfl) (nomark _)))))), ?_⟩
    rcases h with ⟨c, b', t', rfl, ⟨dx', p', q', hc, ⟨d1', hp'⟩, ⟨d2', hq'⟩⟩, k⟩ | ⟨ty, hty, hk, k⟩
    · refine ⟨_, rfl, _, _, _, _, true, rfl, .own _, .base (.ins hc T.cl_Line T.ca_Line T.cn T.ct T.cm_Line), T.kit_LinLin, true, rfl, ?_⟩
      refine iteT ?_
      refine ⟨_, rfl, a, _, dx, _, _, rfl, ha, T.cl_Line, T.n_Line_own_base, lf_base p q, _, rfl, c, _, dx', _, _, rfl, hc, T.cl_Line, T.n_Line_own_base, lf_base p' q', ?_⟩
      refine ⟨p, _, _, _, rfl, hp, .base (.ins hp' T.cl_Number T.ca_Number T.cn T.ct T.cm_Number), (by simp [PySem.W.notFirst]), p, p', b, b', rfl, ⟨_, hp⟩, ⟨_, hp'⟩, _, rfl, ?_⟩
      refine ite2 (fun e => ?_) (fun e => ?_)
      · rw [e, Bool.true_and] at k
        refine ⟨_, rfl, a, _, dx, _, _, rfl, ha, T.cl_Line, T.n_Line_own_slope, lf_slope p q, _, rfl, c, _, dx', _, _, rfl, hc, T.cl_Line, T.n_Line_own_slope, lf_slope p' q', ?_⟩
        exact ⟨q, _, _, _, rfl, hq, .base (.ins hq' T.cl_Number T.ca_Number T.cn T.ct T.cm_Number), (by simp [PySem.W.notFirst]), q, q', t, t', rfl, ⟨_, hq⟩, ⟨_, hq'⟩, k⟩
      · rw [Bool.eq_false_iff.mpr e, Bool.false_and] at k
        exact k
    · exact ⟨_, rfl, _, _, _, _, false, rfl, .own _, hty, hk, false, rfl, iteF k⟩
end
/-! ### Number == any value -/
section
variable {P : Program} {w : World} {K : PySem.W.Frag} {mg : Str → Option Value} {base : Heap} {A : Ad}
def spNumEqA (K : PySem.W.Frag) (A : Ad) : Sp := fun vs H Q _ => ∃ (a : Addr) (p : Rat) (y : V), vs = [.ref a, y] ∧ Num A.c_Number H a p ∧
  ((∃ b q, y = .ref b ∧ Num A.c_Number H b q ∧ Q (.bl (decide (p = q))) H) ∨ (∃ ty, TyX K H y ty ∧ PySem.W.kitOne K ty (.ref A.c_Number) = some false ∧ Q (.bl false) H))
theorem ok_Number_eqA (T : Txt K mg A) : FnOk P w K mg base CX0 1 A.f_Number_eq A.d_Number_eq ["self", "other"] (spNumEqA K A) := by
  refine T.F_Number_eq.ok sc_Number_eq (fun vs H Q E h => ?_) (fun cdv B outer s H vs Q E hr h => ?_)
  · obtain ⟨a, p, y, rfl, _⟩ := h
    rfl
  · obtain ⟨a, p, y, rfl, ⟨dx, ha⟩, h⟩ := h
    refine ⟨_, pss_one (ps_ret (pe_and (pe_callB call_isi (by rfl) T.z_isinstance (by decide +kernel) (pa_cons (pv 1) (pa_cons (pe_glob (v := .ref A.c_Number) (by rfl) T.g_Number rfl) pa_nil)))
      (pe_and (pe_cmpR op_eq (pe_fld (pv 0) rfl) (pe_fld (pv 1) rfl) (nomark _)) (pe_one (pe_cmpR op_eq (pe_fld (pv 0) rfl) (pe_fld (pv 1) rfl) (nomark _)))))), ?_⟩
    rcases h with ⟨b, q, rfl, ⟨dy, hb⟩, k⟩ | ⟨ty, hty, hk, k⟩
    · refine ⟨_, rfl, _, _, _, _, true, rfl, .own _, .base (.ins hb T.cl_Number T.ca_Number T.cn T.ct T.cm_Number), T.kit_NumNum, true, rfl, ?_⟩
      refine iteT ?_
      refine ⟨_, rfl, a, _, dx, _, _, rfl, ha, T.cl_Number, T.n_Number_own_top, nf_top p, _, rfl, b, _, dy, _, _, rfl, hb, T.cl_Number, T.n_Number_own_top, nf_top q, rfl, _, rfl, ?_⟩
      rw [rat_eq_dec] at k
      refine ite2 (fun h1 => ?_) (fun h1 => ?_)
      · rw [h1, Bool.true_and] at k
        exact ⟨_, rfl, a, _, dx, _, _, rfl, ha, T.cl_Number, T.n_Number_own_bottom, nf_bot p, _, rfl, b, _, dy, _, _, rfl, hb, T.cl_Number, T.n_Number_own_bottom, nf_bot q, rfl, k⟩
      · have h2 := Bool.eq_false_iff.mpr h1
        rw [h2, Bool.false_and] at k
        exact k
    · exact ⟨_, rfl, _, _, _, _, false, rfl, .own _, hty, hk, false, rfl, iteF k⟩
end
/-! ### k08: stretches of ends that are sixths -/
def Six (p : Rat) : Prop := ∃ n : Int, p = Rat.divInt n 6 ∧ -24 ≤ n ∧ n ≤ 24
def Good (p q : Rat) (b1 b2 : Bool) : Prop := p < q ∨ (p = q ∧ b1 = true ∧ b2 = true)
theorem six_mul {n : Int} : Rat.divInt n 6 * 6 = (n : Rat) := by
  rw [Rat.divInt_eq_div]
  exact Rat.div_mul_cancel (by decide)
theorem six_gap {p q : Rat} (hp : Six p) (hq : Six q) (h : p < q) : p + 1 / 6 ≤ q := by
  obtain ⟨m, rfl, _⟩ := hp
  obtain ⟨n, rfl, _⟩ := hq
  have e1 := six_mul (n := m)
  have e2 := six_mul (n := n)
  generalize Rat.divInt m 6 = x at *
  generalize Rat.divInt n 6 = y at *
  have h1 : (m : Rat) < (n : Rat) := by grind
  have h2 : m < n := Rat.intCast_lt_intCast.mp h1
  have h3 : ((m + 1 : Int) : Rat) ≤ (n : Rat) := Rat.intCast_le_intCast.mpr (by omega)
  rw [Rat.intCast_add] at h3
  have h4 : ((1 : Int) : Rat) = 1 := rfl
  grind
theorem inS_low {p q : Rat} {b1 b2 : Bool} (g : Good p q b1 b2) : inS p q b1 b2 p = b1 := by
  unfold inS
  rcases g with h | ⟨rfl, rfl, rfl⟩
  · have n1 : ¬ p < p := Rat.lt_irrefl
    simp [n1, h]
  · simp
theorem inS_high {p q : Rat} {b1 b2 : Bool} (g : Good p q b1 b2) : inS p q b1 b2 q = b2 := by
  unfold inS
  rcases g with h | ⟨rfl, rfl, rfl⟩
  · have n1 : ¬ q < q := Rat.lt_irrefl
    simp [n1, h]
  · simp
theorem inS_out {p q u : Rat} {b1 b2 : Bool} (h : u < p ∨ q < u) : inS p q b1 b2 u = false := by
  unfold inS
  rcases h with h | h
  · have n1 : ¬ p < u := by grind
    have n2 : ¬ p = u := by grind
    simp [n1, n2]
  · have n1 : ¬ u < q := by grind
    have n2 : ¬ u = q := by grind
    simp [n1, n2]
theorem inS_mid {p q u : Rat} {b1 b2 : Bool} (h1 : p < u) (h2 : u < q) : inS p q b1 b2 u = true := by
  unfold inS
  simp [h1, h2]
theorem inS_le {p q u : Rat} {b1 b2 : Bool} (h : inS p q b1 b2 u = true) : p ≤ u ∧ u ≤ q := by
  constructor
  · apply Rat.not_lt.mp
    intro z
    rw [inS_out (.inl z)] at h
    cases h
  · apply Rat.not_lt.mp
    intro z
    rw [inS_out (.inr z)] at h
    cases h
/-- what lies above the low end, close by -/
theorem low_le {p q p' q' : Rat} {b1 b2 c1 c2 : Bool} (g : Good p q b1 b2) (hp : Six p) (hq : Six q) (hp' : Six p') (h0 : inS p q b1 b2 p = inS p' q' c1 c2 p) (h1 : inS p q b1 b2 (p + 1 / 100) = inS p' q' c1 c2 (p + 1 / 100)) : p' ≤ p := by
  apply Rat.not_lt.mp
  intro z
  have gap := six_gap hp hp' z
  rw [inS_low g, inS_out (.inl z)] at h0
  rcases g with h | ⟨_, h, _⟩
  · have gp := six_gap hp hq h
    rw [inS_mid (by grind) (by grind)] at h1
    have := (inS_le h1.symm).1
    grind
  · rw [h] at h0
    cases h0
theorem high_ge {p q p' q' : Rat} {b1 b2 c1 c2 : Bool} (g : Good p q b1 b2) (hp : Six p) (hq : Six q) (hq' : Six q') (h0 : inS p q b1 b2 q = inS p' q' c1 c2 q) (h1 : inS p q b1 b2 (q - 1 / 100) = inS p' q' c1 c2 (q - 1 / 100)) : q ≤ q' := by
  apply Rat.not_lt.mp
  intro z
  have gap := six_gap hq' hq z
  rw [inS_high g, inS_out (.inr z)] at h0
  rcases g with h | ⟨_, _, h⟩
  · have gp := six_gap hp hq h
    rw [inS_mid (by grind) (by grind)] at h1
    have := (inS_le h1.symm).2
    grind
  · rw [h] at h0
    cases h0
/-- the law's spots -/
def spotsOf (p q p' q' : Rat) : List Rat := [0, 100000000000000000000] ++ ([p, q, p', q'].flatMap fun e => [e - 1 / 100, e, e + 1 / 100]) ++ [(p + q) / 2, (p' + q') / 2]
theorem spots_tell {p q p' q' : Rat} {b1 b2 c1 c2 : Bool} (g : Good p q b1 b2) (g' : Good p' q' c1 c2) (hp : Six p) (hq : Six q) (hp' : Six p') (hq' : Six q') :
    decide ((spotsOf p q p' q').map (inS p q b1 b2) = (spotsOf p q p' q').map (inS p' q' c1 c2)) = ((decide (p = p') && decide (q = q')) && (decide (b1 = c1) && decide (b2 = c2))) := by
  by_cases h : (spotsOf p q p' q').map (inS p q b1 b2) = (spotsOf p q p' q').map (inS p' q' c1 c2)
  · rw [decide_eq_true h]
    have at_ : ∀ u ∈ spotsOf p q p' q', inS p q b1 b2 u = inS p' q' c1 c2 u := List.map_inj_left.mp h
    have m : ∀ e ∈ [p, q, p', q'], ∀ u ∈ [e - 1 / 100, e, e + 1 / 100], u ∈ spotsOf p q p' q' := fun e he u hu => by
      unfold spotsOf
      exact List.mem_append_left _ (List.mem_append_right _ (List.mem_flatMap.mpr ⟨e, he, hu⟩))
    have a : ∀ e ∈ [p, q, p', q'], inS p q b1 b2 (e - 1 / 100) = inS p' q' c1 c2 (e - 1 / 100) ∧ inS p q b1 b2 e = inS p' q' c1 c2 e ∧ inS p q b1 b2 (e + 1 / 100) = inS p' q' c1 c2 (e + 1 / 100) := fun e he =>
      ⟨at_ _ (m e he _ (by simp)), at_ _ (m e he _ (by simp)), at_ _ (m e he _ (by simp))⟩
    obtain ⟨_, a2, a3⟩ := a p (by simp)
    obtain ⟨b1', b2', _⟩ := a q (by simp)
    obtain ⟨_, c2', c3⟩ := a p' (by simp)
    obtain ⟨d1, d2, _⟩ := a q' (by simp)
    have e1 : p = p' := Rat.le_antisymm (low_le g' hp' hq' hp c2'.symm c3.symm) (low_le g hp hq hp' a2 a3)
    have e2 : q = q' := Rat.le_antisymm (high_ge g hp hq hq' b2' b1') (high_ge g' hp' hq' hq d2.symm d1.symm)
    subst e1
    subst e2
    rw [inS_low g, inS_low g'] at a2
    rw [inS_high g, inS_high g'] at b2'
    simp [a2, b2']
  · rw [decide_eq_false h]
    by_cases e1 : p = p'
    · by_cases e2 : q = q'
      · subst e1
        subst e2
        by_cases e3 : b1 = c1
        · by_cases e4 : b2 = c2
          · subst e3
            subst e4
            exact absurd rfl h
          · simp [e4]
        · simp [e3]
      · simp [e2]
    · simp [e1]
theorem mid_in {p q : Rat} {b1 b2 : Bool} (g : Good p q b1 b2) : inS p q b1 b2 ((p + q) / 2) = true := by
  rcases g with h | ⟨rfl, rfl, rfl⟩
  · exact inS_mid (by grind) (by grind)
  · have e : (p + p) / 2 = p := by grind
    rw [e]
    unfold inS
    simp
/-! ### k08: ends, as tuples of four -/
def Ends4 (A : Ad) (H : Hp) (r : Addr) (p q : Rat) (b1 b2 : Bool) : Prop := ∃ a b, H r = some (.tup [.ref a, .ref b, .bl b1, .bl b2]) ∧ Num A.c_Number H a p ∧ Num A.c_Number H b q
theorem Ends4.mono {A : Ad} {H H' : Hp} {r : Addr} {p q : Rat} {b1 b2 : Bool} (h : Ends4 A H r p q b1 b2) (s : Same H H') : Ends4 A H' r p q b1 b2 := by
  obtain ⟨a, b, e, h1, h2⟩ := h
  exact ⟨a, b, s _ _ e, h1.mono s, h2.mono s⟩
theorem Ends4.but {A : Ad} {H H' : Hp} {pt r : Addr} {p q : Rat} {b1 b2 : Bool} (h : Ends4 A H r p q b1 b2) (s : SameBut pt H H') (hp : ∃ xs, H pt = some (.lst xs)) : Ends4 A H' r p q b1 b2 := by
  obtain ⟨a, b, e, h1, h2⟩ := h
  exact ⟨a, b, tup_but e s hp, h1.but s hp, h2.but s hp⟩
section
variable {P : Program} {w : World} {K : PySem.W.Frag} {mg : Str → Option Value} {base : Heap} {A : Ad}
theorem kb_Stretch_has_low_has_high (T : Txt K mg A) : KBn K A.d_Stretch_init ["self", "low", "high", "has_low", "has_high"] 3 ["has_low", "has_high"] (fun us ws => us ++ ws) (fun vs zs => vs ++ zs) := by
  obtain ⟨mv, h⟩ := T.F_Stretch_init.kbinds0 (ps := ["self", "low", "high", "has_low", "has_high"]) 3 ["has_low", "has_high"] [] (fun us _ ws => us ++ ws) (by simp) (fun q h => nomatch h) (fun r1 _ r3 => r1.append r3) (fun D doc pm an cd ct us mv ws h1 h2 h3 => by
    match us, h1, mv, h2, ws, h3 with
    | [_, _, _], _, [], _, [_, _], _ => rfl)
  exact h
def spMade (A : Ad) : Sp := fun vs H Q _ => ∃ (r : Addr) (p q : Rat) (b1 b2 : Bool), vs = [.ref r] ∧ Ends4 A H r p q b1 b2 ∧ Bd 1000 p ∧ Bd 1000 q ∧ Good p q b1 b2 ∧ ∀ x H', Same H H' → H x = none → Strh A H' x p q b1 b2 → Q (.ref x) H'
theorem ok_law_made (T : Txt K mg A) : FnOk P w K mg base CX0 8 A.f_law_made A.d_law_made ["ends"] (spMade A) := by
  refine T.F_law_made.ok sc_law_made (fun vs H Q E h => ?_) (fun cdv B outer s H vs Q E hr h => ?_)
  · obtain ⟨r, p, q, b1, b2, rfl, _⟩ := h
    rfl
  · obtain ⟨r, p, q, b1, b2, rfl, ⟨a, b, er, ha, hb⟩, bp, bq, gd, k⟩ := h
    have hr7 : Room 7 _ := hr.mono (by decide)
    refine ⟨_, (pss_one (ps_ret (pe_makeK T.M_Stretch (ok_Stretch_init T) hr7 rfl T.g_Stretch (kb_Stretch_has_low_has_high T) pass0 (pa_cons (pe_ix ix_tup (pv 0) pe_int (fun _ _ => rfl)) (pa_cons (pe_ix ix_tup (pv 0) pe_int (fun _ _ => rfl)) pa_nil)) (pk_cons (pe_ix ix_tup (pv 0) pe_int (fun _ _ => rfl)) (pk_cons (pe_ix ix_tup (pv 0) pe_int (fun _ _ => rfl)) pk_nil))))), ?_⟩
    refine ⟨_, rfl, r, _, _, _, rfl, rfl, SqT.of er, rfl, _, rfl, r, _, _, _, rfl, rfl, SqT.of er, rfl, _, rfl, r, _, _, _, rfl, rfl, SqT.of er, rfl, _, rfl, r, _, _, _, rfl, rfl, SqT.of er, rfl, rfl, rfl, fun x dx nx ndx nex => ?_⟩
    have s0 : Same H (upd (upd H dx (.own x)) x (.ins A.c_Stretch dx [])) := fun c u e => by
      rw [upd_ne (ne_of_none e nx), upd_ne (ne_of_none e ndx)]
      exact e
    refine ⟨x, dx, a, b, p, q, b1, b2, rfl, ha.mono s0, hb.mono s0, bp, bq, gd, upd_same, fun mi H' sb e hm => ⟨rfl, ?_⟩⟩
    obtain ⟨s1, h1⟩ := made_str nx ndx sb e ha hb hm
    exact k x H' s1 nx h1
/-- whether a number lies between -/
def spLies (A : Ad) : Sp := fun vs H Q _ => ∃ (r c : Addr) (p q u : Rat) (b1 b2 : Bool), vs = [.ref r, .ref c] ∧ Ends4 A H r p q b1 b2 ∧ Num A.c_Number H c u ∧ Bd 4000 p ∧ Bd 4000 q ∧ Bd 4000 u ∧ Q (.bl (inS p q b1 b2 u)) H
/-- what the law works out -/
def lieI (l h t r : Int) (b1 b2 : Bool) : Bool := !((decide (l = h) && !b1) || (decide (t = r) && !b2)) && (decide (l ≤ h) && decide (t ≤ r))
theorem lie_eq (p q u : Rat) (b1 b2 : Bool) : lieI (p.num * (u.den : Int)) (u.num * (p.den : Int)) (u.num * (q.den : Int)) (q.num * (u.den : Int)) b1 b2 = inS p q b1 b2 u := by
  rw [← inI_eq]
  unfold lieI inI
  generalize u.num * (p.den : Int) = h
  generalize p.num * (u.den : Int) = l
  generalize q.num * (u.den : Int) = r
  generalize u.num * (q.den : Int) = t
  cases b1 <;> cases b2 <;> (rw [Bool.eq_iff_iff]; simp; try omega)
theorem ok_law_lies (T : Txt K mg A) : FnOk P w K mg base CX0 3 A.f_law_lies A.d_law_lies ["ends", "s"] (spLies A) := by
  refine T.F_law_lies.ok sc_law_lies (fun vs H Q E h => ?_) (fun cdv B outer s H vs Q E hr h => ?_)
  · obtain ⟨r, c, p, q, u, b1, b2, rfl, _⟩ := h
    rfl
  · obtain ⟨r, c, p, q, u, b1, b2, rfl, ⟨a, b, er, ⟨d1, ha⟩, ⟨d2, hb⟩⟩, ⟨d3, hc⟩, bp, bq, bu, k⟩ := h
    have hr2 : Room 2 _ := hr.mono (by decide)
    refine ⟨_, (pss_cons (ps_par (i := 2) (j := 3) rfl sc_law_lies.nd rfl rfl (by decide) rfl rfl (pa_cons (pe_op op_mulW (pe_prop (pe_ix ix_tup (pv 0) pe_int (fun _ _ => rfl)) T.cl_Number T.P_Number_top (ok_Number_top T) hr2 T.b_Number_top .nil pass0 rfl) (pe_prop (pv 1) T.cl_Number T.P_Number_bottom (ok_Number_bottom T) hr2 T.b_Number_bottom .nil pass0 rfl)) (pa_cons (pe_op op_mulW (pe_prop (pv 1) T.cl_Number T.P_Number_top (ok_Number_top T) hr2 T.b_Number_top .nil pass0 rfl) (pe_prop (pe_ix ix_tup (pv 0) pe_int (fun _ _ => rfl)) T.cl_Number T.P_Number_bottom (ok_Number_bottom T) hr2 T.b_Number_bottom .nil pass0 rfl)) pa_nil)) (by rfl))
      (pss_cons (ps_par (i := 4) (j := 5) rfl sc_law_lies.nd rfl rfl (by decide) rfl rfl (pa_cons (pe_op op_mulW (pe_prop (pv 1) T.cl_Number T.P_Number_top (ok_Number_top T) hr2 T.b_Number_top .nil pass0 rfl) (pe_prop (pe_ix ix_tup (pv 0) pe_int (fun _ _ => rfl)) T.cl_Number T.P_Number_bottom (ok_Number_bottom T) hr2 T.b_Number_bottom .nil pass0 rfl)) (pa_cons (pe_op op_mulW (pe_prop (pe_ix ix_tup (pv 0) pe_int (fun _ _ => rfl)) T.cl_Number T.P_Number_top (ok_Number_top T) hr2 T.b_Number_top .nil pass0 rfl) (pe_prop (pv 1) T.cl_Number T.P_Number_bottom (ok_Number_bottom T) hr2 T.b_Number_bottom .nil pass0 rfl)) pa_nil)) (by rfl))
      (Evl.pss_cut (ps_if (PW.pt (pw_or (PW.pt (pw_and (pt_cmpR op_eq (pv 2) (pv 3) (nomark _)) (pw_and1 (pt_not (pt_val (pe_ix ix_tup (pv 0) pe_int (fun _ _ => rfl))))))) (pw_or1 (PW.pt (pw_and (pt_cmpR op_eq (pv 4) (pv 5) (nomark _)) (pw_and1 (pt_not (pt_val (pe_ix ix_tup (pv 0) pe_int (fun _ _ => rfl)))))))))) (pss_one (ps_ret pe_bl)) pss_nil)
      (pss_one (ps_ret (pe_and (pe_cmpR op_le (pv 2) (pv 3) (nomark _)) (pe_one (pe_cmpR op_le (pv 4) (pv 5) (nomark _))))))))), ?_⟩
    rw [← lie_eq] at k
    refine ⟨_, rfl, r, _, _, _, rfl, rfl, SqT.of er, rfl, a, d1, _, rfl, ha, a, d1, _, _, rfl, ha, nf_top p, _, rfl, c, d3, _, rfl, hc, c, d3, _, _, rfl, hc, nf_bot u, _, _, rfl, rfl, bdw bp.1 bu.den', _, rfl, c, d3, _, rfl, hc, c, d3, _, _, rfl, hc, nf_top u, _, rfl, r, _, _, _, rfl, rfl, SqT.of er, rfl, a, d1, _, rfl, ha, a, d1, _, _, rfl, ha, nf_bot p, _, _, rfl, rfl, bdw bu.1 bp.den', ?_⟩
    refine ⟨_, _, rfl, ?_⟩
    refine stT (σ' := [some (.ref r), some (.ref c), some (.int (p.num * (u.den : Int))), some (.int (u.num * (p.den : Int))), none, none]) rfl ?_
    refine ⟨_, rfl, c, d3, _, rfl, hc, c, d3, _, _, rfl, hc, nf_top u, _, rfl, r, _, _, _, rfl, rfl, SqT.of er, rfl, b, d2, _, rfl, hb, b, d2, _, _, rfl, hb, nf_bot q, _, _, rfl, rfl, bdw bu.1 bq.den', _, rfl, r, _, _, _, rfl, rfl, SqT.of er, rfl, b, d2, _, rfl, hb, b, d2, _, _, rfl, hb, nf_top q, _, rfl, c, d3, _, rfl, hc, c, d3, _, _, rfl, hc, nf_bot u, _, _, rfl, rfl, bdw bq.1 bu.den', ?_⟩
    refine ⟨_, _, rfl, ?_⟩
    refine stT (σ' := [some (.ref r), some (.ref c), some (.int (p.num * (u.den : Int))), some (.int (u.num * (p.den : Int))), some (.int (u.num * (q.den : Int))), some (.int (q.num * (u.den : Int)))]) rfl ?_
    generalize p.num * (u.den : Int) = I at *
    generalize u.num * (p.den : Int) = J at *
    generalize u.num * (q.den : Int) = I' at *
    generalize q.num * (u.den : Int) = J' at *
    have tail : ¬ (I = J ∧ b1 = false) → ¬ (I' = J' ∧ b2 = false) → lieI I J I' J' b1 b2 = (decide (I ≤ J) && decide (I' ≤ J')) := fun h1 h2 => by
      unfold lieI
      have e1 : (decide (I = J) && !b1) = false := by
        cases b1
        · simp only [and_true] at h1
          simp [h1]
        · simp
      have e2 : (decide (I' = J') && !b2) = false := by
        cases b2
        · simp only [and_true] at h2
          simp [h2]
        · simp
      rw [e1, e2]
      simp
    have fals : (I = J ∧ b1 = false) ∨ (I' = J' ∧ b2 = false) → lieI I J I' J' b1 b2 = false := fun h => by
      unfold lieI
      rcases h with ⟨h1, h2⟩ | ⟨h1, h2⟩
      · rw [h1, h2]
        simp
      · rw [h1, h2]
        simp
    refine ⟨fun σ' H' => σ' = [some (.ref r), some (.ref c), some (.int I), some (.int J), some (.int I'), some (.int J')] ∧ H = H' ∧ lieI I J I' J' b1 b2 = (decide (I ≤ J) && decide (I' ≤ J')), ?_, ?_⟩
    · refine ⟨_, rfl, _, rfl, rfl, _, rfl, ?_⟩
      by_cases c1 : I = J
      · refine iteT' (dint_eq c1) ?_
        refine ⟨_, rfl, r, _, _, _, rfl, rfl, SqT.of er, rfl, _, rfl, ?_⟩
        cases b1 with
        | false =>
          rw [fals (.inl ⟨c1, rfl⟩)] at k
          exact iteT' rfl (iteT' rfl k)
        | true =>
          refine iteF' rfl ?_
          refine ⟨_, rfl, _, rfl, rfl, _, rfl, ?_⟩
          by_cases c2 : I' = J'
          · refine iteT' (dint_eq c2) ?_
            refine ⟨_, rfl, r, _, _, _, rfl, rfl, SqT.of er, rfl, _, rfl, ?_⟩
            cases b2 with
            | false =>
              rw [fals (.inr ⟨c2, rfl⟩)] at k
              exact iteT' rfl k
            | true => exact iteF' rfl ⟨rfl, rfl, tail (fun z => nomatch z.2) fun z => nomatch z.2⟩
          · refine iteF' (dint_ne c2) ?_
            exact iteF' rfl ⟨rfl, rfl, tail (fun z => nomatch z.2) fun z => c2 z.1⟩
      · refine iteF' (dint_ne c1) ?_
        refine iteF' rfl ?_
        refine ⟨_, rfl, _, rfl, rfl, _, rfl, ?_⟩
        by_cases c2 : I' = J'
        · refine iteT' (dint_eq c2) ?_
          refine ⟨_, rfl, r, _, _, _, rfl, rfl, SqT.of er, rfl, _, rfl, ?_⟩
          cases b2 with
          | false =>
            rw [fals (.inr ⟨c2, rfl⟩)] at k
            exact iteT' rfl k
          | true => exact iteF' rfl ⟨rfl, rfl, tail (fun z => c1 z.1) fun z => nomatch z.2⟩
        · refine iteF' (dint_ne c2) ?_
          exact iteF' rfl ⟨rfl, rfl, tail (fun z => c1 z.1) fun z => c2 z.1⟩
    rintro σ' H' ⟨rfl, rfl, e⟩
    rw [e] at k
    refine ⟨_, rfl, _, rfl, _, _, rfl, rfl, _, rfl, ?_⟩
    refine ite2 (fun h => ?_) (fun h => ?_)
    · rw [h, Bool.true_and] at k
      exact ⟨_, rfl, _, rfl, _, _, rfl, rfl, k⟩
    · rw [Bool.eq_false_iff.mpr h, Bool.false_and] at k
      exact k
end
/-! ### k08: drawn ends -/
theorem six_mk {t d : Int} (h0 : -4 ≤ t) (h1 : t ≤ 4) (hd : d = 1 ∨ d = 2 ∨ d = 3) : Six (Rat.divInt t d) := by
  rcases hd with rfl | rfl | rfl
  · exact ⟨t * 6, (Rat.divInt_eq_divInt_iff (by decide) (by decide)).mpr (by omega), by omega, by omega⟩
  · exact ⟨t * 3, (Rat.divInt_eq_divInt_iff (by decide) (by decide)).mpr (by omega), by omega, by omega⟩
  · exact ⟨t * 2, (Rat.divInt_eq_divInt_iff (by decide) (by decide)).mpr (by omega), by omega, by omega⟩
theorem Six.bd {p : Rat} (h : Six p) : Bd 100 p := by
  obtain ⟨n, rfl, h1, h2⟩ := h
  exact Bd.mk' (by decide) (up_lt (show n.natAbs < 2 ^ 5 by omega) (by decide)) (by decide)
theorem cross_eq (p q : Rat) : (p.num * (q.den : Int) = q.num * (p.den : Int)) ↔ p = q := by
  rw [← Rat.divInt_eq_divInt_iff (den_ne p) (den_ne q), Rat.num_divInt_den, Rat.num_divInt_den]
section
variable {P : Program} {w : World} {K : PySem.W.Frag} {mg : Str → Option Value} {base : Heap} {A : Ad}
def spEnds (A : Ad) : Sp := fun vs H Q _ => ∃ (pt : Addr) (c : Nat), vs = [.ref pt] ∧ Pot H pt c ∧ c ≤ 80000 ∧ ∀ r H' p q b1 b2, Ends4 A H' r p q b1 b2 → Good p q b1 b2 → Six p → Six q → Pot H' pt (c + 6) → SameBut pt H H' → Q (.ref r) H'
theorem ok_law_ends (T : Txt K mg A) : FnOk P w K mg base CX0 4 A.f_law_ends A.d_law_ends ["pot"] (spEnds A) := by
  refine T.F_law_ends.ok sc_law_ends (fun vs H Q E h => ?_) (fun cdv B outer s H vs Q E hr h => ?_)
  · obtain ⟨pt, c, rfl, _⟩ := h
    rfl
  · obtain ⟨pt, c, rfl, hP, hc, k⟩ := h
    have hr1 : Room 1 _ := hr.mono (by decide)
    have hr2 : Room 2 _ := hr.mono (by decide)
    have hr3 : Room 3 _ := hr.mono (by decide)
    refine ⟨_, (pss_cons (ps_asg (pe_lc (own := [("turn", 3)]) (g := gName 3) (tt := tYes) rfl sc_law_ends.nd (pi_range1 rfl T.z_range (pa_cons pe_int pa_nil)) (blkOk_by (N := N_law_ends) (sc := defScope s_law_ends) (by decide +kernel)) (fun _ _ _ _ _ => (pg_name (i := 3) sc_law_ends.nd rfl (Or.inl rfl))) (fun _ _ _ _ _ => pts_nil) (fun _ _ _ _ _ => (pe_make T.M_Number (ok_Number_init T) hr3 rfl T.g_Number (b_Number T) .nil pass0 (pa_cons (pe_op op_sub (pe_call (ok_law_take T) hr1 rfl T.g_law_take T.F_law_take.kp T.b_law_take .nil pass0 (pa_cons (pv 0) (pa_cons pe_int pa_nil))) pe_int) (pa_cons (pe_call (ok_law_of T) hr2 rfl T.g_law_of T.F_law_of.kp T.b_law_of .nil pass0 (pa_cons (pv 0) (pa_cons (pe_lst (pa_cons pe_int (pa_cons pe_int (pa_cons pe_int pa_nil)))) pa_nil))) pa_nil))))) (pg_lst rfl (pgs_cons (pg_name (i := 1) sc_law_ends.nd rfl (Or.inl rfl)) (pgs_cons (pg_name (i := 2) sc_law_ends.nd rfl (Or.inl rfl)) pgs_nil))))
      (pss_cons (ps_par (i := 4) (j := 5) rfl sc_law_ends.nd rfl rfl (by decide) rfl rfl (pa_cons (pe_op op_mulW (pe_prop (pv 1) T.cl_Number T.P_Number_top (ok_Number_top T) hr2 T.b_Number_top .nil pass0 rfl) (pe_prop (pv 2) T.cl_Number T.P_Number_bottom (ok_Number_bottom T) hr2 T.b_Number_bottom .nil pass0 rfl)) (pa_cons (pe_op op_mulW (pe_prop (pv 2) T.cl_Number T.P_Number_top (ok_Number_top T) hr2 T.b_Number_top .nil pass0 rfl) (pe_prop (pv 1) T.cl_Number T.P_Number_bottom (ok_Number_bottom T) hr2 T.b_Number_bottom .nil pass0 rfl)) pa_nil)) (by rfl))
      (pss_cons (ps_if (pt_cmpR op_eq (pv 4) (pv 5) (nomark _)) (pss_one (ps_ret (pe_tup (pa_cons (pv 1) (pa_cons (pv 2) (pa_cons pe_bl (pa_cons pe_bl pa_nil))))))) pss_nil)
      (pss_one (ps_ret (pe_tup (pa_cons (pe_ifExp (pt_cmpR op_lt (pv 4) (pv 5) (nomark _)) (pv 1) (pv 2)) (pa_cons (pe_ifExp (pt_cmpR op_lt (pv 4) (pv 5) (nomark _)) (pv 2) (pv 1)) (pa_cons (pe_cmpR op_eq (pe_call (ok_law_take T) hr1 rfl T.g_law_take T.F_law_take.kp T.b_law_take .nil pass0 (pa_cons (pv 0) (pa_cons pe_int pa_nil))) pe_int (nomark _)) (pa_cons (pe_cmpR op_eq (pe_call (ok_law_take T) hr1 rfl T.g_law_take T.F_law_take.kp T.b_law_take .nil pass0 (pa_cons (pv 0) (pa_cons pe_int pa_nil))) pe_int (nomark _)) pa_nil)))))))))), ?_⟩
    refine ⟨2, rfl, by decide, by decide, fun D nD => lc_range (lo := 0) (n := 2) (fun i Hh => SameBut pt H Hh ∧ Pot Hh pt (c + 2 * i) ∧ ∃ acc : List (Addr × Rat), acc.length = i ∧ Hh D = some (.lst (acc.map fun x => V.ref x.1)) ∧ ∀ x ∈ acc, Num A.c_Number Hh x.1 x.2 ∧ Six x.2)
      ⟨Same.but pt (same_new nD), hP.same (same_new nD), [], rfl, upd_same, fun x hx => absurd hx (by simp)⟩ ?_ ?_⟩
    · rintro i Hh hi ⟨sb, hPh, acc, la, hD, hacc⟩
      have hi2 : i < 2 := hi
      obtain ⟨xs0, ep0⟩ := hPh.lst
      have hpD : pt ≠ D := fun z => by
        obtain ⟨own, mix, cc, e0, _⟩ := hP
        rw [z, nD] at e0
        cases e0
      refine ⟨rfl, yes_of ?_⟩
      refine iteT ?_
      refine ⟨_, rfl, pt, 9, c + 2 * i, rfl, (by decide), up_lt (n := 9000) (show (9 : Int).natAbs < 2 ^ 8 by decide) (by decide), hPh, (by omega), fun t H1 t0 t1 P1 s1 => ?_⟩
      refine ⟨_, _, rfl, rfl, _, rfl, (by show 3 ≤ sizeLine; decide), fun l hl => ?_⟩
      obtain ⟨xs1, e1⟩ := P1.lst
      refine ⟨pt, l, _, c + 2 * i + 1, rfl, upd_same, (ne_of_none e1 hl).symm, by simp, by show 3 ≤ 1000; decide, P1.same (same_new hl), by omega, fun v H2 hv P2 s2 => ?_⟩
      obtain ⟨d, rfl, hd⟩ : ∃ d : Int, v = .int d ∧ (d = 1 ∨ d = 2 ∨ d = 3) := by
        rcases List.mem_cons.mp hv with rfl | hv
        · exact ⟨1, rfl, by simp⟩
        · rcases List.mem_cons.mp hv with rfl | hv
          · exact ⟨2, rfl, by simp⟩
          · rw [List.mem_singleton.mp hv]
            exact ⟨3, rfl, by simp⟩
      have sb2 : SameBut pt Hh H2 := (s1.same (same_new hl)).trans s2
      intro x dx nx ndx nex
      refine ⟨x, dx, t - 4, d, rfl, by omega, up_lt (n := 9000) (show d.natAbs < 2 ^ 2 by omega) (by decide), upd_same, rfl, ?_⟩
      obtain ⟨s3, h3⟩ := made_num (C := A.c_Number) (Rat.divInt (t - 4) d) nx ndx
      generalize upd (upd (upd H2 dx (.own x)) x (.ins A.c_Number dx [])) x (.ins A.c_Number dx (nf (Rat.divInt (t - 4) d))) = H3 at *
      have sb3 : SameBut pt Hh H3 := sb2.same s3
      have hD3 : H3 D = some (.lst (acc.map fun x => V.ref x.1)) := sb3 _ _ hD hpD.symm
      refine ⟨_, hD3, by rw [List.length_map, la]; exact Nat.lt_trans hi2 (by decide), ?_, ?_, acc ++ [(x, Rat.divInt (t - 4) d)], by rw [List.length_append, la]; rfl, ?_, fun y hy => ?_⟩
      · intro b u e nb
        have q : b ≠ D := ne_of_none e nD
        rw [upd_ne q]
        exact sb3 _ _ (sb b u e nb) nb
      · obtain ⟨own, mix, cc, e, r⟩ := (P2.same s3).mono (show c + 2 * i + 1 + 1 ≤ c + 2 * (i + 1) by omega)
        exact ⟨own, mix, cc, by rw [upd_ne hpD]; exact e, r⟩
      · rw [upd_same, List.map_append]
        rfl
      · rcases List.mem_append.mp hy with hy | hy
        · obtain ⟨h4, h5⟩ := hacc y hy
          exact ⟨(h4.but sb3 ⟨_, ep0⟩).upl hD3, h5⟩
        · rw [List.mem_singleton.mp hy]
          exact ⟨h3.upl hD3, six_mk (by omega) (by omega) hd⟩
    rintro Hh ⟨sb, hPh, acc, la, hD, hacc⟩
    match acc, la, hD, hacc with
    | [(a, p), (b, q)], _, hD, hacc =>
    obtain ⟨ha, sp⟩ := hacc (a, p) (by simp)
    obtain ⟨hb, sq⟩ := hacc (b, q) (by simp)
    clear hacc
    dsimp only at ha hb sp sq
    have bp := sp.bd
    have bq := sq.bd
    refine ⟨D, _, rfl, SqL.of hD, rfl, _, _, rfl, _, _, rfl, rfl, ?_⟩
    refine stT (σ' := [some (.ref pt), some (.ref a), some (.ref b), none, none, none]) rfl ?_
    obtain ⟨da, ea⟩ := ha
    obtain ⟨db, eb⟩ := hb
    refine ⟨_, rfl, a, da, _, rfl, ea, a, da, _, _, rfl, ea, nf_top p, _, rfl, b, db, _, rfl, eb, b, db, _, _, rfl, eb, nf_bot q, _, _, rfl, rfl, bdw bp.1 bq.den', _, rfl, b, db, _, rfl, eb, b, db, _, _, rfl, eb, nf_top q, _, rfl, a, da, _, rfl, ea, a, da, _, _, rfl, ea, nf_bot p, _, _, rfl, rfl, bdw bq.1 bp.den', ?_⟩
    refine ⟨_, _, rfl, ?_⟩
    refine stT (σ' := [some (.ref pt), some (.ref a), some (.ref b), none, some (.int (p.num * (q.den : Int))), some (.int (q.num * (p.den : Int)))]) rfl ?_
    refine ⟨_, rfl, _, rfl, rfl, _, rfl, ?_⟩
    have fin : ∀ (x y : Addr) (u v : Rat) (c1 c2 : Bool) (H2 : Hp) (r : Addr) (n : Nat), Num A.c_Number H2 x u → Num A.c_Number H2 y v → Good u v c1 c2 → Six u → Six v → Pot H2 pt n → n ≤ c + 6 → SameBut pt H H2 → H2 r = none → Q (.ref r) (upd H2 r (.tup [.ref x, .ref y, .bl c1, .bl c2])) := fun x y u v c1 c2 H2 r n hx hy gd su sv hP2 hn sb2 nr =>
      k r _ u v c1 c2 ⟨x, y, upd_same, hx.mono (same_new nr), hy.mono (same_new nr)⟩ gd su sv ((hP2.same (same_new nr)).mono hn) (sb2.same (same_new nr))
    by_cases hpq : p = q
    · refine iteT' (dint_eq ((cross_eq p q).mpr hpq)) ?_
      refine ⟨_, rfl, _, rfl, (by show 4 ≤ sizeLine; decide), fun r nr => ?_⟩
      exact fin a b p q true true Hh r _ ⟨_, ea⟩ ⟨_, eb⟩ (.inr ⟨hpq, rfl, rfl⟩) sp sq hPh (by omega) sb nr
    refine iteF' (dint_ne fun z => hpq ((cross_eq p q).mp z)) ?_
    by_cases hlt : p < q
    · have h1 : decide (p.num * (q.den : Int) < q.num * (p.den : Int)) = true := decide_eq_true ((Rat.lt_iff p q).mp hlt)
      refine ⟨_, rfl, _, rfl, _, _, rfl, rfl, _, rfl, ?_⟩
      refine iteT' h1 ?_
      refine ⟨_, rfl, _, rfl, _, rfl, _, _, rfl, rfl, _, rfl, ?_⟩
      refine iteT' h1 ?_
      refine ⟨_, rfl, _, rfl, pt, 2, c + 2 * 2, rfl, (by decide), up_lt (n := 9000) (show (2 : Int).natAbs < 2 ^ 8 by decide) (by decide), hPh, (by omega), fun t1 H1 _ _ P1 s1 => ?_⟩
      refine ⟨rfl, _, rfl, pt, 2, c + 2 * 2 + 1, rfl, (by decide), up_lt (n := 9000) (show (2 : Int).natAbs < 2 ^ 8 by decide) (by decide), P1, (by omega), fun t2 H2 _ _ P2 s2 => ?_⟩
      refine ⟨rfl, (by show 4 ≤ sizeLine; decide), fun r nr => ?_⟩
      exact fin a b p q _ _ H2 r _ ((Num.but ⟨_, ea⟩ s1 hPh.lst).but s2 P1.lst) ((Num.but ⟨_, eb⟩ s1 hPh.lst).but s2 P1.lst) (.inl hlt) sp sq P2 (by omega) ((sb.trans s1).trans s2) nr
    · have hgt : q < p := by grind
      have h1 : decide (p.num * (q.den : Int) < q.num * (p.den : Int)) = false := decide_eq_false fun z => hlt ((Rat.lt_iff p q).mpr z)
      refine ⟨_, rfl, _, rfl, _, _, rfl, rfl, _, rfl, ?_⟩
      refine iteF' h1 ?_
      refine ⟨_, rfl, _, rfl, _, rfl, _, _, rfl, rfl, _, rfl, ?_⟩
      refine iteF' h1 ?_
      refine ⟨_, rfl, _, rfl, pt, 2, c + 2 * 2, rfl, (by decide), up_lt (n := 9000) (show (2 : Int).natAbs < 2 ^ 8 by decide) (by decide), hPh, (by omega), fun t1 H1 _ _ P1 s1 => ?_⟩
      refine ⟨rfl, _, rfl, pt, 2, c + 2 * 2 + 1, rfl, (by decide), up_lt (n := 9000) (show (2 : Int).natAbs < 2 ^ 8 by decide) (by decide), P1, (by omega), fun t2 H2 _ _ P2 s2 => ?_⟩
      refine ⟨rfl, (by show 4 ≤ sizeLine; decide), fun r nr => ?_⟩
      exact fin b a q p _ _ H2 r _ ((Num.but ⟨_, eb⟩ s1 hPh.lst).but s2 P1.lst) ((Num.but ⟨_, ea⟩ s1 hPh.lst).but s2 P1.lst) (.inl hgt) sq sp P2 (by omega) ((sb.trans s1).trans s2) nr
end
/-! ### k08: the spots -/
/-- a list of Numbers -/
def NumL (A : Ad) (H : Hp) (F : Addr) (us : List Rat) : Prop := ∃ acc : List (Addr × Rat), H F = some (.lst (acc.map fun x => V.ref x.1)) ∧ acc.map (·.2) = us ∧ ∀ x ∈ acc, Num A.c_Number H x.1 x.2
theorem NumL.mono {A : Ad} {H H' : Hp} {F : Addr} {us : List Rat} (h : NumL A H F us) (s : Same H H') : NumL A H' F us := by
  obtain ⟨acc, e, h1, h2⟩ := h
  exact ⟨acc, s _ _ e, h1, fun x hx => (h2 x hx).mono s⟩
theorem NumL.push {A : Ad} {H : Hp} {F : Addr} {us ws : List Rat} {ys : List (Addr × Rat)} (h : NumL A H F us) (hy : ys.map (·.2) = ws) (h2 : ∀ x ∈ ys, Num A.c_Number H x.1 x.2) : ∃ acc : List (Addr × Rat), H F = some (.lst (acc.map fun x => V.ref x.1)) ∧ acc.length = us.length ∧
    NumL A (upd H F (.lst ((acc.map fun x => V.ref x.1) ++ (ys.map fun x => V.ref x.1)))) F (us ++ ws) := by
  obtain ⟨acc, e, h1, h3⟩ := h
  refine ⟨acc, e, by rw [← h1, List.length_map], acc ++ ys, by rw [upd_same, List.map_append], by rw [List.map_append, h1, hy], fun x hx => ?_⟩
  rcases List.mem_append.mp hx with hx | hx
  · exact (h3 x hx).upl e
  · exact (h2 x hx).upl e
theorem spot_eq (e : Rat) (k : Int) : Rat.divInt (e.num * 100 + (e.den : Int) * k) ((e.den : Int) * 100) = e + Rat.divInt k 100 := by
  conv => rhs; rw [← Rat.num_divInt_den e]
  rw [Rat.divInt_add_divInt _ _ (den_ne e) (by decide), Int.mul_comm k (e.den : Int)]
theorem half_mk (p q : Rat) : Rat.divInt (p.num * (q.den : Int) + q.num * (p.den : Int)) (2 * (p.den : Int) * (q.den : Int)) = (p + q) / 2 := by
  rw [← add_eq p q, Int.mul_assoc 2, Rat.div_def, show ((2 : Rat))⁻¹ = Rat.divInt 1 2 by decide +kernel, Rat.divInt_mul_divInt, Int.mul_one, Int.mul_comm 2]
theorem cut_two (x y z w : V) : cutV [x, y, z, w] none (some 2) = [x, y] := rfl
def around (e : Rat) : List Rat := [e - 1 / 100, e, e + 1 / 100]
theorem around_eq (e : Rat) : [e + Rat.divInt (-1) 100, e + Rat.divInt 0 100, e + Rat.divInt 1 100] = around e := by
  have h1 : Rat.divInt (-1) 100 = -(1 / 100) := by decide +kernel
  have h2 : Rat.divInt 0 100 = 0 := by decide +kernel
  have h3 : Rat.divInt 1 100 = 1 / 100 := by decide +kernel
  rw [h1, h2, h3]
  unfold around
  have e1 : e + -(1 / 100) = e - 1 / 100 := by grind
  have e2 : e + 0 = e := by grind
  rw [e1, e2]
section
variable {P : Program} {w : World} {K : PySem.W.Frag} {mg : Str → Option Value} {base : Heap} {A : Ad}
def spSpots (A : Ad) : Sp := fun vs H Q _ => ∃ (r t : Addr) (p q p' q' : Rat) (b1 b2 c1 c2 : Bool), vs = [.ref r, .ref t] ∧ Ends4 A H r p q b1 b2 ∧ Ends4 A H t p' q' c1 c2 ∧ Bd 100 p ∧ Bd 100 q ∧ Bd 100 p' ∧ Bd 100 q' ∧
  ∀ l H', Same H H' → NumL A H' l (spotsOf p q p' q') → Q (.ref l) H'
theorem ok_law_spots (T : Txt K mg A) : FnOk P w K mg base CX0 5 A.f_law_spots A.d_law_spots ["one", "other"] (spSpots A) := by
  refine T.F_law_spots.ok sc_law_spots (fun vs H Q E h => ?_) (fun cdv B outer s H vs Q E hr h => ?_)
  · obtain ⟨r, t, p, q, p', q', b1, b2, c1, c2, rfl, _⟩ := h
    rfl
  · obtain ⟨r, t, p, q, p', q', b1, b2, c1, c2, rfl, ⟨a1, a2, er, h1, h2⟩, ⟨a3, a4, et, h3, h4⟩, bp, bq, bp2, bq2, k⟩ := h
    have hr2 : Room 2 _ := hr.mono (by decide)
    have hr3 : Room 3 _ := hr.mono (by decide)
    obtain ⟨_, r1Number, b1Number⟩ := b1_Number T
    refine ⟨_, (pss_cons (ps_set (i := 2) sc_law_spots.nd rfl (Or.inl rfl) (pe_lst (pa_cons (pe_make T.M_Number (ok_Number_init T) hr3 rfl T.g_Number b1Number r1Number pass0 (pa_cons pe_int pa_nil)) (pa_cons (pe_make T.M_Number (ok_Number_init T) hr3 rfl T.g_Number b1Number r1Number pass0 (pa_cons (pe_op op_powW pe_int pe_int) pa_nil)) pa_nil))))
      (pss_cons (ps_for PassesOwn.never rfl (pi_tup (pe_op op_catT (pe_slice sl_tup (pv 0) po_none (po_some pe_int)) (pe_slice sl_tup (pv 1) po_none (po_some pe_int)))) (pg_name (i := 3) sc_law_spots.nd rfl (Or.inr rfl))
      (pss_one (ps_expr (pe_bm PySem.F.plainAttrs_list PySem.F.slot_list_extend PySem.F.type_list_extend mt_extend (pv 2) (pa_cons (pe_lc (own := [("k", 4)]) (g := gName 4) (tt := tYes) rfl sc_law_spots.nd (pi_tup (pe_tup (pa_cons (pe_un un_neg pe_int) (pa_cons pe_int (pa_cons pe_int pa_nil))))) (blkOk_by (N := N_law_spots) (sc := defScope s_law_spots) (by decide +kernel)) (fun _ _ _ _ _ => (pg_name (i := 4) sc_law_spots.nd rfl (Or.inl rfl))) (fun _ _ _ _ _ => pts_nil) (fun _ _ _ _ _ => (pe_make T.M_Number (ok_Number_init T) hr3 rfl T.g_Number (b_Number T) .nil pass0 (pa_cons (pe_op op_add (pe_op op_mul (pe_prop (pv 3) T.cl_Number T.P_Number_top (ok_Number_top T) hr2 T.b_Number_top .nil pass0 rfl) pe_int) (pe_op op_mulW (pe_prop (pv 3) T.cl_Number T.P_Number_bottom (ok_Number_bottom T) hr2 T.b_Number_bottom .nil pass0 rfl) (pv 4))) (pa_cons (pe_op op_mul (pe_prop (pv 3) T.cl_Number T.P_Number_bottom (ok_Number_bottom T) hr2 T.b_Number_bottom .nil pass0 rfl) pe_int) pa_nil))))) pa_nil)))))
      (pss_cons (ps_for PassesOwn.never rfl (pi_list (pe_lst (pa_cons (pe_slice sl_tup (pv 0) po_none (po_some pe_int)) (pa_cons (pe_slice sl_tup (pv 1) po_none (po_some pe_int)) pa_nil)))) (pgTup K 2 rfl (pgs_cons (pg_name (i := 5) sc_law_spots.nd rfl (Or.inl rfl)) (pgs_cons (pg_name (i := 6) sc_law_spots.nd rfl (Or.inl rfl)) pgs_nil)))
      (pss_one (ps_expr (pe_bm PySem.F.plainAttrs_list PySem.F.slot_list_append PySem.F.type_list_append mt_append (pv 2) (pa_cons (pe_make T.M_Number (ok_Number_init T) hr3 rfl T.g_Number (b_Number T) .nil pass0 (pa_cons (pe_op op_add (pe_op op_mulW (pe_prop (pv 5) T.cl_Number T.P_Number_top (ok_Number_top T) hr2 T.b_Number_top .nil pass0 rfl) (pe_prop (pv 6) T.cl_Number T.P_Number_bottom (ok_Number_bottom T) hr2 T.b_Number_bottom .nil pass0 rfl)) (pe_op op_mulW (pe_prop (pv 6) T.cl_Number T.P_Number_top (ok_Number_top T) hr2 T.b_Number_top .nil pass0 rfl) (pe_prop (pv 5) T.cl_Number T.P_Number_bottom (ok_Number_bottom T) hr2 T.b_Number_bottom .nil pass0 rfl))) (pa_cons (pe_op op_mulW (pe_op op_mul pe_int (pe_prop (pv 5) T.cl_Number T.P_Number_bottom (ok_Number_bottom T) hr2 T.b_Number_bottom .nil pass0 rfl)) (pe_prop (pv 6) T.cl_Number T.P_Number_bottom (ok_Number_bottom T) hr2 T.b_Number_bottom .nil pass0 rfl)) pa_nil))) pa_nil)))))
      (pss_one (ps_ret (pv 2)))))), ?_⟩
    intro x dx nx ndx nex
    refine ⟨x, dx, 0, 1, rfl, by decide, up_lt (n := 9000) (show (1 : Int).natAbs < 2 ^ 1 by decide) (by decide), upd_same, rfl, ?_⟩
    obtain ⟨s1, hx⟩ := made_num (C := A.c_Number) (Rat.divInt 0 1) nx ndx
    generalize upd (upd (upd H dx (.own x)) x (.ins A.c_Number dx [])) x (.ins A.c_Number dx (nf (Rat.divInt 0 1))) = H1 at *
    refine ⟨_, _, rfl, rfl, ⟨by decide, by decide +kernel⟩, ?_⟩
    intro y dy ny ndy ney
    refine ⟨y, dy, 10 ^ (20 : Int).toNat, 1, rfl, by decide, up_lt (n := 9000) (show (1 : Int).natAbs < 2 ^ 1 by decide) (by decide), upd_same, rfl, ?_⟩
    obtain ⟨s2, hy⟩ := made_num (C := A.c_Number) (Rat.divInt (10 ^ (20 : Int).toNat) 1) ny ndy
    generalize upd (upd (upd H1 dy (.own y)) y (.ins A.c_Number dy [])) y (.ins A.c_Number dy (nf (Rat.divInt (10 ^ (20 : Int).toNat) 1))) = H2 at *
    refine ⟨(by show 2 ≤ sizeLine; decide), fun F nF => ?_⟩
    have s12 := s1.trans s2
    have hF0 : H F = none := s12.free nF
    have hx2 := (hx.mono s2).mono (same_new (o := .lst [.ref x, .ref y]) nF)
    have hy2 := hy.mono (same_new (o := .lst [.ref x, .ref y]) nF)
    have e0 : Rat.divInt 0 1 = 0 := by decide
    have e1 : Rat.divInt (10 ^ (20 : Int).toNat) 1 = 100000000000000000000 := by decide +kernel
    have nl : NumL A (upd H2 F (.lst [.ref x, .ref y])) F [0, 100000000000000000000] := by
      refine ⟨[(x, Rat.divInt 0 1), (y, Rat.divInt (10 ^ (20 : Int).toNat) 1)], upd_same, by simp only [List.map_cons, List.map_nil, e0, e1], fun z hz => ?_⟩
      rcases List.mem_cons.mp hz with rfl | hz
      · exact hx2
      · rw [List.mem_singleton.mp hz]
        exact hy2
    have s3 := s12.trans (same_new (o := .lst [.ref x, .ref y]) nF)
    generalize upd H2 F (.lst [.ref x, .ref y]) = H3 at *
    clear hx hy hx2 hy2 s1 s2 s12 nF nx ndx nex ny ndy ney
    refine stT (σ' := [some (.ref r), some (.ref t), some (.ref F), none, none, none, none]) rfl ?_
    -- the ends, one behind another
    have er3 := s3 _ _ er
    refine ⟨_, rfl, _, rfl, r, _, rfl, SqT.of er3, (by show ¬ (HT.sIx 4 0 none = 0 ∧ HT.sIx 4 4 (some 2) = 4); decide), fun u nu => ?_⟩
    rw [cut_two] at *
    have su := same_new (o := .tup [.ref a1, .ref a2]) nu
    have et3 := su _ _ (s3 _ _ et)
    refine ⟨_, rfl, _, rfl, t, _, rfl, SqT.of et3, (by show ¬ (HT.sIx 4 0 none = 0 ∧ HT.sIx 4 4 (some 2) = 4); decide), fun v nv => ?_⟩
    rw [cut_two] at *
    have sv := same_new (o := .tup [.ref a3, .ref a4]) nv
    have eu := sv _ _ (show (upd H3 u (.tup [.ref a1, .ref a2])) u = some (.tup [.ref a1, .ref a2]) from upd_same)
    refine ⟨u, v, [.ref a1, .ref a2], [.ref a3, .ref a4], rfl, rfl, SqT.of eu, SqT.of upd_same, (by simp), (by show 4 ≤ sizeLine; decide), (fun z => nomatch z), fun _ w nw => ?_⟩
    have sw := same_new (o := .tup ([.ref a1, .ref a2] ++ [.ref a3, .ref a4])) nw
    have s4 := (su.trans sv).trans sw
    have eW : (upd (upd (upd H3 u (.tup [.ref a1, .ref a2])) v (.tup [.ref a3, .ref a4])) w (.tup ([.ref a1, .ref a2] ++ [.ref a3, .ref a4]))) w = some (.tup [.ref a1, .ref a2, .ref a3, .ref a4]) := upd_same
    have nlW := nl.mono s4
    have s5 := s3.trans s4
    refine ⟨w, rfl, ⟨_, SqT.of eW⟩, ?_⟩
    change ∃ W : Nat → Nat → L2.St → Hp → Prop, (∃ m, W 0 m _ (upd (upd (upd H3 u (.tup [.ref a1, .ref a2])) v (.tup [.ref a3, .ref a4])) w (.tup ([.ref a1, .ref a2] ++ [.ref a3, .ref a4])))) ∧ _
    generalize upd (upd (upd H3 u (.tup [.ref a1, .ref a2])) v (.tup [.ref a3, .ref a4])) w (.tup ([.ref a1, .ref a2] ++ [.ref a3, .ref a4])) = H4 at *
    have hwF : w ≠ F := fun z => by
      obtain ⟨acc, e, _⟩ := nlW
      rw [← z, eW] at e
      cases e
    have ends : ∀ (i : Nat) (z : V), ([.ref a1, .ref a2, .ref a3, .ref a4] : List V)[i]? = some z → ∃ (c : Addr) (e : Rat), z = .ref c ∧ ([p, q, p', q'] : List Rat)[i]? = some e ∧ Num A.c_Number H c e ∧ Bd 100 e := fun i z hz => by
      match i, hz with
      | 0, hz => cases hz; exact ⟨a1, p, rfl, rfl, h1, bp⟩
      | 1, hz => cases hz; exact ⟨a2, q, rfl, rfl, h2, bq⟩
      | 2, hz => cases hz; exact ⟨a3, p', rfl, rfl, h3, bp2⟩
      | 3, hz => cases hz; exact ⟨a4, q', rfl, rfl, h4, bq2⟩
    refine for_tup (K := K) (a := w) (xs := [.ref a1, .ref a2, .ref a3, .ref a4]) (fun i σ H' => ∃ v3, σ = [some (.ref r), some (.ref t), some (.ref F), v3, none, none, none] ∧ Same H H' ∧ SameBut F H4 H' ∧ NumL A H' F ([0, 100000000000000000000] ++ (([p, q, p', q'] : List Rat).take i).flatMap around))
      ⟨_, rfl, s5, SameBut.refl _ _, nlW⟩ (fun i σ H' _ hh => by
        obtain ⟨_, _, _, sb, _⟩ := hh
        exact SqT.of (sb _ _ eW hwF)) ?_ ?_
    · rintro i z σ H5 hz ⟨v3, rfl, s6, sb5, nl5⟩
      obtain ⟨c, e, rfl, hei, hc, be⟩ := ends i z hz
      have hi4 : i < 4 := (List.getElem?_eq_some_iff.mp hz).1
      have hc5 := hc.mono s6
      obtain ⟨accF, eF, lF, _⟩ := nl5.push (ys := []) (ws := []) rfl (fun x hx => absurd hx (by simp))
      refine ⟨_, rfl, .inl ⟨rfl, _, SqL.of eF⟩, ?_⟩
      refine ⟨_, rfl, (by show 3 ≤ sizeLine; decide), fun kt nk => ?_⟩
      have sk := same_new (o := .tup [.int (-1), .int 0, .int 1]) nk
      have ek : (upd H5 kt (.tup [.int (-1), .int 0, .int 1])) kt = some (.tup [.int (-1), .int 0, .int 1]) := upd_same
      refine ⟨kt, rfl, ⟨_, SqT.of ek⟩, fun D nD => ?_⟩
      generalize upd H5 kt (.tup [.int (-1), .int 0, .int 1]) = H6 at *
      have hc6 := hc5.mono sk
      refine lc_tup (K := K) (a := kt) (xs := [.int (-1), .int 0, .int 1]) (fun j Hh => Same H6 Hh ∧ ∃ acc : List (Addr × Rat), Hh D = some (.lst (acc.map fun x => V.ref x.1)) ∧ acc.map (·.2) = (([-1, 0, 1] : List Int).take j).map (fun k => e + Rat.divInt k 100) ∧ ∀ x ∈ acc, Num A.c_Number Hh x.1 x.2)
        ⟨same_new nD, [], upd_same, rfl, fun x hx => absurd hx (by simp)⟩ (fun j Hh _ hh => SqT.of (hh.1 _ _ ek)) ?_ ?_
      · rintro j y Hh hy ⟨sh, acc, hD, hm, ha⟩
        obtain ⟨kk, rfl, hk, hb⟩ : ∃ kk : Int, y = .int kk ∧ ([-1, 0, 1] : List Int)[j]? = some kk ∧ kk.natAbs < 2 ^ 1 := by
          match j, hy with
          | 0, hy => cases hy; exact ⟨-1, rfl, rfl, by decide⟩
          | 1, hy => cases hy; exact ⟨0, rfl, rfl, by decide⟩
          | 2, hy => cases hy; exact ⟨1, rfl, rfl, by decide⟩
        have hj3 : j < 3 := (List.getElem?_eq_some_iff.mp hy).1
        obtain ⟨dc, ec⟩ := hc6.mono sh
        refine ⟨rfl, yes_of ?_⟩
        refine iteT ?_
        refine ⟨_, rfl, c, dc, _, rfl, ec, c, dc, _, _, rfl, ec, nf_top e, _, _, rfl, rfl, Or.inr (by decide), _, rfl, c, dc, _, rfl, ec, c, dc, _, _, rfl, ec, nf_bot e, _, rfl, _, _, rfl, rfl, bdw be.den' hb, _, _, rfl, rfl, _, rfl, c, dc, _, rfl, ec, c, dc, _, _, rfl, ec, nf_bot e, _, _, rfl, rfl, Or.inr (by decide), ?_⟩
        intro z dz nz ndz nez
        refine ⟨z, dz, e.num * 100 + (e.den : Int) * kk, (e.den : Int) * 100, rfl, Int.mul_ne_zero (den_ne e) (by decide), up_lt (n := 9000) (imul_lt be.den' (show (100 : Int).natAbs < 2 ^ 7 by decide)) (by decide), upd_same, rfl, ?_⟩
        obtain ⟨s7, hz7⟩ := made_num (C := A.c_Number) (Rat.divInt (e.num * 100 + (e.den : Int) * kk) ((e.den : Int) * 100)) nz ndz
        generalize upd (upd (upd Hh dz (.own z)) z (.ins A.c_Number dz [])) z (.ins A.c_Number dz (nf (Rat.divInt (e.num * 100 + (e.den : Int) * kk) ((e.den : Int) * 100)))) = H7 at *
        rw [spot_eq] at hz7
        have la : acc.length = j := by
          have := congrArg List.length hm
          rw [List.length_map, List.length_map, List.length_take] at this
          rw [this]
          exact Nat.min_eq_left (Nat.le_of_lt hj3)
        have hD7 := s7 _ _ hD
        refine ⟨_, hD7, by rw [List.length_map, la]; exact Nat.lt_trans hj3 (by decide), same_mut (sh.trans s7) nD, acc ++ [(z, e + Rat.divInt kk 100)], by rw [upd_same, List.map_append]; rfl, ?_, fun x hx => ?_⟩
        · rw [List.map_append, hm, List.take_succ, hk, List.map_append]
          rfl
        · rcases List.mem_append.mp hx with hx | hx
          · exact ((ha x hx).mono s7).upl hD7
          · rw [List.mem_singleton.mp hx]
            exact hz7.upl hD7
      rintro Hh ⟨sh, acc, hD, hm, ha⟩
      have hm : acc.map (·.2) = around e := hm.trans (around_eq e)
      have sb6 : Same H5 Hh := sk.trans sh
      obtain ⟨acc2, eF2, lF2, nl6⟩ := (nl5.mono sb6).push hm ha
      have la3 : acc.length = 3 := by
        have := congrArg List.length hm
        rw [List.length_map] at this
        exact this
      refine ⟨F, D, _, _, rfl, rfl, eF2, hD, ?_, ?_⟩
      · rw [List.length_map, List.length_map, lF2, la3]
        have l4 : (([p, q, p', q'] : List Rat).take i).length ≤ 4 := by rw [List.length_take]; exact Nat.le_trans (Nat.min_le_right _ _) (Nat.le_refl _)
        have l12 : ((([p, q, p', q'] : List Rat).take i).flatMap around).length ≤ 12 := by
          rw [List.length_flatMap]
          match i, hi4 with
          | 0, _ => show 0 ≤ 12; decide
          | 1, _ => show 3 ≤ 12; decide
          | 2, _ => show 6 ≤ 12; decide
          | 3, _ => show 9 ≤ 12; decide
        have : ([0, 100000000000000000000] ++ (([p, q, p', q'] : List Rat).take i).flatMap around).length ≤ 14 := by
          rw [List.length_append]
          show 2 + _ ≤ 14
          omega
        have h17 : 17 ≤ sizeLine := by decide
        omega
      · refine ⟨_, rfl, ?_, (sb5.same sb6).trans but_upd, ?_⟩
        · exact same_mut (s6.trans sb6) hF0
        · rw [List.take_succ, hei, List.flatMap_append, ← List.append_assoc]
          exact nl6
    rintro σ H5 ⟨v3, rfl, s6, sb5, nl5⟩
    -- the middles
    have er5 := s6 _ _ er
    have et5 := s6 _ _ et
    refine ⟨_, rfl, _, rfl, r, _, rfl, SqT.of er5, (by show ¬ (HT.sIx 4 0 none = 0 ∧ HT.sIx 4 4 (some 2) = 4); decide), fun u2 nu2 => ?_⟩
    rw [cut_two] at *
    have su2 := same_new (o := .tup [.ref a1, .ref a2]) nu2
    refine ⟨_, rfl, _, rfl, t, _, rfl, SqT.of (su2 _ _ et5), (by show ¬ (HT.sIx 4 0 none = 0 ∧ HT.sIx 4 4 (some 2) = 4); decide), fun v2 nv2 => ?_⟩
    rw [cut_two] at *
    have sv2 := same_new (o := .tup [.ref a3, .ref a4]) nv2
    refine ⟨(by show 2 ≤ sizeLine; decide), fun M nM => ?_⟩
    have sM := same_new (o := .lst [.ref u2, .ref v2]) nM
    have eu2 := sM _ _ (sv2 _ _ (show (upd H5 u2 (.tup [.ref a1, .ref a2])) u2 = some (.tup [.ref a1, .ref a2]) from upd_same))
    have ev2 := sM _ _ (show (upd (upd H5 u2 (.tup [.ref a1, .ref a2])) v2 (.tup [.ref a3, .ref a4])) v2 = some (.tup [.ref a3, .ref a4]) from upd_same)
    have eM : (upd (upd (upd H5 u2 (.tup [.ref a1, .ref a2])) v2 (.tup [.ref a3, .ref a4])) M (.lst [.ref u2, .ref v2])) M = some (.lst [.ref u2, .ref v2]) := upd_same
    have s7 := (su2.trans sv2).trans sM
    refine ⟨M, rfl, ⟨_, SqL.of eM⟩, ?_⟩
    change ∃ W : Nat → Nat → L2.St → Hp → Prop, (∃ m, W 0 m _ (upd (upd (upd H5 u2 (.tup [.ref a1, .ref a2])) v2 (.tup [.ref a3, .ref a4])) M (.lst [.ref u2, .ref v2]))) ∧ _
    have nl7 := nl5.mono s7
    have s8 := s6.trans s7
    have hMF : M ≠ F := fun z => by
      obtain ⟨acc, e, _⟩ := nl5
      rw [z] at nM
      rw [sv2 _ _ (su2 _ _ e)] at nM
      cases nM
    have huF : u2 ≠ F := fun z => by
      obtain ⟨acc, e, _⟩ := nl5
      rw [z, e] at nu2
      cases nu2
    have hvF : v2 ≠ F := fun z => by
      obtain ⟨acc, e, _⟩ := nl5
      rw [z, su2 _ _ e] at nv2
      cases nv2
    generalize upd (upd (upd H5 u2 (.tup [.ref a1, .ref a2])) v2 (.tup [.ref a3, .ref a4])) M (.lst [.ref u2, .ref v2]) = H6 at *
    have rows : ∀ (i : Nat) (z : V), ([.ref u2, .ref v2] : List V)[i]? = some z → ∃ (cc x y : Addr) (m n : Rat), z = .ref cc ∧ cc ≠ F ∧ H6 cc = some (.tup [.ref x, .ref y]) ∧ ([(p + q) / 2, (p' + q') / 2] : List Rat)[i]? = some ((m + n) / 2) ∧ Num A.c_Number H x m ∧ Num A.c_Number H y n ∧ Bd 100 m ∧ Bd 100 n := fun i z hz => by
      match i, hz with
      | 0, hz => cases hz; exact ⟨u2, a1, a2, p, q, rfl, huF, eu2, rfl, h1, h2, bp, bq⟩
      | 1, hz => cases hz; exact ⟨v2, a3, a4, p', q', rfl, hvF, ev2, rfl, h3, h4, bp2, bq2⟩
    refine for_list (K := K) (a := M) (xs := [.ref u2, .ref v2]) (fun i σ H' => ∃ v5 v6, σ = [some (.ref r), some (.ref t), some (.ref F), v3, none, v5, v6] ∧ Same H H' ∧ SameBut F H6 H' ∧ NumL A H' F ([0, 100000000000000000000] ++ (([p, q, p', q'] : List Rat).take 4).flatMap around ++ ([(p + q) / 2, (p' + q') / 2] : List Rat).take i))
      ⟨_, _, rfl, s8, SameBut.refl _ _, by rw [List.take_zero, List.append_nil]; exact nl7⟩ (fun i σ H' _ hh => by
        obtain ⟨_, _, _, _, sb, _⟩ := hh
        exact SqL.of (sb _ _ eM hMF)) ?_ ?_
    · rintro i z σ H7 hz ⟨v5, v6, rfl, s9, sb7, nl8⟩
      obtain ⟨cc, x, y, m, n, rfl, hcF, ec, hei, hx, hy, bm, bn⟩ := rows i z hz
      have hi2 : i < 2 := (List.getElem?_eq_some_iff.mp hz).1
      obtain ⟨dx, ex⟩ := hx.mono s9
      obtain ⟨dy, ey⟩ := hy.mono s9
      refine ⟨cc, _, rfl, SqT.of (sb7 _ _ ec hcF), rfl, _, _, rfl, _, _, rfl, rfl, ?_⟩
      obtain ⟨accF, eF, lF, _⟩ := nl8.push (ys := []) (ws := []) rfl (fun x hx => absurd hx (by simp))
      refine ⟨_, rfl, .inl ⟨rfl, _, SqL.of eF⟩, ?_⟩
      refine ⟨_, rfl, x, dx, _, rfl, ex, x, dx, _, _, rfl, ex, nf_top m, _, rfl, y, dy, _, rfl, ey, y, dy, _, _, rfl, ey, nf_bot n, _, _, rfl, rfl, bdw bm.1 bn.den', _, rfl, y, dy, _, rfl, ey, y, dy, _, _, rfl, ey, nf_top n, _, rfl, x, dx, _, rfl, ex, x, dx, _, _, rfl, ex, nf_bot m, _, _, rfl, rfl, bdw bn.1 bm.den', _, _, rfl, rfl, _, rfl, x, dx, _, rfl, ex, x, dx, _, _, rfl, ex, nf_bot m, _, _, rfl, rfl, Or.inl (by decide), _, rfl, y, dy, _, rfl, ey, y, dy, _, _, rfl, ey, nf_bot n, _, _, rfl, rfl, bdw (imul_lt (show (2 : Int).natAbs < 2 ^ 2 by decide) bm.den') bn.den', ?_⟩
      intro z dz nz ndz nez
      refine ⟨z, dz, m.num * (n.den : Int) + n.num * (m.den : Int), 2 * (m.den : Int) * (n.den : Int), rfl, Int.mul_ne_zero (Int.mul_ne_zero (by decide) (den_ne m)) (den_ne n), up_lt (n := 9000) (imul_lt (imul_lt (show (2 : Int).natAbs < 2 ^ 2 by decide) bm.den') bn.den') (by decide), upd_same, rfl, ?_⟩
      obtain ⟨sz, hz7⟩ := made_num (C := A.c_Number) (Rat.divInt (m.num * (n.den : Int) + n.num * (m.den : Int)) (2 * (m.den : Int) * (n.den : Int))) nz ndz
      generalize upd (upd (upd H7 dz (.own z)) z (.ins A.c_Number dz [])) z (.ins A.c_Number dz (nf (Rat.divInt (m.num * (n.den : Int) + n.num * (m.den : Int)) (2 * (m.den : Int) * (n.den : Int))))) = H8 at *
      rw [half_mk] at hz7
      obtain ⟨acc2, eF2, lF2, nl9⟩ := (nl8.mono sz).push (ys := [(z, (m + n) / 2)]) (ws := [(m + n) / 2]) rfl (fun x hx => by rw [List.mem_singleton.mp hx]; exact hz7)
      refine ⟨F, _, .ref z, rfl, rfl, eF2, ?_, ?_⟩
      · rw [List.length_map, lF2]
        have l2 : (([(p + q) / 2, (p' + q') / 2] : List Rat).take i).length ≤ 2 := by rw [List.length_take]; exact Nat.min_le_right _ _
        have : ([0, 100000000000000000000] ++ (([p, q, p', q'] : List Rat).take 4).flatMap around ++ ([(p + q) / 2, (p' + q') / 2] : List Rat).take i).length ≤ 16 := by
          rw [List.length_append]
          show 14 + _ ≤ 16
          omega
        have h17 : 17 ≤ sizeLine := by decide
        omega
      · refine ⟨_, _, rfl, same_mut (s9.trans sz) hF0, (sb7.same sz).trans but_upd, ?_⟩
        rw [show ([(p + q) / 2, (p' + q') / 2] : List Rat).take (i + 1) = ([(p + q) / 2, (p' + q') / 2] : List Rat).take i ++ [(m + n) / 2] by rw [List.take_succ, hei]; rfl, ← List.append_assoc]
        exact nl9
    rintro σ H7 ⟨v5, v6, rfl, s9, sb7, nl8⟩
    refine ⟨_, rfl, ?_⟩
    exact k F H7 s9 nl8
end
/-! ### k08: one turn -/
theorem nes {d e : PyData} (h : d = e) : (!decide (V.str d.shown = V.str e.shown)) = false := by
  subst h
  simp
theorem nb {a b : Bool} (h : a = b) : (!decide (V.bl a = V.bl b)) = false := by
  subst h
  simp
theorem nbn (a : Bool) : decide (V.bl (!a) = V.bl a) = false := by
  rw [dbl]
  cases a <;> rfl
theorem cut_tail (x y z w : V) : cutV [x, y, z, w] (some 2) none = [z, w] := rfl
theorem eqv_two (a b c d : Bool) : PyData.eqv (.tuple [.bool a, .bool b]) (.tuple [.bool c, .bool d]) = (decide (a = c) && decide (b = d)) := by
  cases a <;> cases b <;> cases c <;> cases d <;> rfl
theorem eqv_bools : ∀ xs ys : List Bool, PyData.eqv (.list (xs.map PyData.bool)) (.list (ys.map PyData.bool)) = decide (xs = ys)
  | [], [] => rfl
  | [], y :: ys => rfl
  | x :: xs, [] => rfl
  | x :: xs, y :: ys => by
    have h := eqv_bools xs ys
    show (PyData.eqv (.bool x) (.bool y) && PyData.eqv (.list (xs.map PyData.bool)) (.list (ys.map PyData.bool))) = _
    rw [h, Bool.eq_iff_iff]
    cases x <;> cases y <;> simp [PyData.eqv]
theorem dp_bools {K : PySem.W.Frag} {H : Hp} : ∀ bs : List Bool, DpAll K H (bs.map V.bl) (bs.map PyData.bool)
  | [] => .nil
  | b :: bs => .cons (.bl b) (dp_bools bs)
theorem bools_show (bs : List Bool) : Shows (.list (bs.map PyData.bool)) ((5 + 2) * (bs.map PyData.bool).length + 3) 1 := .list (k := 0) fun d hd => by
  obtain ⟨b, _, rfl⟩ := List.mem_map.mp hd
  exact .bool
theorem bools_shaped (bs : List Bool) : SeqAt.shaped (.list (bs.map PyData.bool)) = true := by
  have h1 : ∀ bs : List Bool, PyData.canLayAll0 (bs.map PyData.bool) = true := fun bs => by
    induction bs with
    | nil => rfl
    | cons b bs ih => simp [PyData.canLayAll0, PyData.canLay0, ih]
  unfold SeqAt.shaped
  rw [Bool.and_eq_true]
  refine ⟨by simpa only [PyData.canLay0] using h1 bs, decide_eq_true ?_⟩
  have := (bools_show bs).dp
  omega
theorem half_bd {p q : Rat} (hp : Bd 100 p) (hq : Bd 100 q) : Bd 4000 ((p + q) / 2) := by
  have h2 : Bd 2 (2 : Rat) := ⟨by decide, by decide⟩
  exact ((hp.add hq).div h2 (by decide)).mono (by decide)
theorem spots_bd {p q p2 q2 : Rat} (hp : Bd 100 p) (hq : Bd 100 q) (hp2 : Bd 100 p2) (hq2 : Bd 100 q2) : ∀ u ∈ spotsOf p q p2 q2, Bd 4000 u := by
  have h1 : Bd 7 (1 / 100 : Rat) := ⟨by decide +kernel, by decide +kernel⟩
  have one : ∀ e : Rat, Bd 100 e → ∀ u ∈ [e - 1 / 100, e, e + 1 / 100], Bd 4000 u := fun e he u hu => by
    rcases List.mem_cons.mp hu with rfl | hu
    · exact (he.sub h1).mono (by decide)
    · rcases List.mem_cons.mp hu with rfl | hu
      · exact he.mono (by decide)
      · rw [List.mem_singleton.mp hu]
        exact (he.add h1).mono (by decide)
  intro u hu
  unfold spotsOf at hu
  rcases List.mem_append.mp hu with hu | hu
  · rcases List.mem_append.mp hu with hu | hu
    · rcases List.mem_cons.mp hu with rfl | hu
      · exact ⟨by decide +kernel, by decide +kernel⟩
      · rw [List.mem_singleton.mp hu]
        exact ⟨up_lt (show (100000000000000000000 : Rat).num.natAbs < 2 ^ 70 by decide +kernel) (by decide), up_lt (show (100000000000000000000 : Rat).den < 2 ^ 1 by decide +kernel) (by decide)⟩
    · obtain ⟨e, he, hu⟩ := List.mem_flatMap.mp hu
      have be : Bd 100 e := by
        rcases List.mem_cons.mp he with rfl | he
        · exact hp
        · rcases List.mem_cons.mp he with rfl | he
          · exact hq
          · rcases List.mem_cons.mp he with rfl | he
            · exact hp2
            · rw [List.mem_singleton.mp he]
              exact hq2
      exact one e be u hu
  · rcases List.mem_cons.mp hu with rfl | hu
    · exact half_bd hp hq
    · rw [List.mem_singleton.mp hu]
      exact half_bd hp2 hq2
section
variable {P : Program} {w : World} {K : PySem.W.Frag} {mg : Str → Option Value} {base : Heap} {A : Ad}
def spRight : Sp := fun vs H Q _ => ∃ (pt : Addr) (c : Nat), vs = [.ref pt] ∧ Pot H pt c ∧ c ≤ 70000 ∧ ∀ H', Pot H' pt (c + 15) → SameBut pt H H' → Q (.bl true) H'
theorem ok_law_is_right (T : Txt K mg A) : FnG P w K mg base CX0 10 A.f_law_is_right A.d_law_is_right ["pot"] spRight := by
  refine okG T.F_law_is_right sc_law_is_right (fun vs H Q E h => ?_) (fun cdv B outer s H vs Q E hG hr h => ?_)
  · obtain ⟨pt, c, rfl, _⟩ := h
    rfl
  · obtain ⟨pt, c, rfl, hP, hc, k⟩ := h
    have hr1 : Room 1 _ := hr.mono (by decide)
    have hr2 : Room 2 _ := hr.mono (by decide)
    have hr3 : Room 3 _ := hr.mono (by decide)
    have hr4 : Room 4 _ := hr.mono (by decide)
    have hr5 : Room 5 _ := hr.mono (by decide)
    have hr8 : Room 8 _ := hr.mono (by decide)
    refine ⟨_, (pss_cons (ps_asg (pe_tup (pa_cons (pe_call (ok_law_ends T) hr4 rfl T.g_law_ends T.F_law_ends.kp T.b_law_ends .nil pass0 (pa_cons (pv 0) pa_nil)) (pa_cons (pe_call (ok_law_ends T) hr4 rfl T.g_law_ends T.F_law_ends.kp T.b_law_ends .nil pass0 (pa_cons (pv 0) pa_nil)) pa_nil))) (pgTup K 2 rfl (pgs_cons (pg_name (i := 1) sc_law_is_right.nd rfl (Or.inr rfl)) (pgs_cons (pg_name (i := 2) sc_law_is_right.nd rfl (Or.inr rfl)) pgs_nil))))
      (Evl.pss_cut (ps_if (PW.pt (pw_and (pt_cmpR op_eq (pe_call (ok_law_take T) hr1 rfl T.g_law_take T.F_law_take.kp T.b_law_take .nil pass0 (pa_cons (pv 0) (pa_cons pe_int pa_nil))) pe_int (nomark _)) (pw_and1 (pt_not (pt_cmpR (opOwnEq K (ok_Number_eq T) T.b_Number_eq T.m_Number_eq.at_ T.m_Number_eq.fn hr1 pass0) (pe_ix ix_tup (pv 1) pe_int (fun _ _ => rfl)) (pe_ix ix_tup (pv 1) pe_int (fun _ _ => rfl)) (nomark _)))))) (pss_one (ps_set (i := 2) sc_law_is_right.nd rfl (Or.inr rfl) (pe_op op_catT (pe_slice sl_tup (pv 1) po_none (po_some pe_int)) (pe_tup (pa_cons (pe_cmpR op_eq (pe_call (ok_law_take T) hr1 rfl T.g_law_take T.F_law_take.kp T.b_law_take .nil pass0 (pa_cons (pv 0) (pa_cons pe_int pa_nil))) pe_int (nomark _)) (pa_cons (pe_cmpR op_eq (pe_call (ok_law_take T) hr1 rfl T.g_law_take T.F_law_take.kp T.b_law_take .nil pass0 (pa_cons (pv 0) (pa_cons pe_int pa_nil))) pe_int (nomark _)) pa_nil)))))) pss_nil)
      (pss_cons (ps_asg (pe_tup (pa_cons (pe_call (ok_law_made T) hr8 rfl T.g_law_made T.F_law_made.kp T.b_law_made .nil pass0 (pa_cons (pv 1) pa_nil)) (pa_cons (pe_call (ok_law_made T) hr8 rfl T.g_law_made T.F_law_made.kp T.b_law_made .nil pass0 (pa_cons (pv 2) pa_nil)) (pa_cons (pe_call (ok_law_spots T) hr5 rfl T.g_law_spots T.F_law_spots.kp T.b_law_spots .nil pass0 (pa_cons (pv 1) (pa_cons (pv 2) pa_nil))) pa_nil)))) (pgTup K 3 rfl (pgs_cons (pg_name (i := 3) sc_law_is_right.nd rfl (Or.inr rfl)) (pgs_cons (pg_name (i := 4) sc_law_is_right.nd rfl (Or.inr rfl)) (pgs_cons (pg_name (i := 5) sc_law_is_right.nd rfl (Or.inl rfl)) pgs_nil)))))
      (pss_cons (ps_par (i := 6) (j := 7) rfl sc_law_is_right.nd rfl rfl (by decide) rfl rfl (pa_cons (pe_lc (own := [("s", 8)]) (g := gName 8) (tt := tYes) rfl sc_law_is_right.nd (pi_list (pv 5)) (blkOk_by (N := N_law_is_right) (sc := defScope s_law_is_right) (by decide +kernel)) (fun _ _ _ _ _ => (pg_name (i := 8) sc_law_is_right.nd rfl (Or.inl rfl))) (fun _ _ _ _ _ => pts_nil) (fun _ _ _ _ _ => (pe_cmpR (op_ownIn (ok_Stretch_contains T) T.b_Stretch_contains T.m_Stretch_contains.at_ T.m_Stretch_contains.fn hr1 pass0) (pv 8) (pv 3) (by with_unfolding_all rfl)))) (pa_cons (pe_lc (own := [("s", 8)]) (g := gName 8) (tt := tYes) rfl sc_law_is_right.nd (pi_list (pv 5)) (blkOk_by (N := N_law_is_right) (sc := defScope s_law_is_right) (by decide +kernel)) (fun _ _ _ _ _ => (pg_name (i := 8) sc_law_is_right.nd rfl (Or.inl rfl))) (fun _ _ _ _ _ => pts_nil) (fun _ _ _ _ _ => (pe_cmpR (op_ownIn (ok_Stretch_contains T) T.b_Stretch_contains T.m_Stretch_contains.at_ T.m_Stretch_contains.fn hr1 pass0) (pv 8) (pv 4) (by with_unfolding_all rfl)))) pa_nil)) (by rfl))
      (pss_cons (ps_if (pt_cmpR op_ne (pe_callB (call_reprD hG hr.units) (by rfl) T.z_repr (by decide +kernel) (pa_cons (pv 6) pa_nil)) (pe_callB (call_reprD hG hr.units) (by rfl) T.z_repr (by decide +kernel) (pa_cons (pe_lc (own := [("s", 8)]) (g := gName 8) (tt := tYes) rfl sc_law_is_right.nd (pi_list (pv 5)) (blkOk_by (N := N_law_is_right) (sc := defScope s_law_is_right) (by decide +kernel)) (fun _ _ _ _ _ => (pg_name (i := 8) sc_law_is_right.nd rfl (Or.inl rfl))) (fun _ _ _ _ _ => pts_nil) (fun _ _ _ _ _ => (pe_call (ok_law_lies T) hr3 rfl T.g_law_lies T.F_law_lies.kp T.b_law_lies .nil pass0 (pa_cons (pv 1) (pa_cons (pv 8) pa_nil))))) pa_nil)) (nomark _)) (pss_one (ps_ret pe_bl)) pss_nil)
      (pss_cons (ps_if (pt_cmpR op_ne (pe_callB (call_reprD hG hr.units) (by rfl) T.z_repr (by decide +kernel) (pa_cons (pv 7) pa_nil)) (pe_callB (call_reprD hG hr.units) (by rfl) T.z_repr (by decide +kernel) (pa_cons (pe_lc (own := [("s", 8)]) (g := gName 8) (tt := tYes) rfl sc_law_is_right.nd (pi_list (pv 5)) (blkOk_by (N := N_law_is_right) (sc := defScope s_law_is_right) (by decide +kernel)) (fun _ _ _ _ _ => (pg_name (i := 8) sc_law_is_right.nd rfl (Or.inl rfl))) (fun _ _ _ _ _ => pts_nil) (fun _ _ _ _ _ => (pe_call (ok_law_lies T) hr3 rfl T.g_law_lies T.F_law_lies.kp T.b_law_lies .nil pass0 (pa_cons (pv 2) (pa_cons (pv 8) pa_nil))))) pa_nil)) (nomark _)) (pss_one (ps_ret pe_bl)) pss_nil)
      (Evl.pss_cut (ps_set (i := 9) sc_law_is_right.nd rfl (Or.inl rfl) (pe_and (pe_cmpR (opOwnEq K (ok_Number_eq T) T.b_Number_eq T.m_Number_eq.at_ T.m_Number_eq.fn hr1 pass0) (pe_ix ix_tup (pv 1) pe_int (fun _ _ => rfl)) (pe_ix ix_tup (pv 2) pe_int (fun _ _ => rfl)) (nomark _)) (pe_and (pe_cmpR (opOwnEq K (ok_Number_eq T) T.b_Number_eq T.m_Number_eq.at_ T.m_Number_eq.fn hr1 pass0) (pe_ix ix_tup (pv 1) pe_int (fun _ _ => rfl)) (pe_ix ix_tup (pv 2) pe_int (fun _ _ => rfl)) (nomark _)) (pe_one (pe_cmpR (opEqD K hr.units) (pe_slice sl_tup (pv 1) (po_some pe_int) po_none) (pe_slice sl_tup (pv 2) (po_some pe_int) po_none) (nomark _))))))
      (pss_cons (ps_if (PW.pt (pw_or (pt_cmpR op_ne (pe_cmpR (opOwnEq K (ok_Stretch_eq T) T.b_Stretch_eq T.m_Stretch_eq.at_ T.m_Stretch_eq.fn hr3 pass0) (pv 3) (pv 4) (nomark _)) (pv 9) (nomark _)) (pw_or (pt_cmpR op_eq (pe_cmpR (op_ownNe K (ok_Stretch_eq T) T.b_Stretch_eq T.ne_Stretch T.cm_Stretch T.m_Stretch_eq.at_ T.m_Stretch_eq.fn hr4 pass0) (pv 3) (pv 4) (nomark _)) (pv 9) (nomark _)) (pw_or1 (pt_cmpR op_ne (pv 9) (pe_cmpR (opEqD K hr.units) (pv 6) (pv 7) (nomark _)) (nomark _)))))) (pss_one (ps_ret pe_bl)) pss_nil)
      (pss_cons (ps_if (PW.pt (pw_or (pt_cmpR (op_ownNe K (ok_Stretch_eq T) T.b_Stretch_eq T.ne_Stretch T.cm_Stretch T.m_Stretch_eq.at_ T.m_Stretch_eq.fn hr4 pass0) (pv 3) (pe_call (ok_law_made T) hr8 rfl T.g_law_made T.F_law_made.kp T.b_law_made .nil pass0 (pa_cons (pv 1) pa_nil)) (nomark _)) (pw_or (pt_not (pt_val (pe_callB call_isi (by rfl) T.z_isinstance (by decide +kernel) (pa_cons (pe_prop (pv 3) T.cl_Stretch T.P_Stretch_middle (ok_Stretch_middle T) hr2 T.b_Stretch_middle .nil pass0 rfl) (pa_cons (pe_glob (v := .ref A.c_Number) (by rfl) T.g_Number rfl) pa_nil))))) (pw_or1 (pt_not (pt_val (pe_callB call_isi (by rfl) T.z_isinstance (by decide +kernel) (pa_cons (pe_prop (pv 4) T.cl_Stretch T.P_Stretch_middle (ok_Stretch_middle T) hr2 T.b_Stretch_middle .nil pass0 rfl) (pa_cons (pe_glob (v := .ref A.c_Number) (by rfl) T.g_Number rfl) pa_nil))))))))) (pss_one (ps_ret pe_bl)) pss_nil)
      (pss_one (ps_ret (pe_and (pe_cmpR (op_ownIn (ok_Stretch_contains T) T.b_Stretch_contains T.m_Stretch_contains.at_ T.m_Stretch_contains.fn hr1 pass0) (pe_prop (pv 3) T.cl_Stretch T.P_Stretch_middle (ok_Stretch_middle T) hr2 T.b_Stretch_middle .nil pass0 rfl) (pv 3) (by with_unfolding_all rfl)) (pe_one (pe_cmpR (op_ownIn (ok_Stretch_contains T) T.b_Stretch_contains T.m_Stretch_contains.at_ T.m_Stretch_contains.fn hr1 pass0) (pe_prop (pv 4) T.cl_Stretch T.P_Stretch_middle (ok_Stretch_middle T) hr2 T.b_Stretch_middle .nil pass0 rfl) (pv 4) (by with_unfolding_all rfl))))))))))))))), ?_⟩
    refine ⟨_, rfl, pt, c, rfl, hP, by omega, fun r Ha p q b1 b2 E1 g1 sp sq P1 s1 => ?_⟩
    refine ⟨_, rfl, pt, c + 6, rfl, P1, by omega, fun t0 Hb p0 q0 d1 d2 E0 g0 sp0 sq0 P2 s2 => ?_⟩
    refine ⟨by show 2 ≤ sizeLine; decide, fun u nu => ?_⟩
    refine ⟨u, _, rfl, SqT.of upd_same, rfl, _, _, rfl, _, _, rfl, rfl, ?_⟩
    have su := same_new (o := .tup [.ref r, .ref t0]) nu
    have E1 := (E1.but s2 P1.lst).mono su
    have E0 := E0.mono su
    have P2 := P2.same su
    have sbb := ((s1.trans s2).same su)
    generalize upd Hb u (.tup [.ref r, .ref t0]) = Hc at *
    refine stT (σ' := [some (.ref pt), some (.ref r), some (.ref t0), none, none, none, none, none, none, none]) rfl ?_
    refine ⟨fun σ' H' => ∃ t p2 q2 c1 c2 n, σ' = [some (.ref pt), some (.ref r), some (.ref t), none, none, none, none, none, none, none] ∧ SameBut pt H H' ∧ Pot H' pt n ∧ n ≤ c + 15 ∧ Ends4 A H' r p q b1 b2 ∧ Ends4 A H' t p2 q2 c1 c2 ∧ Good p2 q2 c1 c2 ∧ Six p2 ∧ Six q2, ?_, ?_⟩
    · refine ⟨_, rfl, pt, 3, c + 12, rfl, (by decide), up_lt (n := 9000) (show (3 : Int).natAbs < 2 ^ 8 by decide) (by decide), P2, (by omega), fun w Hd _ _ P3 s3 => ?_⟩
      have E1 := E1.but s3 P2.lst
      have E0 := E0.but s3 P2.lst
      have sbb := sbb.trans s3
      refine ⟨rfl, _, rfl, ?_⟩
      refine ite2 (fun _ => ?_) (fun _ => iteF' rfl ⟨t0, p0, q0, d1, d2, _, rfl, sbb, P3, by omega, E1, E0, g0, sp0, sq0⟩)
      obtain ⟨a1, a2, er, h1, h2⟩ := E1
      refine ⟨_, rfl, r, _, _, _, rfl, rfl, SqT.of er, rfl, _, rfl, r, _, _, _, rfl, rfl, SqT.of er, rfl, a1, _, _, _, rfl, h1.choose_spec, .base (.ins h2.choose_spec T.cl_Number T.ca_Number T.cn T.ct T.cm_Number), (by simp [PySem.W.notFirst]), a1, a2, p, q, rfl, h1, h2, _, rfl, ?_⟩
      by_cases hpq : p = q
      · exact iteF' (by rw [decide_eq_true hpq]; rfl) ⟨t0, p0, q0, d1, d2, _, rfl, sbb, P3, by omega, ⟨a1, a2, er, h1, h2⟩, E0, g0, sp0, sq0⟩
      · refine iteT' (by rw [decide_eq_false hpq]; rfl) ?_
        have lpq : p < q := by
          rcases g1 with h | ⟨h, _⟩
          · exact h
          · exact absurd h hpq
        refine ⟨_, rfl, _, rfl, r, _, rfl, SqT.of er, (by show ¬ (HT.sIx 4 0 none = 0 ∧ HT.sIx 4 4 (some 2) = 4); decide), fun u nu => ?_⟩
        rw [cut_two] at *
        have su := same_new (o := .tup [.ref a1, .ref a2]) nu
        have eu : (upd Hd u (.tup [.ref a1, .ref a2])) u = some (.tup [.ref a1, .ref a2]) := upd_same
        have P3 := P3.same su
        have sbb := sbb.same su
        have er := su _ _ er
        have h1 := h1.mono su
        have h2 := h2.mono su
        generalize upd Hd u (.tup [.ref a1, .ref a2]) = He at *
        refine ⟨_, rfl, pt, 2, c + 12 + 1, rfl, (by decide), up_lt (n := 9000) (show (2 : Int).natAbs < 2 ^ 8 by decide) (by decide), P3, (by omega), fun w1 Hf _ _ P4 s4 => ?_⟩
        refine ⟨rfl, _, rfl, pt, 2, c + 12 + 1 + 1, rfl, (by decide), up_lt (n := 9000) (show (2 : Int).natAbs < 2 ^ 8 by decide) (by decide), P4, (by omega), fun w2 Hg _ _ P5 s5 => ?_⟩
        refine ⟨rfl, by show 2 ≤ sizeLine; decide, fun v nv => ?_⟩
        have s45 := s4.trans s5
        have eu := tup_but eu s45 P3.lst
        have er := tup_but er s45 P3.lst
        have h1 := h1.but s45 P3.lst
        have h2 := h2.but s45 P3.lst
        have sv := same_new (o := .tup [.bl (decide (V.int w1 = V.int 0)), .bl (decide (V.int w2 = V.int 0))]) nv
        refine ⟨u, v, [.ref a1, .ref a2], [.bl (decide (V.int w1 = V.int 0)), .bl (decide (V.int w2 = V.int 0))], rfl, rfl, SqT.of (sv _ _ eu), SqT.of upd_same, (by simp), (by show 4 ≤ sizeLine; decide), (fun z => nomatch z), fun _ x nx => ?_⟩
        have sx := same_new (o := .tup ([.ref a1, .ref a2] ++ [.bl (decide (V.int w1 = V.int 0)), .bl (decide (V.int w2 = V.int 0))])) nx
        have svx := sv.trans sx
        exact ⟨x, p, q, _, _, _, rfl, (sbb.trans s45).same svx, P5.same svx, by omega, ⟨a1, a2, svx _ _ er, h1.mono svx, h2.mono svx⟩, ⟨a1, a2, upd_same, h1.mono svx, h2.mono svx⟩, .inl lpq, sp, sq⟩
    clear E0 E1 P2 g0 sp0 sq0 su nu s1 s2 P1 sbb
    rintro σ' Hm ⟨t, p2, q2, c1, c2, n, rfl, sbb, PM, hn, E1, E2, g2, sp2, sq2⟩
    have fin : ∀ H', Same Hm H' → Q (.bl true) H' := fun H' s => k H' ((PM.same s).mono hn) (sbb.same s)
    have bus := spots_bd sp.bd sq.bd sp2.bd sq2.bd
    have same := spots_tell g1 g2 sp sq sp2 sq2
    refine ⟨_, rfl, r, p, q, b1, b2, rfl, E1, sp.bd.mono (by decide), sq.bd.mono (by decide), g1, fun x1 H2 s3 n4 h5 => ?_⟩
    have g6 := (Same.refl Hm).trans s3
    have g7 := E1.mono s3
    have g8 := E2.mono s3
    clear E1 E2
    refine ⟨_, rfl, t, p2, q2, c1, c2, rfl, g8, sp2.bd.mono (by decide), sq2.bd.mono (by decide), g2, fun x9 H10 s11 n12 h13 => ?_⟩
    have g14 := g6.trans s11
    have g15 := g7.mono s11
    have g16 := g8.mono s11
    have g17 := h5.mono s11
    clear g6 g7 g8 h5
    refine ⟨_, rfl, _, rfl, r, t, p, q, p2, q2, b1, b2, c1, c2, rfl, g15, g16, sp.bd, sq.bd, sp2.bd, sq2.bd, fun l18 H19 s20 h21 => ?_⟩
    have g22 := g14.trans s20
    have g23 := g15.mono s20
    have g24 := g16.mono s20
    have g25 := g17.mono s20
    have g26 := h13.mono s20
    clear g14 g15 g16 g17 h13
    refine ⟨by show 3 ≤ sizeLine; decide, fun l27 nl28 => ?_⟩
    have n032 : Hm l27 = none := (g22).free nl28
    have e31 : (upd H19 l27 (.tup [.ref x1, .ref x9, .ref l18])) l27 = some (.tup [.ref x1, .ref x9, .ref l18]) := upd_same
    have s30 := same_new (o := .tup [.ref x1, .ref x9, .ref l18]) nl28
    generalize upd H19 l27 (.tup [.ref x1, .ref x9, .ref l18]) = H29 at *
    have g33 := g22.trans s30
    have g34 := g23.mono s30
    have g35 := g24.mono s30
    have g36 := g25.mono s30
    have g37 := g26.mono s30
    have g38 := h21.mono s30
    clear g22 g23 g24 g25 g26 h21
    refine ⟨l27, _, rfl, SqT.of e31, rfl, _, _, rfl, _, _, rfl, _, _, rfl, rfl, ?_⟩
    refine stT (σ' := [some (.ref pt), some (.ref r), some (.ref t), some (.ref x1), some (.ref x9), some (.ref l18), none, none, none, none]) rfl ?_
    obtain ⟨acc39, e40, m41, ha42⟩ := id g38
    refine ⟨_, rfl, l18, rfl, ⟨_, SqL.of e40⟩, fun D43 nD44 => lc_list (K := K) (a := l18) (xs := acc39.map fun x => V.ref x.1) (fun i Hh => Same H29 Hh ∧ Hh D43 = some (.lst (((acc39.take i).map fun x => (inS p q b1 b2) x.2).map V.bl)))
      ⟨same_new nD44, upd_same⟩ (fun i Hh _ hh => SqL.of (hh.1 _ _ e40)) ?_ ?_⟩
    · rintro i yy Hh hi ⟨zz, hD⟩
      obtain ⟨so, hso, rfl⟩ : ∃ so, acc39[i]? = some so ∧ yy = .ref so.1 := by
        rw [List.getElem?_map] at hi
        cases e : acc39[i]? with
        | none => rw [e] at hi; cases hi
        | some so => rw [e] at hi; exact ⟨so, rfl, (Option.some.inj hi).symm⟩
      have hm : so ∈ acc39 := List.mem_of_getElem? hso
      have hb : so.2 ∈ (spotsOf p q p2 q2) := by rw [← m41]; exact List.mem_map.mpr ⟨so, hm, rfl⟩
      have hi16 : i < 16 := by
        have h1 := (List.getElem?_eq_some_iff.mp hso).1
        have h2 : acc39.length = 16 := by
          have := congrArg List.length m41
          rw [List.length_map] at this
          exact this
        omega
      refine ⟨rfl, yes_of ?_⟩
      refine iteT ?_
      refine ⟨_, rfl, _, rfl, x1, _, _, rfl, (g36.mono zz).choose_spec.choose_spec.choose_spec.choose_spec.1, x1, so.1, p, q, so.2, b1, b2, rfl, g36.mono zz, (ha42 so hm).mono zz, sp.bd.mono (by decide), sq.bd.mono (by decide), bus so.2 hb, _, rfl, ?_⟩
      refine ⟨_, hD, ?_, same_mut zz nD44, ?_⟩
      · rw [List.length_map, List.length_map, List.length_take]
        exact Nat.lt_of_le_of_lt (Nat.min_le_left _ _) (Nat.lt_trans hi16 (by decide))
      · rw [upd_same, List.take_succ, hso, List.map_append, List.map_append]
        rfl
    rintro H45 ⟨s46, e47⟩
    have e47 : H45 D43 = some (.lst (((spotsOf p q p2 q2).map (inS p q b1 b2)).map V.bl)) := by
      rw [e47, List.length_map, List.take_length, ← m41]
      simp only [List.map_map]
      rfl
    clear e40 m41 ha42
    have g48 := g33.trans s46
    have g49 := g34.mono s46
    have g50 := g35.mono s46
    have g51 := g36.mono s46
    have g52 := g37.mono s46
    have g53 := g38.mono s46
    clear g33 g34 g35 g36 g37 g38
    obtain ⟨acc54, e55, m56, ha57⟩ := id g53
    refine ⟨_, rfl, l18, rfl, ⟨_, SqL.of e55⟩, fun D58 nD59 => lc_list (K := K) (a := l18) (xs := acc54.map fun x => V.ref x.1) (fun i Hh => Same H45 Hh ∧ Hh D58 = some (.lst (((acc54.take i).map fun x => (inS p2 q2 c1 c2) x.2).map V.bl)))
      ⟨same_new nD59, upd_same⟩ (fun i Hh _ hh => SqL.of (hh.1 _ _ e55)) ?_ ?_⟩
    · rintro i yy Hh hi ⟨zz, hD⟩
      obtain ⟨so, hso, rfl⟩ : ∃ so, acc54[i]? = some so ∧ yy = .ref so.1 := by
        rw [List.getElem?_map] at hi
        cases e : acc54[i]? with
        | none => rw [e] at hi; cases hi
        | some so => rw [e] at hi; exact ⟨so, rfl, (Option.some.inj hi).symm⟩
      have hm : so ∈ acc54 := List.mem_of_getElem? hso
      have hb : so.2 ∈ (spotsOf p q p2 q2) := by rw [← m56]; exact List.mem_map.mpr ⟨so, hm, rfl⟩
      have hi16 : i < 16 := by
        have h1 := (List.getElem?_eq_some_iff.mp hso).1
        have h2 : acc54.length = 16 := by
          have := congrArg List.length m56
          rw [List.length_map] at this
          exact this
        omega
      refine ⟨rfl, yes_of ?_⟩
      refine iteT ?_
      refine ⟨_, rfl, _, rfl, x9, _, _, rfl, (g52.mono zz).choose_spec.choose_spec.choose_spec.choose_spec.1, x9, so.1, p2, q2, so.2, c1, c2, rfl, g52.mono zz, (ha57 so hm).mono zz, sp2.bd.mono (by decide), sq2.bd.mono (by decide), bus so.2 hb, _, rfl, ?_⟩
      refine ⟨_, hD, ?_, same_mut zz nD59, ?_⟩
      · rw [List.length_map, List.length_map, List.length_take]
        exact Nat.lt_of_le_of_lt (Nat.min_le_left _ _) (Nat.lt_trans hi16 (by decide))
      · rw [upd_same, List.take_succ, hso, List.map_append, List.map_append]
        rfl
    rintro H60 ⟨s61, e62⟩
    have e62 : H60 D58 = some (.lst (((spotsOf p q p2 q2).map (inS p2 q2 c1 c2)).map V.bl)) := by
      rw [e62, List.length_map, List.take_length, ← m56]
      simp only [List.map_map]
      rfl
    clear e55 m56 ha57
    have g63 := g48.trans s61
    have g64 := g49.mono s61
    have g65 := g50.mono s61
    have g66 := g51.mono s61
    have g67 := g52.mono s61
    have g68 := g53.mono s61
    have g69 := s61 _ _ e47
    clear g48 g49 g50 g51 g52 g53 e47
    refine ⟨_, _, rfl, ?_⟩
    refine stT (σ' := [some (.ref pt), some (.ref r), some (.ref t), some (.ref x1), some (.ref x9), some (.ref l18), some (.ref D43), some (.ref D58), none, none]) rfl ?_
    refine ⟨_, rfl, D43, (.list (((spotsOf p q p2 q2).map (inS p q b1 b2)).map PyData.bool)), _, 1, rfl, .lst (SqL.of g69) (dp_bools _), bools_show _, (by show 7 * 16 + 3 ≤ 16000000; decide), by decide, ?_⟩
    obtain ⟨acc70, e71, m72, ha73⟩ := id g68
    refine ⟨_, rfl, l18, rfl, ⟨_, SqL.of e71⟩, fun D74 nD75 => lc_list (K := K) (a := l18) (xs := acc70.map fun x => V.ref x.1) (fun i Hh => Same H60 Hh ∧ Hh D74 = some (.lst (((acc70.take i).map fun x => (inS p q b1 b2) x.2).map V.bl)))
      ⟨same_new nD75, upd_same⟩ (fun i Hh _ hh => SqL.of (hh.1 _ _ e71)) ?_ ?_⟩
    · rintro i yy Hh hi ⟨zz, hD⟩
      obtain ⟨so, hso, rfl⟩ : ∃ so, acc70[i]? = some so ∧ yy = .ref so.1 := by
        rw [List.getElem?_map] at hi
        cases e : acc70[i]? with
        | none => rw [e] at hi; cases hi
        | some so => rw [e] at hi; exact ⟨so, rfl, (Option.some.inj hi).symm⟩
      have hm : so ∈ acc70 := List.mem_of_getElem? hso
      have hb : so.2 ∈ (spotsOf p q p2 q2) := by rw [← m72]; exact List.mem_map.mpr ⟨so, hm, rfl⟩
      have hi16 : i < 16 := by
        have h1 := (List.getElem?_eq_some_iff.mp hso).1
        have h2 : acc70.length = 16 := by
          have := congrArg List.length m72
          rw [List.length_map] at this
          exact this
        omega
      refine ⟨rfl, yes_of ?_⟩
      refine iteT ?_
      refine ⟨_, rfl, _, rfl, r, so.1, p, q, so.2, b1, b2, rfl, g64.mono zz, (ha73 so hm).mono zz, sp.bd.mono (by decide), sq.bd.mono (by decide), bus so.2 hb, ?_⟩
      refine ⟨_, hD, ?_, same_mut zz nD75, ?_⟩
      · rw [List.length_map, List.length_map, List.length_take]
        exact Nat.lt_of_le_of_lt (Nat.min_le_left _ _) (Nat.lt_trans hi16 (by decide))
      · rw [upd_same, List.take_succ, hso, List.map_append, List.map_append]
        rfl
    rintro H76 ⟨s77, e78⟩
    have e78 : H76 D74 = some (.lst (((spotsOf p q p2 q2).map (inS p q b1 b2)).map V.bl)) := by
      rw [e78, List.length_map, List.take_length, ← m72]
      simp only [List.map_map]
      rfl
    clear e71 m72 ha73
    have g79 := g63.trans s77
    have g80 := g64.mono s77
    have g81 := g65.mono s77
    have g82 := g66.mono s77
    have g83 := g67.mono s77
    have g84 := g68.mono s77
    have g85 := s77 _ _ g69
    have g86 := s77 _ _ e62
    clear g63 g64 g65 g66 g67 g68 g69 e62
    refine ⟨D74, (.list (((spotsOf p q p2 q2).map (inS p q b1 b2)).map PyData.bool)), _, 1, rfl, .lst (SqL.of e78) (dp_bools _), bools_show _, (by show 7 * 16 + 3 ≤ 16000000; decide), by decide, rfl, _, rfl, ?_⟩
    rw [nes (d := (.list (((spotsOf p q p2 q2).map (inS p q b1 b2)).map PyData.bool))) (e := (.list (((spotsOf p q p2 q2).map (inS p q b1 b2)).map PyData.bool))) rfl]
    refine iteF ?_
    refine ⟨_, rfl, D58, (.list (((spotsOf p q p2 q2).map (inS p2 q2 c1 c2)).map PyData.bool)), _, 1, rfl, .lst (SqL.of g86) (dp_bools _), bools_show _, (by show 7 * 16 + 3 ≤ 16000000; decide), by decide, ?_⟩
    obtain ⟨acc87, e88, m89, ha90⟩ := id g84
    refine ⟨_, rfl, l18, rfl, ⟨_, SqL.of e88⟩, fun D91 nD92 => lc_list (K := K) (a := l18) (xs := acc87.map fun x => V.ref x.1) (fun i Hh => Same H76 Hh ∧ Hh D91 = some (.lst (((acc87.take i).map fun x => (inS p2 q2 c1 c2) x.2).map V.bl)))
      ⟨same_new nD92, upd_same⟩ (fun i Hh _ hh => SqL.of (hh.1 _ _ e88)) ?_ ?_⟩
    · rintro i yy Hh hi ⟨zz, hD⟩
      obtain ⟨so, hso, rfl⟩ : ∃ so, acc87[i]? = some so ∧ yy = .ref so.1 := by
        rw [List.getElem?_map] at hi
        cases e : acc87[i]? with
        | none => rw [e] at hi; cases hi
        | some so => rw [e] at hi; exact ⟨so, rfl, (Option.some.inj hi).symm⟩
      have hm : so ∈ acc87 := List.mem_of_getElem? hso
      have hb : so.2 ∈ (spotsOf p q p2 q2) := by rw [← m89]; exact List.mem_map.mpr ⟨so, hm, rfl⟩
      have hi16 : i < 16 := by
        have h1 := (List.getElem?_eq_some_iff.mp hso).1
        have h2 : acc87.length = 16 := by
          have := congrArg List.length m89
          rw [List.length_map] at this
          exact this
        omega
      refine ⟨rfl, yes_of ?_⟩
      refine iteT ?_
      refine ⟨_, rfl, _, rfl, t, so.1, p2, q2, so.2, c1, c2, rfl, g81.mono zz, (ha90 so hm).mono zz, sp2.bd.mono (by decide), sq2.bd.mono (by decide), bus so.2 hb, ?_⟩
      refine ⟨_, hD, ?_, same_mut zz nD92, ?_⟩
      · rw [List.length_map, List.length_map, List.length_take]
        exact Nat.lt_of_le_of_lt (Nat.min_le_left _ _) (Nat.lt_trans hi16 (by decide))
      · rw [upd_same, List.take_succ, hso, List.map_append, List.map_append]
        rfl
    rintro H93 ⟨s94, e95⟩
    have e95 : H93 D91 = some (.lst (((spotsOf p q p2 q2).map (inS p2 q2 c1 c2)).map V.bl)) := by
      rw [e95, List.length_map, List.take_length, ← m89]
      simp only [List.map_map]
      rfl
    clear e88 m89 ha90
    have g96 := g79.trans s94
    have g97 := g80.mono s94
    have g98 := g81.mono s94
    have g99 := g82.mono s94
    have g100 := g83.mono s94
    have g101 := g84.mono s94
    have g102 := s94 _ _ g85
    have g103 := s94 _ _ g86
    clear g79 g80 g81 g82 g83 g84 g85 g86
    refine ⟨D91, (.list (((spotsOf p q p2 q2).map (inS p2 q2 c1 c2)).map PyData.bool)), _, 1, rfl, .lst (SqL.of e95) (dp_bools _), bools_show _, (by show 7 * 16 + 3 ≤ 16000000; decide), by decide, rfl, _, rfl, ?_⟩
    rw [nes (d := (.list (((spotsOf p q p2 q2).map (inS p2 q2 c1 c2)).map PyData.bool))) (e := (.list (((spotsOf p q p2 q2).map (inS p2 q2 c1 c2)).map PyData.bool))) rfl]
    refine iteF ?_
    refine ⟨fun σ' H' => σ' = [some (.ref pt), some (.ref r), some (.ref t), some (.ref x1), some (.ref x9), some (.ref l18), some (.ref D43), some (.ref D58), none, some (.bl ((decide (p = p2) && decide (q = q2)) && (decide (b1 = c1) && decide (b2 = c2))))] ∧ Same H93 H', ?_, ?_⟩
    · obtain ⟨a1, a2, er, h1, h2⟩ := g97
      obtain ⟨a3, a4, et, h3, h4⟩ := g98
      refine ⟨_, rfl, r, _, _, _, rfl, rfl, SqT.of er, rfl, _, rfl, t, _, _, _, rfl, rfl, SqT.of et, rfl, a1, _, _, _, rfl, h1.choose_spec, .base (.ins h3.choose_spec T.cl_Number T.ca_Number T.cn T.ct T.cm_Number), (by simp [PySem.W.notFirst]), a1, a3, p, p2, rfl, h1, h3, _, rfl, ?_⟩
      by_cases e1 : p = p2
      · rw [decide_eq_true e1]
        refine iteT ?_
        refine ⟨_, rfl, r, _, _, _, rfl, rfl, SqT.of er, rfl, _, rfl, t, _, _, _, rfl, rfl, SqT.of et, rfl, a2, _, _, _, rfl, h2.choose_spec, .base (.ins h4.choose_spec T.cl_Number T.ca_Number T.cn T.ct T.cm_Number), (by simp [PySem.W.notFirst]), a2, a4, q, q2, rfl, h2, h4, _, rfl, ?_⟩
        by_cases e2 : q = q2
        · rw [decide_eq_true e2]
          refine iteT ?_
          refine ⟨_, rfl, _, rfl, r, _, rfl, SqT.of er, (by show ¬ (HT.sIx 4 0 (some 2) = 0 ∧ HT.sIx 4 4 none = 4); decide), fun u nu => ?_⟩
          rw [cut_tail] at *
          have su := same_new (o := .tup [.bl b1, .bl b2]) nu
          refine ⟨_, rfl, _, rfl, t, _, rfl, SqT.of (su _ _ et), (by show ¬ (HT.sIx 4 0 (some 2) = 0 ∧ HT.sIx 4 4 none = 4); decide), fun v nv => ?_⟩
          rw [cut_tail] at *
          have sv := same_new (o := .tup [.bl c1, .bl c2]) nv
          refine ⟨.tuple [.bool b1, .bool b2], .tuple [.bool c1, .bool c2], .tup (SqT.of (sv _ _ upd_same)) (.cons (.bl _) (.cons (.bl _) .nil)), .tup (SqT.of upd_same) (.cons (.bl _) (.cons (.bl _) .nil)), rfl, rfl, ?_⟩
          rw [eqv_two]
          exact ⟨by simp only [Bool.true_and]; rfl, su.trans sv⟩
        · rw [decide_eq_false e2]
          exact ⟨by simp only [Bool.and_false, Bool.false_and]; rfl, Same.refl _⟩
      · rw [decide_eq_false e1]
        exact ⟨by simp only [Bool.false_and]; rfl, Same.refl _⟩
    rintro σ' H104 ⟨rfl, s105⟩
    have g106 := g96.trans s105
    have g107 := g97.mono s105
    have g108 := g98.mono s105
    have g109 := g99.mono s105
    have g110 := g100.mono s105
    have g111 := g101.mono s105
    have g112 := s105 _ _ g102
    have g113 := s105 _ _ g103
    clear g96 g97 g98 g99 g100 g101 g102 g103
    generalize hAL : ((decide (p = p2) && decide (q = q2)) && (decide (b1 = c1) && decide (b2 = c2))) = AL at *
    refine ⟨_, rfl, _, rfl, x1, _, _, _, rfl, g109.choose_spec.choose_spec.choose_spec.choose_spec.1, .base (.ins g110.choose_spec.choose_spec.choose_spec.choose_spec.1 T.cl_Stretch T.ca_Stretch T.cn T.ct T.cm_Stretch), (by simp [PySem.W.notFirst]), x1, p, q, b1, b2, _, rfl, g109, .inl ⟨x9, p2, q2, c1, c2, rfl, g110, ?_⟩⟩
    rw [hAL]
    refine ⟨_, rfl, rfl, _, rfl, ?_⟩
    refine iteF' (nb rfl) ?_
    refine ⟨_, rfl, _, rfl, x1, _, _, _, rfl, g109.choose_spec.choose_spec.choose_spec.choose_spec.1, .base (.ins g110.choose_spec.choose_spec.choose_spec.choose_spec.1 T.cl_Stretch T.ca_Stretch T.cn T.ct T.cm_Stretch), (by simp [PySem.W.notFirst]), x1, p, q, b1, b2, _, rfl, g109, .inl ⟨x9, p2, q2, c1, c2, rfl, g110, ?_⟩⟩
    rw [hAL]
    refine ⟨_, rfl, _, rfl, rfl, _, rfl, ?_⟩
    refine iteF' (nbn AL) ?_
    refine ⟨_, rfl, _, rfl, _, rfl, (.list (((spotsOf p q p2 q2).map (inS p q b1 b2)).map PyData.bool)), (.list (((spotsOf p q p2 q2).map (inS p2 q2 c1 c2)).map PyData.bool)), .lst (SqL.of g112) (dp_bools _), .lst (SqL.of g113) (dp_bools _), bools_shaped _ , bools_shaped _, rfl, _, rfl, ?_⟩
    refine iteF' (by rw [eqv_bools, same]; exact nb rfl) ?_
    refine ⟨_, rfl, _, rfl, r, p, q, b1, b2, rfl, g107, sp.bd.mono (by decide), sq.bd.mono (by decide), g1, fun x114 H115 s116 n117 h118 => ?_⟩
    have g119 := g106.trans s116
    have g120 := g107.mono s116
    have g121 := g108.mono s116
    have g122 := g109.mono s116
    have g123 := g110.mono s116
    have g124 := g111.mono s116
    have g125 := s116 _ _ g112
    have g126 := s116 _ _ g113
    clear g106 g107 g108 g109 g110 g111 g112 g113
    refine ⟨x1, _, _, _, rfl, g122.choose_spec.choose_spec.choose_spec.choose_spec.1, .base (.ins h118.choose_spec.choose_spec.choose_spec.choose_spec.1 T.cl_Stretch T.ca_Stretch T.cn T.ct T.cm_Stretch), (by simp [PySem.W.notFirst]), x1, p, q, b1, b2, _, rfl, g122, .inl ⟨x114, p, q, b1, b2, rfl, h118, _, rfl, _, rfl, ?_⟩⟩
    refine iteF' (by simp) ?_
    obtain ⟨dx1, lo1, hi1, mi1, ex1, _, _, hm1⟩ := id g122
    obtain ⟨dx2, lo2, hi2, mi2, ex2, _, _, hm2⟩ := id g123
    refine ⟨_, rfl, x1, dx1, _, rfl, ex1, x1, dx1, _, _, rfl, ex1, sf_own_middle _ _ _ _ _, _, _, _, _, true, rfl, .own _, .base (.ins hm1.choose_spec T.cl_Number T.ca_Number T.cn T.ct T.cm_Number), T.kit_NumNum, true, rfl, ?_⟩
    refine iteF' rfl ?_
    refine ⟨_, rfl, x9, dx2, _, rfl, ex2, x9, dx2, _, _, rfl, ex2, sf_own_middle _ _ _ _ _, _, _, _, _, true, rfl, .own _, .base (.ins hm2.choose_spec T.cl_Number T.ca_Number T.cn T.ct T.cm_Number), T.kit_NumNum, true, rfl, ?_⟩
    refine iteF' rfl ?_
    refine ⟨_, rfl, x1, dx1, _, rfl, ex1, x1, dx1, _, _, rfl, ex1, sf_own_middle _ _ _ _ _, _, rfl, x1, _, _, rfl, g122.choose_spec.choose_spec.choose_spec.choose_spec.1, x1, mi1, p, q, (p + q) / 2, b1, b2, rfl, g122, hm1, sp.bd.mono (by decide), sq.bd.mono (by decide), (half_bd sp.bd sq.bd), _, rfl, _, rfl, ?_⟩
    refine iteT' (mid_in g1) ?_
    refine ⟨_, rfl, x9, dx2, _, rfl, ex2, x9, dx2, _, _, rfl, ex2, sf_own_middle _ _ _ _ _, _, rfl, x9, _, _, rfl, g123.choose_spec.choose_spec.choose_spec.choose_spec.1, x9, mi2, p2, q2, (p2 + q2) / 2, c1, c2, rfl, g123, hm2, sp2.bd.mono (by decide), sq2.bd.mono (by decide), (half_bd sp2.bd sq2.bd), _, rfl, ?_⟩
    rw [mid_in g2]
    exact fin _ g119
end
/-! ### k08: what equals nothing of another kind -/
section
variable {P : Program} {w : World} {K : PySem.W.Frag} {mg : Str → Option Value} {base : Heap} {A : Ad}
theorem b2_Stretch (T : Txt K mg A) : ∃ ds, Vals [V.bl true, V.bl true] ds ∧ Binds K A.d_Stretch_init ["self", "low", "high", "has_low", "has_high"] ds := by
  obtain ⟨ds, r, b⟩ := T.F_Stretch_init.binds0 (ps := ["self", "low", "high", "has_low", "has_high"]) 3 (by simp) rfl (fun D dc pm an cd ct us ks hu hk => by
    match us, hu, ks, hk with
    | [u1, u2, u3], _, [k1, k2], _ => exact ⟨_, _, _, _, _, _, rfl, rfl, _, _, _, _, _, _, rfl, rfl, rfl⟩)
  exact ⟨ds, r, b⟩
/-- x == y, x a Number, a Line or a Stretch -/
def rEq3 (K : PySem.W.Frag) (A : Ad) : R2 := fun x y H Q => rOwnEq K A.c_Number (spNumEqA K A) E0 x y H Q ∨ (rOwnEq K A.c_Line (spLineEq K A) E0 x y H Q ∨ rOwnEq K A.c_Stretch (spStrEq K A) E0 x y H Q)
def Odd3 (K : PySem.W.Frag) (A : Ad) (H : Hp) (y : V) : Prop := ∃ ty, TyX K H y ty ∧ PySem.W.kitOne K ty (.ref A.c_Number) = some false ∧ PySem.W.kitOne K ty (.ref A.c_Line) = some false ∧ PySem.W.kitOne K ty (.ref A.c_Stretch) = some false ∧
  PySem.W.notFirst K A.c_Number ty = true ∧ PySem.W.notFirst K A.c_Line ty = true ∧ PySem.W.notFirst K A.c_Stretch ty = true
def EqTo (K : PySem.W.Frag) (A : Ad) (H : Hp) (x y : V) (b : Bool) : Prop := ∀ Q : VK, Q (.bl b) H → rEq3 K A x y H Q
theorem num_odd {H : Hp} {a : Addr} {p : Rat} {y : V} (h : Num A.c_Number H a p) (o : ∃ ty, TyX K H y ty ∧ PySem.W.kitOne K ty (.ref A.c_Number) = some false ∧ PySem.W.notFirst K A.c_Number ty = true) : EqTo K A H (.ref a) y false := fun Q q => by
  obtain ⟨ty, t, k, n⟩ := o
  exact .inl ⟨a, _, _, ty, rfl, h.choose_spec, t, n, a, p, y, rfl, h, .inr ⟨ty, t, k, q⟩⟩
theorem lin_odd {H : Hp} {a : Addr} {b t : Rat} {y : V} (h : Lin A H a b t) (o : ∃ ty, TyX K H y ty ∧ PySem.W.kitOne K ty (.ref A.c_Line) = some false ∧ PySem.W.notFirst K A.c_Line ty = true) : EqTo K A H (.ref a) y false := fun Q q => by
  obtain ⟨ty, tt, k, n⟩ := o
  exact .inr (.inl ⟨a, _, _, ty, rfl, h.ex.choose_spec.choose_spec.choose_spec.1, tt, n, a, b, t, y, rfl, h, .inr ⟨ty, tt, k, q⟩⟩)
theorem str_odd {H : Hp} {a : Addr} {p q : Rat} {b1 b2 : Bool} {y : V} (h : Strh A H a p q b1 b2) (o : ∃ ty, TyX K H y ty ∧ PySem.W.kitOne K ty (.ref A.c_Stretch) = some false ∧ PySem.W.notFirst K A.c_Stretch ty = true) : EqTo K A H (.ref a) y false := fun Q k => by
  obtain ⟨ty, tt, ko, n⟩ := o
  exact .inr (.inr ⟨a, _, _, ty, rfl, h.choose_spec.choose_spec.choose_spec.choose_spec.1, tt, n, a, p, q, b1, b2, y, rfl, h, .inr ⟨ty, tt, ko, k⟩⟩)
theorem num_self (T : Txt K mg A) {H : Hp} {a : Addr} {p : Rat} (h : Num A.c_Number H a p) : EqTo K A H (.ref a) (.ref a) true := fun Q q =>
  .inl ⟨a, _, _, _, rfl, h.choose_spec, .base (.ins h.choose_spec T.cl_Number T.ca_Number T.cn T.ct T.cm_Number), by simp [PySem.W.notFirst], a, p, _, rfl, h, .inl ⟨a, p, rfl, h, by rw [decide_eq_true rfl]; exact q⟩⟩
theorem lin_self (T : Txt K mg A) {H : Hp} {a : Addr} {b t : Rat} (h : Lin A H a b t) : EqTo K A H (.ref a) (.ref a) true := fun Q q =>
  .inr (.inl ⟨a, _, _, _, rfl, h.ex.choose_spec.choose_spec.choose_spec.1, .base (.ins h.ex.choose_spec.choose_spec.choose_spec.1 T.cl_Line T.ca_Line T.cn T.ct T.cm_Line), by simp [PySem.W.notFirst], a, b, t, _, rfl, h, .inl ⟨a, b, t, rfl, h, by rw [decide_eq_true rfl, decide_eq_true rfl]; exact q⟩⟩)
theorem str_self (T : Txt K mg A) {H : Hp} {a : Addr} {p q : Rat} {b1 b2 : Bool} (h : Strh A H a p q b1 b2) : EqTo K A H (.ref a) (.ref a) true := fun Q k =>
  .inr (.inr ⟨a, _, _, _, rfl, h.choose_spec.choose_spec.choose_spec.choose_spec.1, .base (.ins h.choose_spec.choose_spec.choose_spec.choose_spec.1 T.cl_Stretch T.ca_Stretch T.cn T.ct T.cm_Stretch), by simp [PySem.W.notFirst], a, p, q, b1, b2, _, rfl, h, .inl ⟨a, p, q, b1, b2, rfl, h, by
    rw [decide_eq_true rfl, decide_eq_true rfl, decide_eq_true rfl, decide_eq_true rfl]
    exact k⟩⟩)
def spOddR : Sp := fun vs H Q _ => vs = [] ∧ ∀ H', Same H H' → Q (.bl true) H'
theorem ok_law_odd_right (T : Txt K mg A) : FnOk P w K mg base CX0 10 A.f_law_odd_right A.d_law_odd_right [] spOddR := by
  refine T.F_law_odd_right.ok sc_law_odd_right (fun vs H Q E h => ?_) (fun cdv B outer s H vs Q E hr h => ?_)
  · obtain ⟨rfl, _⟩ := h
    rfl
  · obtain ⟨rfl, k⟩ := h
    have hr1 : Room 1 _ := hr.mono (by decide)
    have hr2 : Room 2 _ := hr.mono (by decide)
    have hr3 : Room 3 _ := hr.mono (by decide)
    have hr7 : Room 7 _ := hr.mono (by decide)
    obtain ⟨_, r1Number, b1Number⟩ := b1_Number T
    obtain ⟨_, r2Stretch, b2Stretch⟩ := b2_Stretch T
    refine ⟨_, (pss_cons (ps_set (i := 0) sc_law_odd_right.nd rfl (Or.inl rfl) (pe_lst (pa_cons (pe_make T.M_Number (ok_Number_init T) hr3 rfl T.g_Number b1Number r1Number pass0 (pa_cons pe_int pa_nil)) (pa_cons (pe_make T.M_Line (ok_Line_init T) hr2 rfl T.g_Line T.b_Line_init .nil pass0 (pa_cons (pe_make T.M_Number (ok_Number_init T) hr3 rfl T.g_Number b1Number r1Number pass0 (pa_cons pe_int pa_nil)) (pa_cons (pe_make T.M_Number (ok_Number_init T) hr3 rfl T.g_Number b1Number r1Number pass0 (pa_cons pe_int pa_nil)) pa_nil))) (pa_cons (pe_make T.M_Stretch (ok_Stretch_init T) hr7 rfl T.g_Stretch b2Stretch r2Stretch pass0 (pa_cons (pe_make T.M_Number (ok_Number_init T) hr3 rfl T.g_Number b1Number r1Number pass0 (pa_cons pe_int pa_nil)) (pa_cons (pe_make T.M_Number (ok_Number_init T) hr3 rfl T.g_Number b1Number r1Number pass0 (pa_cons pe_int pa_nil)) pa_nil))) pa_nil)))))
      (pss_cons (ps_set (i := 1) sc_law_odd_right.nd rfl (Or.inl rfl) (pe_lst (pa_cons pe_non (pa_cons pe_bl (pa_cons pe_int (pa_cons pe_int (pa_cons pe_str (pa_cons (pe_tup (pa_cons pe_int (pa_cons pe_int pa_nil))) (pa_cons (pe_lst (pa_cons pe_int pa_nil)) (pa_cons pe_dnewK (pa_cons (pe_tup (pa_cons pe_int (pa_cons pe_int (pa_cons pe_bl (pa_cons pe_bl pa_nil))))) pa_nil)))))))))))
      (pss_cons (ps_for PassesOwn.never rfl (pi_list (pv 0)) (pg_name (i := 2) sc_law_odd_right.nd rfl (Or.inr rfl))
      (pss_one (ps_if (PW.pt (pw_or (pt_val (pe_callB (cr_any rfl) (by rfl) T.z_any (by decide +kernel) (pa_cons (pe_lc (own := [("one", 3)]) (g := gName 3) (tt := tYes) rfl sc_law_odd_right.nd (pi_list (pv 1)) (blkOk_by (N := N_law_odd_right) (sc := defScope s_law_odd_right) (by decide +kernel)) (fun _ _ _ _ _ => (pg_name (i := 3) sc_law_odd_right.nd rfl (Or.inl rfl))) (fun _ _ _ _ _ => pts_nil) (fun _ _ _ _ _ => (pe_cmpR (OpR.or (opOwnEq K (ok_Number_eqA T) T.b_Number_eq T.m_Number_eq.at_ T.m_Number_eq.fn hr1 pass0) (OpR.or (opOwnEq K (ok_Line_eq T) T.b_Line_eq T.m_Line_eq.at_ T.m_Line_eq.fn hr2 pass0) (opOwnEq K (ok_Stretch_eq T) T.b_Stretch_eq T.m_Stretch_eq.at_ T.m_Stretch_eq.fn hr3 pass0))) (pv 2) (pv 3) (nomark _)))) pa_nil))) (pw_or1 (pt_cmpR op_ne (pe_bm PySem.F.plainAttrs_list PySem.F.slot_list_count PySem.F.type_list_count (mt_lcountB hr.units) (pe_lc (own := [("other", 4)]) (g := gName 4) (tt := tYes) rfl sc_law_odd_right.nd (pi_list (pv 0)) (blkOk_by (N := N_law_odd_right) (sc := defScope s_law_odd_right) (by decide +kernel)) (fun _ _ _ _ _ => (pg_name (i := 4) sc_law_odd_right.nd rfl (Or.inl rfl))) (fun _ _ _ _ _ => pts_nil) (fun _ _ _ _ _ => (pe_cmpR (OpR.or (opOwnEq K (ok_Number_eqA T) T.b_Number_eq T.m_Number_eq.at_ T.m_Number_eq.fn hr1 pass0) (OpR.or (opOwnEq K (ok_Line_eq T) T.b_Line_eq T.m_Line_eq.at_ T.m_Line_eq.fn hr2 pass0) (opOwnEq K (ok_Stretch_eq T) T.b_Stretch_eq T.m_Stretch_eq.at_ T.m_Stretch_eq.fn hr3 pass0))) (pv 2) (pv 4) (nomark _)))) (pa_cons pe_bl pa_nil)) pe_int (nomark _))))) (pss_one (ps_ret pe_bl)) pss_nil)))
      (pss_one (ps_ret pe_bl))))), ?_⟩
    intro n dn nn ndn nen
    refine ⟨n, dn, 1, 1, rfl, by decide, up_lt (n := 9000) (show (1 : Int).natAbs < 2 ^ 1 by decide) (by decide), upd_same, rfl, ?_⟩
    obtain ⟨sn, hn⟩ := made_num (C := A.c_Number) (Rat.divInt 1 1) nn ndn
    generalize upd (upd (upd H dn (.own n)) n (.ins A.c_Number dn [])) n (.ins A.c_Number dn (nf (Rat.divInt 1 1))) = H1 at *
    intro x dx nx ndx nex
    refine ⟨x, dx, 1, 1, rfl, by decide, up_lt (n := 9000) (show (1 : Int).natAbs < 2 ^ 1 by decide) (by decide), upd_same, rfl, ?_⟩
    obtain ⟨sx, hx⟩ := made_num (C := A.c_Number) (Rat.divInt 1 1) nx ndx
    generalize upd (upd (upd H1 dx (.own x)) x (.ins A.c_Number dx [])) x (.ins A.c_Number dx (nf (Rat.divInt 1 1))) = H2 at *
    intro y dy ny ndy ney
    refine ⟨y, dy, 0, 1, rfl, by decide, up_lt (n := 9000) (show (1 : Int).natAbs < 2 ^ 1 by decide) (by decide), upd_same, rfl, ?_⟩
    obtain ⟨sy, hy⟩ := made_num (C := A.c_Number) (Rat.divInt 0 1) ny ndy
    generalize upd (upd (upd H2 dy (.own y)) y (.ins A.c_Number dy [])) y (.ins A.c_Number dy (nf (Rat.divInt 0 1))) = H3 at *
    intro l dl nl ndl nel
    obtain ⟨sl, hl⟩ := made_lin (A := A) (hx.mono sy) hy nl ndl
    refine ⟨l, dl, x, y, rfl, upd_same, rfl, ?_⟩
    generalize upd (upd (upd H3 dl (.own l)) l (.ins A.c_Line dl [])) l (.ins A.c_Line dl (lf x y)) = H4 at *
    intro u du nu ndu neu
    refine ⟨u, du, 1, 1, rfl, by decide, up_lt (n := 9000) (show (1 : Int).natAbs < 2 ^ 1 by decide) (by decide), upd_same, rfl, ?_⟩
    obtain ⟨su, hu⟩ := made_num (C := A.c_Number) (Rat.divInt 1 1) nu ndu
    generalize upd (upd (upd H4 du (.own u)) u (.ins A.c_Number du [])) u (.ins A.c_Number du (nf (Rat.divInt 1 1))) = H5 at *
    intro v dv nv ndv nev
    refine ⟨v, dv, 1, 1, rfl, by decide, up_lt (n := 9000) (show (1 : Int).natAbs < 2 ^ 1 by decide) (by decide), upd_same, rfl, ?_⟩
    obtain ⟨sv, hv⟩ := made_num (C := A.c_Number) (Rat.divInt 1 1) nv ndv
    generalize upd (upd (upd H5 dv (.own v)) v (.ins A.c_Number dv [])) v (.ins A.c_Number dv (nf (Rat.divInt 1 1))) = H6 at *
    intro t dt nt ndt net
    have s0 : Same H6 (upd (upd H6 dt (.own t)) t (.ins A.c_Stretch dt [])) := fun c z e => by
      rw [upd_ne (ne_of_none e nt), upd_ne (ne_of_none e ndt)]
      exact e
    have hu6 := hu.mono sv
    have b1' : Bd 1 (Rat.divInt 1 1) := ⟨by decide, by decide⟩
    refine ⟨t, dt, u, v, _, _, true, true, rfl, hu6.mono s0, hv.mono s0, b1'.mono (by decide), b1'.mono (by decide), .inr ⟨rfl, rfl, rfl⟩, upd_same, fun mi H7 sb e hm => ⟨rfl, ?_⟩⟩
    obtain ⟨s7, ht⟩ := made_str nt ndt sb e hu6 hv hm
    refine ⟨by show 3 ≤ sizeLine; decide, fun th nth => ?_⟩
    have sth := same_new (o := .lst [.ref n, .ref l, .ref t]) nth
    have eth : (upd H7 th (.lst [.ref n, .ref l, .ref t])) th = some (.lst [.ref n, .ref l, .ref t]) := upd_same
    have s47 := ((su.trans sv).trans s7).trans sth
    have hn8 := (((hn.mono sx).mono sy).mono sl).mono s47
    have hl8 := hl.mono s47
    have ht8 := ht.mono sth
    have sH : Same H _ := (((sn.trans sx).trans sy).trans sl).trans s47
    generalize upd H7 th (.lst [.ref n, .ref l, .ref t]) = H8 at *
    clear hn hx hy hl hu hv hu6 hm sb e
    refine stT (σ' := [some (.ref th), none, none, none, none]) rfl ?_
    refine ⟨by show 2 ≤ sizeLine; decide, fun o1 no1 => ⟨by show 1 ≤ sizeLine; decide, fun o2 no2 => fun o3 no3 => ⟨by show 4 ≤ sizeLine; decide, fun o4 no4 => ⟨by show 9 ≤ sizeLine; decide, fun ob nob => ?_⟩⟩⟩⟩
    have z1 := same_new (o := .tup [.int 1, .int 1]) no1
    have z2 := same_new (o := .lst [.int 1]) no2
    have z3 := same_new (o := .dK []) no3
    have z4 := same_new (o := .tup [.int 1, .int 1, .bl true, .bl true]) no4
    have z5 := same_new (o := .lst [.non, .bl true, .int 1, .int 0, .str "1", .ref o1, .ref o2, .ref o3, .ref o4]) nob
    have eo1 := z5 _ _ (z4 _ _ (z3 _ _ (z2 _ _ (show (upd H8 o1 (.tup [.int 1, .int 1])) o1 = some (.tup [.int 1, .int 1]) from upd_same))))
    have eo2 := z5 _ _ (z4 _ _ (z3 _ _ (show (upd (upd H8 o1 (.tup [.int 1, .int 1])) o2 (.lst [.int 1])) o2 = some (.lst [.int 1]) from upd_same)))
    have eo3 := z5 _ _ (z4 _ _ (show (upd (upd (upd H8 o1 (.tup [.int 1, .int 1])) o2 (.lst [.int 1])) o3 (.dK [])) o3 = some (.dK []) from upd_same))
    have eo4 := z5 _ _ (show (upd (upd (upd (upd H8 o1 (.tup [.int 1, .int 1])) o2 (.lst [.int 1])) o3 (.dK [])) o4 (.tup [.int 1, .int 1, .bl true, .bl true])) o4 = some (.tup [.int 1, .int 1, .bl true, .bl true]) from upd_same)
    have eob : (upd (upd (upd (upd (upd H8 o1 (.tup [.int 1, .int 1])) o2 (.lst [.int 1])) o3 (.dK [])) o4 (.tup [.int 1, .int 1, .bl true, .bl true])) ob (.lst [.non, .bl true, .int 1, .int 0, .str "1", .ref o1, .ref o2, .ref o3, .ref o4])) ob = some (.lst [.non, .bl true, .int 1, .int 0, .str "1", .ref o1, .ref o2, .ref o3, .ref o4]) := upd_same
    have z := (((z1.trans z2).trans z3).trans z4).trans z5
    have hn9 := hn8.mono z
    have hl9 := hl8.mono z
    have ht9 := ht8.mono z
    have eth9 := z _ _ eth
    have sH9 := sH.trans z
    generalize upd (upd (upd (upd (upd H8 o1 (.tup [.int 1, .int 1])) o2 (.lst [.int 1])) o3 (.dK [])) o4 (.tup [.int 1, .int 1, .bl true, .bl true])) ob (.lst [.non, .bl true, .int 1, .int 0, .str "1", .ref o1, .ref o2, .ref o3, .ref o4]) = H9 at *
    clear z z1 z2 z3 z4 z5 hn8 hl8 ht8 eth sH
    refine stT (σ' := [some (.ref th), some (.ref ob), none, none, none]) rfl ?_
    have odds : ∀ y ∈ ([.non, .bl true, .int 1, .int 0, .str "1", .ref o1, .ref o2, .ref o3, .ref o4] : List V), ∀ Hh, Same H9 Hh → Odd3 K A Hh y := List.forall_mem_cons.mpr ⟨fun Hh z => ⟨_, .base .non, T.kit_nonNum, T.kit_nonLin, T.kit_nonStr, by simp [PySem.W.notFirst, T.sub_nonNum], by simp [PySem.W.notFirst, T.sub_nonLin], by simp [PySem.W.notFirst, T.sub_nonStr]⟩, List.forall_mem_cons.mpr ⟨fun Hh z => ⟨_, .base (.bl _), T.kit_blNum, T.kit_blLin, T.kit_blStr, by simp [PySem.W.notFirst, T.sub_blNum], by simp [PySem.W.notFirst, T.sub_blLin], by simp [PySem.W.notFirst, T.sub_blStr]⟩, List.forall_mem_cons.mpr ⟨fun Hh z => ⟨_, .base (.int _), T.kit_intNum, T.kit_intLin, T.kit_intStr, by simp [PySem.W.notFirst, T.sub_intNum], by simp [PySem.W.notFirst, T.sub_intLin], by simp [PySem.W.notFirst, T.sub_intStr]⟩, List.forall_mem_cons.mpr ⟨fun Hh z => ⟨_, .base (.int _), T.kit_intNum, T.kit_intLin, T.kit_intStr, by simp [PySem.W.notFirst, T.sub_intNum], by simp [PySem.W.notFirst, T.sub_intLin], by simp [PySem.W.notFirst, T.sub_intStr]⟩, List.forall_mem_cons.mpr ⟨fun Hh z => ⟨_, .base (.str _), T.kit_strNum, T.kit_strLin, T.kit_strStr, by simp [PySem.W.notFirst, T.sub_strNum], by simp [PySem.W.notFirst, T.sub_strLin], by simp [PySem.W.notFirst, T.sub_strStr]⟩, List.forall_mem_cons.mpr ⟨fun Hh z => ⟨_, .base (.tup (z _ _ eo1)), T.kit_tupNum, T.kit_tupLin, T.kit_tupStr, by simp [PySem.W.notFirst, T.sub_tupNum], by simp [PySem.W.notFirst, T.sub_tupLin], by simp [PySem.W.notFirst, T.sub_tupStr]⟩, List.forall_mem_cons.mpr ⟨fun Hh z => ⟨_, .base (.lst (z _ _ eo2)), T.kit_lstNum, T.kit_lstLin, T.kit_lstStr, by simp [PySem.W.notFirst, T.sub_lstNum], by simp [PySem.W.notFirst, T.sub_lstLin], by simp [PySem.W.notFirst, T.sub_lstStr]⟩, List.forall_mem_cons.mpr ⟨fun Hh z => ⟨_, .base (.dK (z _ _ eo3)), T.kit_dctNum, T.kit_dctLin, T.kit_dctStr, by simp [PySem.W.notFirst, T.sub_dctNum], by simp [PySem.W.notFirst, T.sub_dctLin], by simp [PySem.W.notFirst, T.sub_dctStr]⟩, List.forall_mem_cons.mpr ⟨fun Hh z => ⟨_, .base (.tup (z _ _ eo4)), T.kit_tupNum, T.kit_tupLin, T.kit_tupStr, by simp [PySem.W.notFirst, T.sub_tupNum], by simp [PySem.W.notFirst, T.sub_tupLin], by simp [PySem.W.notFirst, T.sub_tupStr]⟩, List.forall_mem_nil _⟩⟩⟩⟩⟩⟩⟩⟩⟩
    have tab : ∀ (i : Nat) (x : V), ([.ref n, .ref l, .ref t] : List V)[i]? = some x → (∀ Hh, Same H9 Hh → ∀ y, Odd3 K A Hh y → EqTo K A Hh x y false) ∧ ∀ (j : Nat) (y : V), ([.ref n, .ref l, .ref t] : List V)[j]? = some y → ∀ Hh, Same H9 Hh → EqTo K A Hh x y (decide (i = j)) := fun i x hi => by
      match i, hi with
      | 0, hi =>
        cases hi
        refine ⟨fun Hh z y ⟨ty, a, b, _, _, c, _, _⟩ => num_odd (hn9.mono z) ⟨ty, a, b, c⟩, fun j y hj Hh z => ?_⟩
        match j, hj with
        | 0, hj => cases hj; exact num_self T (hn9.mono z)
        | 1, hj => cases hj; exact num_odd (hn9.mono z) ⟨_, .base (.ins (hl9.mono z).ex.choose_spec.choose_spec.choose_spec.1 T.cl_Line T.ca_Line T.cn T.ct T.cm_Line), T.kit_LinNum, by simp [PySem.W.notFirst, T.sub_LinNum]⟩
        | 2, hj => cases hj; exact num_odd (hn9.mono z) ⟨_, .base (.ins (ht9.mono z).choose_spec.choose_spec.choose_spec.choose_spec.1 T.cl_Stretch T.ca_Stretch T.cn T.ct T.cm_Stretch), T.kit_StrNum, by simp [PySem.W.notFirst, T.sub_StrNum]⟩
      | 1, hi =>
        cases hi
        refine ⟨fun Hh z y ⟨ty, a, _, b, _, _, c, _⟩ => lin_odd (hl9.mono z) ⟨ty, a, b, c⟩, fun j y hj Hh z => ?_⟩
        match j, hj with
        | 0, hj => cases hj; exact lin_odd (hl9.mono z) ⟨_, .base (.ins (hn9.mono z).choose_spec T.cl_Number T.ca_Number T.cn T.ct T.cm_Number), T.kit_NumLin, by simp [PySem.W.notFirst, T.sub_NumLin]⟩
        | 1, hj => cases hj; exact lin_self T (hl9.mono z)
        | 2, hj => cases hj; exact lin_odd (hl9.mono z) ⟨_, .base (.ins (ht9.mono z).choose_spec.choose_spec.choose_spec.choose_spec.1 T.cl_Stretch T.ca_Stretch T.cn T.ct T.cm_Stretch), T.kit_StrLin, by simp [PySem.W.notFirst, T.sub_StrLin]⟩
      | 2, hi =>
        cases hi
        refine ⟨fun Hh z y ⟨ty, a, _, _, b, _, _, c⟩ => str_odd (ht9.mono z) ⟨ty, a, b, c⟩, fun j y hj Hh z => ?_⟩
        match j, hj with
        | 0, hj => cases hj; exact str_odd (ht9.mono z) ⟨_, .base (.ins (hn9.mono z).choose_spec T.cl_Number T.ca_Number T.cn T.ct T.cm_Number), T.kit_NumStr, by simp [PySem.W.notFirst, T.sub_NumStr]⟩
        | 1, hj => cases hj; exact str_odd (ht9.mono z) ⟨_, .base (.ins (hl9.mono z).ex.choose_spec.choose_spec.choose_spec.1 T.cl_Line T.ca_Line T.cn T.ct T.cm_Line), T.kit_LinStr, by simp [PySem.W.notFirst, T.sub_LinStr]⟩
        | 2, hj => cases hj; exact str_self T (ht9.mono z)
    refine ⟨_, rfl, th, rfl, ⟨_, SqL.of eth9⟩, for_list (K := K) (a := th) (xs := [.ref n, .ref l, .ref t]) (fun i σ Hh => ∃ v2, σ = [some (.ref th), some (.ref ob), v2, none, none] ∧ Same H9 Hh) ⟨_, rfl, Same.refl _⟩ (fun i σ Hh _ hh => by
      obtain ⟨_, _, s⟩ := hh
      exact SqL.of (s _ _ eth9)) ?_ ?_⟩
    · rintro i x σ Hh hi ⟨v2, rfl, z⟩
      have hi3 : i < 3 := (List.getElem?_eq_some_iff.mp hi).1
      obtain ⟨t1, t2⟩ := tab i x hi
      refine ⟨_, rfl, ob, rfl, ⟨_, SqL.of (z _ _ eob)⟩, fun D nD => lc_list (K := K) (a := ob) (xs := [.non, .bl true, .int 1, .int 0, .str "1", .ref o1, .ref o2, .ref o3, .ref o4]) (fun j Hj => Same Hh Hj ∧ Hj D = some (.lst ((List.replicate j false).map V.bl)))
        ⟨same_new nD, upd_same⟩ (fun j Hj _ hh => SqL.of (hh.1 _ _ (z _ _ eob))) ?_ ?_⟩
      · rintro j yv Hj hj ⟨zj, hD⟩
        have hj9 : j < 9 := (List.getElem?_eq_some_iff.mp hj).1
        refine ⟨rfl, yes_of ?_⟩
        refine iteT ?_
        refine ⟨_, rfl, _, rfl, t1 Hj (z.trans zj) yv (odds yv (List.mem_of_getElem? hj) Hj (z.trans zj)) _ ?_⟩
        refine ⟨_, hD, ?_, same_mut zj nD, ?_⟩
        · rw [List.length_map, List.length_replicate]
          exact Nat.lt_trans hj9 (by decide)
        · rw [upd_same, List.replicate_succ', List.map_append]
          rfl
      rintro Hj ⟨zj, hD⟩
      refine ⟨D, List.replicate 9 false, rfl, SqL.of hD, _, rfl, ?_⟩
      refine iteF' (by decide) ?_
      have z2 := z.trans zj
      refine ⟨_, rfl, th, rfl, ⟨_, SqL.of (z2 _ _ eth9)⟩, fun D2 nD2 => lc_list (K := K) (a := th) (xs := [.ref n, .ref l, .ref t]) (fun j Hk => Same Hj Hk ∧ Hk D2 = some (.lst (((List.range j).map fun m => decide (i = m)).map V.bl)))
        ⟨same_new nD2, upd_same⟩ (fun j Hk _ hh => SqL.of (hh.1 _ _ (z2 _ _ eth9))) ?_ ?_⟩
      · rintro j yv Hk hj ⟨zk, hD⟩
        have hj3 : j < 3 := (List.getElem?_eq_some_iff.mp hj).1
        refine ⟨rfl, yes_of ?_⟩
        refine iteT ?_
        refine ⟨_, rfl, _, rfl, t2 j yv hj Hk (z2.trans zk) _ ?_⟩
        refine ⟨_, hD, ?_, same_mut zk nD2, ?_⟩
        · rw [List.length_map, List.length_map, List.length_range]
          exact Nat.lt_trans hj3 (by decide)
        · rw [upd_same, List.range_succ, List.map_append, List.map_append]
          rfl
      rintro Hk ⟨zk, hD⟩
      refine ⟨.inl ⟨rfl, _, SqL.of hD⟩, ?_⟩
      refine ⟨D2, (List.range 3).map fun m => decide (i = m), true, rfl, rfl, SqL.of hD, rfl, _, rfl, ?_⟩
      refine iteF' ?_ ⟨_, rfl, z2.trans zk⟩
      match i, hi3 with
      | 0, _ => decide
      | 1, _ => decide
      | 2, _ => decide
    · rintro σ Hh ⟨v2, rfl, z⟩
      exact k _ (sH9.trans z)
end
/-! ### the law -/
theorem but_same {p : Addr} {H0 H H' : Hp} (sb : SameBut p H H') (s : Same H0 H) (h : H0 p = none) : Same H0 H' := fun b o e => sb b o (s b o e) (ne_of_none e h)
theorem Pot.upl {H : Hp} {p D : Addr} {n : Nat} {o : HO} (h : Pot H p n) (ne : p ≠ D) : Pot (upd H D o) p n := by
  obtain ⟨own, mix, c, e, h⟩ := h
  exact ⟨own, mix, c, by rw [upd_ne ne]; exact e, h⟩
theorem rep_map (n : Nat) : ((List.replicate n true).map V.bl) = List.replicate n (V.bl true) := List.map_replicate
def spLaw (K : PySem.W.Frag) : Sp := fun vs H Q _ => ∃ (a : Addr) (ns : List Int), vs = [.ref a] ∧ SqL K H a (ns.map V.int) ∧ ns.length ≤ 63 ∧ ∀ H', Q (.bl true) H'
section
variable {P : Program} {w : World} {K : PySem.W.Frag} {mg : Str → Option Value} {base : Heap} {A : Ad}
theorem turns3 (n : Int) : (if (if n < 3 then n else 3) > 1 then (if n < 3 then n else 3) else 1) ≤ 3 ∧ 1 ≤ (if (if n < 3 then n else 3) > 1 then (if n < 3 then n else 3) else 1) := by
  constructor <;> (repeat (first | split | omega))
theorem ok_law (T : Txt K mg A) : FnG P w K mg base CX0 12 A.f_law A.d_law ["script"] (spLaw K) := by
  refine okG T.F_law sc_law (fun vs H Q E h => ?_) (fun cdv B outer s H vs Q E hG hr h => ?_)
  · obtain ⟨a, ns, rfl, _⟩ := h
    rfl
  · obtain ⟨a, ns, rfl, hS, hlen, k⟩ := h
    have hr1 : Room 1 _ := hr.mono (by decide)
    have hr10 : Room 10 _ := hr.mono (by decide)
    refine ⟨_, (pss_cons (ps_if (pt_not (pt_val (pe_call0 (ok_law_odd_right T) hr10 rfl T.g_law_odd_right T.F_law_odd_right.kp T.b_law_odd_right .nil pass0))) (pss_one (ps_ret pe_bl)) pss_nil)
      (pss_cons (ps_for PassesOwn.never rfl (pi_range1 rfl T.z_range (pa_cons (pe_callB (call_max2 rfl) (by rfl) T.z_max (by decide +kernel) (pa_cons pe_int (pa_cons (pe_callB (call_min2 rfl) (by rfl) T.z_min (by decide +kernel) (pa_cons pe_int (pa_cons (pe_callB call_len_seq (by rfl) T.z_len (by decide +kernel) (pa_cons (pv 0) pa_nil)) pa_nil))) pa_nil))) pa_nil)) (pg_name (i := 1) sc_law.nd rfl (Or.inl rfl))
      (pss_cons (ps_set (i := 2) sc_law.nd rfl (Or.inr rfl) (pe_call (ok_law_pot T) hr1 rfl T.g_law_pot T.F_law_pot.kp T.b_law_pot .nil pass0 (pa_cons (pv 0) (pa_cons (pv 1) pa_nil))))
      (pss_one (ps_if (pt_not (pt_val (pe_callB (cr_all rfl) (by rfl) T.z_all (by decide +kernel) (pa_cons (pe_lc (own := [("turn", 3)]) (g := gName 3) (tt := tYes) rfl sc_law.nd (pi_range1 rfl T.z_range (pa_cons pe_int pa_nil)) (blkOk_by (N := N_law) (sc := defScope s_law) (by decide +kernel)) (fun _ _ _ _ _ => (pg_name (i := 3) sc_law.nd rfl (Or.inl rfl))) (fun _ _ _ _ _ => pts_nil) (fun _ _ _ _ _ => (pe_callG (ok_law_is_right T) hG hr10 rfl T.g_law_is_right T.F_law_is_right.kp T.b_law_is_right pass0 (pa_cons (pv 2) pa_nil)))) pa_nil)))) (pss_one (ps_ret pe_bl)) pss_nil))))
      (pss_one (ps_ret pe_bl)))), ?_⟩
    refine ⟨rfl, fun H0 s0 => ?_⟩
    refine ⟨_, rfl, ?_⟩
    refine iteF' rfl ?_
    have hS := s0.seq hS
    clear s0
    generalize H0 = H at *
    refine ⟨_, rfl, a, _, rfl, Or.inl hS, _, _, rfl, _, _, rfl, _, rfl, ?_⟩
    have h3 := turns3 ((ns.map V.int).length : Int)
    generalize (if (if ((ns.map V.int).length : Int) < 3 then ((ns.map V.int).length : Int) else 3) > 1 then (if ((ns.map V.int).length : Int) < 3 then ((ns.map V.int).length : Int) else 3) else 1) = j at *
    refine ⟨by omega, by omega, for_range (lo := 0) (n := j.toNat) (fun i σ H' => ∃ v w, σ = [some (.ref a), v, w, none] ∧ Same H H') ⟨none, none, rfl, Same.refl _⟩ ?_ ?_⟩
    · rintro i σ H' hi ⟨v, w', rfl, z⟩
      refine ⟨_, rfl, _, rfl, a, ns, _, rfl, z.seq hS, by omega, by omega, fun p H1 s1 np hP => ?_⟩
      have hHp : H p = none := z.free np
      refine ⟨6, rfl, by decide, by decide, fun D nD => lc_range (lo := 0) (n := 6) (fun i Hh => Same H Hh ∧ Pot Hh p (15 * i) ∧ Hh D = some (.lst (List.replicate i (V.bl true))))
        ⟨z.trans (s1.trans (same_new nD)), (hP.same (same_new nD)), upd_same⟩ ?_ ?_⟩
      · rintro i2 Hh hi2 ⟨zz, hPh, hD⟩
        refine ⟨rfl, yes_of ?_⟩
        refine iteT ?_
        refine ⟨_, rfl, p, 15 * i2, rfl, hPh, by omega, fun H3 hP3 sb => ?_⟩
        obtain ⟨xs, ep⟩ := hP.lst
        have hpD : p ≠ D := ne_of_none ep nD
        have hDH : H D = none := by
          cases e : H D with
          | none => rfl
          | some o =>
            have := s1 _ _ (z _ _ e)
            rw [nD] at this
            cases this
        refine ⟨_, sb _ _ hD hpD.symm, ?_, same_mut (but_same sb zz hHp) hDH, (hP3.upl hpD).mono (by omega), ?_⟩
        · rw [List.length_replicate]
          exact Nat.lt_trans hi2 (by decide)
        · rw [upd_same, List.replicate_succ']
      · rintro Hh ⟨zz, hPh, hD⟩
        refine ⟨D, List.replicate 6 true, rfl, SqL.of (by rw [hD, rep_map]), _, rfl, ?_⟩
        refine iteF' rfl ?_
        exact ⟨_, _, rfl, zz⟩
    · rintro σ H' ⟨v, w', rfl, z⟩
      exact k _
end
theorem all_mk {K : PySem.W.Frag} {h : Heap} {mg : Str → Option Value} (X : K.In h) (G : h.Ns mainGlobals mg)
    {c_Number : Addr}
    {c_Line : Addr}
    {c_Stretch : Addr}
    {f_is_integer : Addr}
    {oc_is_integer : Value}
    {kV_is_integer : Value}
    {dc_is_integer : Value}
    {pm_is_integer : Value}
    {cd_is_integer : Value}
    {ct_is_integer : Value}
    {od_is_integer : Option Addr}
    {an_is_integer : Option Addr}
    {osl_is_integer : Array (Option Value)}
    {f_shared_divisor : Addr}
    {oc_shared_divisor : Value}
    {kV_shared_divisor : Value}
    {dc_shared_divisor : Value}
    {pm_shared_divisor : Value}
    {cd_shared_divisor : Value}
    {ct_shared_divisor : Value}
    {od_shared_divisor : Option Addr}
    {an_shared_divisor : Option Addr}
    {osl_shared_divisor : Array (Option Value)}
    {f_Number_init : Addr}
    {oc_Number_init : Value}
    {kV_Number_init : Value}
    {dc_Number_init : Value}
    {pm_Number_init : Value}
    {cd_Number_init : Value}
    {ct_Number_init : Value}
    {od_Number_init : Option Addr}
    {an_Number_init : Option Addr}
    {osl_Number_init : Array (Option Value)}
    {T_Number_init : Addr}
    {t_Number_init_0 : Tok}
    {oT_Number_init : Value}
    {dT_Number_init : Option Addr}
    {nT_Number_init : Nat}
    {sT_Number_init : Array (Option Value)}
    {f_Number_top : Addr}
    {p_Number_top : Addr}
    {r_Number_top : List Value}
    {oc_Number_top : Value}
    {kV_Number_top : Value}
    {dc_Number_top : Value}
    {pm_Number_top : Value}
    {cd_Number_top : Value}
    {ct_Number_top : Value}
    {od_Number_top : Option Addr}
    {an_Number_top : Option Addr}
    {osl_Number_top : Array (Option Value)}
    {f_Number_bottom : Addr}
    {p_Number_bottom : Addr}
    {r_Number_bottom : List Value}
    {oc_Number_bottom : Value}
    {kV_Number_bottom : Value}
    {dc_Number_bottom : Value}
    {pm_Number_bottom : Value}
    {cd_Number_bottom : Value}
    {ct_Number_bottom : Value}
    {od_Number_bottom : Option Addr}
    {an_Number_bottom : Option Addr}
    {osl_Number_bottom : Array (Option Value)}
    {f_Number_eq : Addr}
    {oc_Number_eq : Value}
    {kV_Number_eq : Value}
    {dc_Number_eq : Value}
    {pm_Number_eq : Value}
    {cd_Number_eq : Value}
    {ct_Number_eq : Value}
    {od_Number_eq : Option Addr}
    {an_Number_eq : Option Addr}
    {osl_Number_eq : Array (Option Value)}
    {f_Number_is_less : Addr}
    {oc_Number_is_less : Value}
    {kV_Number_is_less : Value}
    {dc_Number_is_less : Value}
    {pm_Number_is_less : Value}
    {cd_Number_is_less : Value}
    {ct_Number_is_less : Value}
    {od_Number_is_less : Option Addr}
    {an_Number_is_less : Option Addr}
    {osl_Number_is_less : Array (Option Value)}
    {f_Number_add : Addr}
    {oc_Number_add : Value}
    {kV_Number_add : Value}
    {dc_Number_add : Value}
    {pm_Number_add : Value}
    {cd_Number_add : Value}
    {ct_Number_add : Value}
    {od_Number_add : Option Addr}
    {an_Number_add : Option Addr}
    {osl_Number_add : Array (Option Value)}
    {f_Number_divided_by : Addr}
    {oc_Number_divided_by : Value}
    {kV_Number_divided_by : Value}
    {dc_Number_divided_by : Value}
    {pm_Number_divided_by : Value}
    {cd_Number_divided_by : Value}
    {ct_Number_divided_by : Value}
    {od_Number_divided_by : Option Addr}
    {an_Number_divided_by : Option Addr}
    {osl_Number_divided_by : Array (Option Value)}
    {f_whole : Addr}
    {oc_whole : Value}
    {kV_whole : Value}
    {dc_whole : Value}
    {pm_whole : Value}
    {cd_whole : Value}
    {ct_whole : Value}
    {od_whole : Option Addr}
    {an_whole : Option Addr}
    {osl_whole : Array (Option Value)}
    {f_Line_init : Addr}
    {oc_Line_init : Value}
    {kV_Line_init : Value}
    {dc_Line_init : Value}
    {pm_Line_init : Value}
    {cd_Line_init : Value}
    {ct_Line_init : Value}
    {od_Line_init : Option Addr}
    {an_Line_init : Option Addr}
    {osl_Line_init : Array (Option Value)}
    {f_Line_eq : Addr}
    {oc_Line_eq : Value}
    {kV_Line_eq : Value}
    {dc_Line_eq : Value}
    {pm_Line_eq : Value}
    {cd_Line_eq : Value}
    {ct_Line_eq : Value}
    {od_Line_eq : Option Addr}
    {an_Line_eq : Option Addr}
    {osl_Line_eq : Array (Option Value)}
    {f_Stretch_init : Addr}
    {oc_Stretch_init : Value}
    {dc_Stretch_init : Value}
    {pm_Stretch_init : Value}
    {cd_Stretch_init : Value}
    {ct_Stretch_init : Value}
    {od_Stretch_init : Option Addr}
    {an_Stretch_init : Option Addr}
    {osl_Stretch_init : Array (Option Value)}
    {D_Stretch_init : Addr}
    {f_Stretch_middle : Addr}
    {p_Stretch_middle : Addr}
    {r_Stretch_middle : List Value}
    {oc_Stretch_middle : Value}
    {kV_Stretch_middle : Value}
    {dc_Stretch_middle : Value}
    {pm_Stretch_middle : Value}
    {cd_Stretch_middle : Value}
    {ct_Stretch_middle : Value}
    {od_Stretch_middle : Option Addr}
    {an_Stretch_middle : Option Addr}
    {osl_Stretch_middle : Array (Option Value)}
    {f_Stretch_contains : Addr}
    {oc_Stretch_contains : Value}
    {kV_Stretch_contains : Value}
    {dc_Stretch_contains : Value}
    {pm_Stretch_contains : Value}
    {cd_Stretch_contains : Value}
    {ct_Stretch_contains : Value}
    {od_Stretch_contains : Option Addr}
    {an_Stretch_contains : Option Addr}
    {osl_Stretch_contains : Array (Option Value)}
    {f_Stretch_eq : Addr}
    {oc_Stretch_eq : Value}
    {kV_Stretch_eq : Value}
    {dc_Stretch_eq : Value}
    {pm_Stretch_eq : Value}
    {cd_Stretch_eq : Value}
    {ct_Stretch_eq : Value}
    {od_Stretch_eq : Option Addr}
    {an_Stretch_eq : Option Addr}
    {osl_Stretch_eq : Array (Option Value)}
    {f_law_pot : Addr}
    {oc_law_pot : Value}
    {kV_law_pot : Value}
    {dc_law_pot : Value}
    {pm_law_pot : Value}
    {cd_law_pot : Value}
    {ct_law_pot : Value}
    {od_law_pot : Option Addr}
    {an_law_pot : Option Addr}
    {osl_law_pot : Array (Option Value)}
    {f_law_take : Addr}
    {oc_law_take : Value}
    {kV_law_take : Value}
    {dc_law_take : Value}
    {pm_law_take : Value}
    {cd_law_take : Value}
    {ct_law_take : Value}
    {od_law_take : Option Addr}
    {an_law_take : Option Addr}
    {osl_law_take : Array (Option Value)}
    {f_law_of : Addr}
    {oc_law_of : Value}
    {kV_law_of : Value}
    {dc_law_of : Value}
    {pm_law_of : Value}
    {cd_law_of : Value}
    {ct_law_of : Value}
    {od_law_of : Option Addr}
    {an_law_of : Option Addr}
    {osl_law_of : Array (Option Value)}
    {f_law_ends : Addr}
    {oc_law_ends : Value}
    {kV_law_ends : Value}
    {dc_law_ends : Value}
    {pm_law_ends : Value}
    {cd_law_ends : Value}
    {ct_law_ends : Value}
    {od_law_ends : Option Addr}
    {an_law_ends : Option Addr}
    {osl_law_ends : Array (Option Value)}
    {f_law_made : Addr}
    {oc_law_made : Value}
    {kV_law_made : Value}
    {dc_law_made : Value}
    {pm_law_made : Value}
    {cd_law_made : Value}
    {ct_law_made : Value}
    {od_law_made : Option Addr}
    {an_law_made : Option Addr}
    {osl_law_made : Array (Option Value)}
    {f_law_lies : Addr}
    {oc_law_lies : Value}
    {kV_law_lies : Value}
    {dc_law_lies : Value}
    {pm_law_lies : Value}
    {cd_law_lies : Value}
    {ct_law_lies : Value}
    {od_law_lies : Option Addr}
    {an_law_lies : Option Addr}
    {osl_law_lies : Array (Option Value)}
    {f_law_spots : Addr}
    {oc_law_spots : Value}
    {kV_law_spots : Value}
    {dc_law_spots : Value}
    {pm_law_spots : Value}
    {cd_law_spots : Value}
    {ct_law_spots : Value}
    {od_law_spots : Option Addr}
    {an_law_spots : Option Addr}
    {osl_law_spots : Array (Option Value)}
    {f_law_is_right : Addr}
    {oc_law_is_right : Value}
    {kV_law_is_right : Value}
    {dc_law_is_right : Value}
    {pm_law_is_right : Value}
    {cd_law_is_right : Value}
    {ct_law_is_right : Value}
    {od_law_is_right : Option Addr}
    {an_law_is_right : Option Addr}
    {osl_law_is_right : Array (Option Value)}
    {f_law_odd_right : Addr}
    {oc_law_odd_right : Value}
    {kV_law_odd_right : Value}
    {dc_law_odd_right : Value}
    {pm_law_odd_right : Value}
    {cd_law_odd_right : Value}
    {ct_law_odd_right : Value}
    {od_law_odd_right : Option Addr}
    {an_law_odd_right : Option Addr}
    {osl_law_odd_right : Array (Option Value)}
    {f_law : Addr}
    {oc_law : Value}
    {kV_law : Value}
    {dc_law : Value}
    {pm_law : Value}
    {cd_law : Value}
    {ct_law : Value}
    {od_law : Option Addr}
    {an_law : Option Addr}
    {osl_law : Array (Option Value)}
    (a_Number : PySem.W.nsIn K mainGlobals "Number" = some (some (.ref c_Number)))
    (pg_Number : PySem.W.plainGet K c_Number Str.empty = true)
    (hd_Number : PySem.W.hasDictIn K c_Number = true)
    (po_Number : PySem.W.plainOver K c_Number = true)
    (sa_Number : PySem.W.findIn K (.ref c_Number) "__setattr__" = some (some (.builtin "object.__setattr__")))
    (mk_Number : PySem.W.makesIn K c_Number = true)
    (kc_Number : PySem.W.keepIn K (.ref c_Number) = true)
    (sf_Number : PySem.W.selfFirst K c_Number = true)
    (ca_Number : PySem.W.findIn K (.ref c_Number) "__class__" = some (some (.builtin "object.__class__")))
    (cm_Number : PySem.W.mroIn K c_Number (.type "object") = some true)
    (n_Number_own_top : PySem.W.findIn K (.ref c_Number) "own_top" = some none)
    (n_Number_own_bottom : PySem.W.findIn K (.ref c_Number) "own_bottom" = some none)
    (a_Line : PySem.W.nsIn K mainGlobals "Line" = some (some (.ref c_Line)))
    (pg_Line : PySem.W.plainGet K c_Line Str.empty = true)
    (hd_Line : PySem.W.hasDictIn K c_Line = true)
    (po_Line : PySem.W.plainOver K c_Line = true)
    (sa_Line : PySem.W.findIn K (.ref c_Line) "__setattr__" = some (some (.builtin "object.__setattr__")))
    (mk_Line : PySem.W.makesIn K c_Line = true)
    (kc_Line : PySem.W.keepIn K (.ref c_Line) = true)
    (sf_Line : PySem.W.selfFirst K c_Line = true)
    (ca_Line : PySem.W.findIn K (.ref c_Line) "__class__" = some (some (.builtin "object.__class__")))
    (cm_Line : PySem.W.mroIn K c_Line (.type "object") = some true)
    (n_Line_own_base : PySem.W.findIn K (.ref c_Line) "own_base" = some none)
    (n_Line_own_slope : PySem.W.findIn K (.ref c_Line) "own_slope" = some none)
    (a_Stretch : PySem.W.nsIn K mainGlobals "Stretch" = some (some (.ref c_Stretch)))
    (pg_Stretch : PySem.W.plainGet K c_Stretch Str.empty = true)
    (hd_Stretch : PySem.W.hasDictIn K c_Stretch = true)
    (po_Stretch : PySem.W.plainOver K c_Stretch = true)
    (sa_Stretch : PySem.W.findIn K (.ref c_Stretch) "__setattr__" = some (some (.builtin "object.__setattr__")))
    (mk_Stretch : PySem.W.makesIn K c_Stretch = true)
    (kc_Stretch : PySem.W.keepIn K (.ref c_Stretch) = true)
    (sf_Stretch : PySem.W.selfFirst K c_Stretch = true)
    (ca_Stretch : PySem.W.findIn K (.ref c_Stretch) "__class__" = some (some (.builtin "object.__class__")))
    (cm_Stretch : PySem.W.mroIn K c_Stretch (.type "object") = some true)
    (n_Stretch_own_low : PySem.W.findIn K (.ref c_Stretch) "own_low" = some none)
    (n_Stretch_own_high : PySem.W.findIn K (.ref c_Stretch) "own_high" = some none)
    (n_Stretch_includes_low : PySem.W.findIn K (.ref c_Stretch) "includes_low" = some none)
    (n_Stretch_includes_high : PySem.W.findIn K (.ref c_Stretch) "includes_high" = some none)
    (n_Stretch_own_middle : PySem.W.findIn K (.ref c_Stretch) "own_middle" = some none)
    (cn : PySem.W.specialIn K (.builtin "object.__class__") "__get__" = some (some (.builtin "getset_descriptor.__get__")))
    (ct : PySem.W.takesIn K (.builtin "object.__class__") = some true)
    (a_is_integer : PySem.W.nsIn K mainGlobals "is_integer" = some (some (.ref f_is_integer)))
    (l_is_integer : K.lookup f_is_integer = some ⟨oc_is_integer, od_is_integer, .func (PySem.W.fnOf "is_integer" "is_integer" (defArgs s_is_integer) (defBody s_is_integer) (defScope s_is_integer) .none kV_is_integer dc_is_integer pm_is_integer an_is_integer cd_is_integer ct_is_integer), osl_is_integer⟩)
    (hc_is_integer : PySem.W.codeIn K cd_is_integer "is_integer" = true)
    (k_is_integer : PySem.W.keepIn K (.ref f_is_integer) = true)
    (a_shared_divisor : PySem.W.nsIn K mainGlobals "shared_divisor" = some (some (.ref f_shared_divisor)))
    (l_shared_divisor : K.lookup f_shared_divisor = some ⟨oc_shared_divisor, od_shared_divisor, .func (PySem.W.fnOf "shared_divisor" "shared_divisor" (defArgs s_shared_divisor) (defBody s_shared_divisor) (defScope s_shared_divisor) .none kV_shared_divisor dc_shared_divisor pm_shared_divisor an_shared_divisor cd_shared_divisor ct_shared_divisor), osl_shared_divisor⟩)
    (hc_shared_divisor : PySem.W.codeIn K cd_shared_divisor "shared_divisor" = true)
    (k_shared_divisor : PySem.W.keepIn K (.ref f_shared_divisor) = true)
    (a_Number_init : PySem.W.findIn K (.ref c_Number) "__init__" = some (some (.ref f_Number_init)))
    (i_Number_init : PySem.W.isFn K (.ref f_Number_init) = true)
    (l_Number_init : K.lookup f_Number_init = some ⟨oc_Number_init, od_Number_init, .func (PySem.W.fnOf "__init__" "Number.__init__" (defArgs s_Number_init) (defBody s_Number_init) (defScope s_Number_init) (.ref T_Number_init) kV_Number_init dc_Number_init pm_Number_init an_Number_init cd_Number_init ct_Number_init), osl_Number_init⟩)
    (hc_Number_init : PySem.W.codeIn K cd_Number_init "Number.__init__" = true)
    (k_Number_init : PySem.W.keepIn K (.ref f_Number_init) = true)
    (lT_Number_init : K.lookup T_Number_init = some ⟨oT_Number_init, dT_Number_init, .seq #[.int 1 t_Number_init_0] nT_Number_init, sT_Number_init⟩)
    (at_Number_top : PySem.W.findIn K (.ref c_Number) "top" = some (some (.ref p_Number_top)))
    (gt_Number_top : PySem.W.specialIn K (.ref p_Number_top) "__get__" = some (some (.builtin "property.__get__")))
    (tk_Number_top : PySem.W.takesIn K (.ref p_Number_top) = some true)
    (rc_Number_top : PySem.W.recIn K p_Number_top "property" = some (.ref f_Number_top :: r_Number_top))
    (l_Number_top : K.lookup f_Number_top = some ⟨oc_Number_top, od_Number_top, .func (PySem.W.fnOf "top" "Number.top" (defArgs s_Number_top) (defBody s_Number_top) (defScope s_Number_top) .none kV_Number_top dc_Number_top pm_Number_top an_Number_top cd_Number_top ct_Number_top), osl_Number_top⟩)
    (hc_Number_top : PySem.W.codeIn K cd_Number_top "Number.top" = true)
    (k_Number_top : PySem.W.keepIn K (.ref f_Number_top) = true)
    (at_Number_bottom : PySem.W.findIn K (.ref c_Number) "bottom" = some (some (.ref p_Number_bottom)))
    (gt_Number_bottom : PySem.W.specialIn K (.ref p_Number_bottom) "__get__" = some (some (.builtin "property.__get__")))
    (tk_Number_bottom : PySem.W.takesIn K (.ref p_Number_bottom) = some true)
    (rc_Number_bottom : PySem.W.recIn K p_Number_bottom "property" = some (.ref f_Number_bottom :: r_Number_bottom))
    (l_Number_bottom : K.lookup f_Number_bottom = some ⟨oc_Number_bottom, od_Number_bottom, .func (PySem.W.fnOf "bottom" "Number.bottom" (defArgs s_Number_bottom) (defBody s_Number_bottom) (defScope s_Number_bottom) .none kV_Number_bottom dc_Number_bottom pm_Number_bottom an_Number_bottom cd_Number_bottom ct_Number_bottom), osl_Number_bottom⟩)
    (hc_Number_bottom : PySem.W.codeIn K cd_Number_bottom "Number.bottom" = true)
    (k_Number_bottom : PySem.W.keepIn K (.ref f_Number_bottom) = true)
    (a_Number_eq : PySem.W.findIn K (.ref c_Number) "__eq__" = some (some (.ref f_Number_eq)))
    (i_Number_eq : PySem.W.isFn K (.ref f_Number_eq) = true)
    (l_Number_eq : K.lookup f_Number_eq = some ⟨oc_Number_eq, od_Number_eq, .func (PySem.W.fnOf "__eq__" "Number.__eq__" (defArgs s_Number_eq) (defBody s_Number_eq) (defScope s_Number_eq) .none kV_Number_eq dc_Number_eq pm_Number_eq an_Number_eq cd_Number_eq ct_Number_eq), osl_Number_eq⟩)
    (hc_Number_eq : PySem.W.codeIn K cd_Number_eq "Number.__eq__" = true)
    (k_Number_eq : PySem.W.keepIn K (.ref f_Number_eq) = true)
    (a_Number_is_less : PySem.W.findIn K (.ref c_Number) "is_less" = some (some (.ref f_Number_is_less)))
    (i_Number_is_less : PySem.W.isFn K (.ref f_Number_is_less) = true)
    (l_Number_is_less : K.lookup f_Number_is_less = some ⟨oc_Number_is_less, od_Number_is_less, .func (PySem.W.fnOf "is_less" "Number.is_less" (defArgs s_Number_is_less) (defBody s_Number_is_less) (defScope s_Number_is_less) .none kV_Number_is_less dc_Number_is_less pm_Number_is_less an_Number_is_less cd_Number_is_less ct_Number_is_less), osl_Number_is_less⟩)
    (hc_Number_is_less : PySem.W.codeIn K cd_Number_is_less "Number.is_less" = true)
    (k_Number_is_less : PySem.W.keepIn K (.ref f_Number_is_less) = true)
    (a_Number_add : PySem.W.findIn K (.ref c_Number) "__add__" = some (some (.ref f_Number_add)))
    (i_Number_add : PySem.W.isFn K (.ref f_Number_add) = true)
    (l_Number_add : K.lookup f_Number_add = some ⟨oc_Number_add, od_Number_add, .func (PySem.W.fnOf "__add__" "Number.__add__" (defArgs s_Number_add) (defBody s_Number_add) (defScope s_Number_add) .none kV_Number_add dc_Number_add pm_Number_add an_Number_add cd_Number_add ct_Number_add), osl_Number_add⟩)
    (hc_Number_add : PySem.W.codeIn K cd_Number_add "Number.__add__" = true)
    (k_Number_add : PySem.W.keepIn K (.ref f_Number_add) = true)
    (a_Number_divided_by : PySem.W.findIn K (.ref c_Number) "divided_by" = some (some (.ref f_Number_divided_by)))
    (i_Number_divided_by : PySem.W.isFn K (.ref f_Number_divided_by) = true)
    (l_Number_divided_by : K.lookup f_Number_divided_by = some ⟨oc_Number_divided_by, od_Number_divided_by, .func (PySem.W.fnOf "divided_by" "Number.divided_by" (defArgs s_Number_divided_by) (defBody s_Number_divided_by) (defScope s_Number_divided_by) .none kV_Number_divided_by dc_Number_divided_by pm_Number_divided_by an_Number_divided_by cd_Number_divided_by ct_Number_divided_by), osl_Number_divided_by⟩)
    (hc_Number_divided_by : PySem.W.codeIn K cd_Number_divided_by "Number.divided_by" = true)
    (k_Number_divided_by : PySem.W.keepIn K (.ref f_Number_divided_by) = true)
    (a_whole : PySem.W.nsIn K mainGlobals "whole" = some (some (.ref f_whole)))
    (l_whole : K.lookup f_whole = some ⟨oc_whole, od_whole, .func (PySem.W.fnOf "whole" "whole" (defArgs s_whole) (defBody s_whole) (defScope s_whole) .none kV_whole dc_whole pm_whole an_whole cd_whole ct_whole), osl_whole⟩)
    (hc_whole : PySem.W.codeIn K cd_whole "whole" = true)
    (k_whole : PySem.W.keepIn K (.ref f_whole) = true)
    (a_Line_init : PySem.W.findIn K (.ref c_Line) "__init__" = some (some (.ref f_Line_init)))
    (i_Line_init : PySem.W.isFn K (.ref f_Line_init) = true)
    (l_Line_init : K.lookup f_Line_init = some ⟨oc_Line_init, od_Line_init, .func (PySem.W.fnOf "__init__" "Line.__init__" (defArgs s_Line_init) (defBody s_Line_init) (defScope s_Line_init) .none kV_Line_init dc_Line_init pm_Line_init an_Line_init cd_Line_init ct_Line_init), osl_Line_init⟩)
    (hc_Line_init : PySem.W.codeIn K cd_Line_init "Line.__init__" = true)
    (k_Line_init : PySem.W.keepIn K (.ref f_Line_init) = true)
    (a_Line_eq : PySem.W.findIn K (.ref c_Line) "__eq__" = some (some (.ref f_Line_eq)))
    (i_Line_eq : PySem.W.isFn K (.ref f_Line_eq) = true)
    (l_Line_eq : K.lookup f_Line_eq = some ⟨oc_Line_eq, od_Line_eq, .func (PySem.W.fnOf "__eq__" "Line.__eq__" (defArgs s_Line_eq) (defBody s_Line_eq) (defScope s_Line_eq) .none kV_Line_eq dc_Line_eq pm_Line_eq an_Line_eq cd_Line_eq ct_Line_eq), osl_Line_eq⟩)
    (hc_Line_eq : PySem.W.codeIn K cd_Line_eq "Line.__eq__" = true)
    (k_Line_eq : PySem.W.keepIn K (.ref f_Line_eq) = true)
    (a_Stretch_init : PySem.W.findIn K (.ref c_Stretch) "__init__" = some (some (.ref f_Stretch_init)))
    (i_Stretch_init : PySem.W.isFn K (.ref f_Stretch_init) = true)
    (l_Stretch_init : K.lookup f_Stretch_init = some ⟨oc_Stretch_init, od_Stretch_init, .func (PySem.W.fnOf "__init__" "Stretch.__init__" (defArgs s_Stretch_init) (defBody s_Stretch_init) (defScope s_Stretch_init) .none (.ref D_Stretch_init) dc_Stretch_init pm_Stretch_init an_Stretch_init cd_Stretch_init ct_Stretch_init), osl_Stretch_init⟩)
    (hc_Stretch_init : PySem.W.codeIn K cd_Stretch_init "Stretch.__init__" = true)
    (k_Stretch_init : PySem.W.keepIn K (.ref f_Stretch_init) = true)
    (kw_Stretch_init_has_low : PySem.W.nsIn K D_Stretch_init "has_low" = some (some (.bool true)))
    (kw_Stretch_init_has_high : PySem.W.nsIn K D_Stretch_init "has_high" = some (some (.bool true)))
    (at_Stretch_middle : PySem.W.findIn K (.ref c_Stretch) "middle" = some (some (.ref p_Stretch_middle)))
    (gt_Stretch_middle : PySem.W.specialIn K (.ref p_Stretch_middle) "__get__" = some (some (.builtin "property.__get__")))
    (tk_Stretch_middle : PySem.W.takesIn K (.ref p_Stretch_middle) = some true)
    (rc_Stretch_middle : PySem.W.recIn K p_Stretch_middle "property" = some (.ref f_Stretch_middle :: r_Stretch_middle))
    (l_Stretch_middle : K.lookup f_Stretch_middle = some ⟨oc_Stretch_middle, od_Stretch_middle, .func (PySem.W.fnOf "middle" "Stretch.middle" (defArgs s_Stretch_middle) (defBody s_Stretch_middle) (defScope s_Stretch_middle) .none kV_Stretch_middle dc_Stretch_middle pm_Stretch_middle an_Stretch_middle cd_Stretch_middle ct_Stretch_middle), osl_Stretch_middle⟩)
    (hc_Stretch_middle : PySem.W.codeIn K cd_Stretch_middle "Stretch.middle" = true)
    (k_Stretch_middle : PySem.W.keepIn K (.ref f_Stretch_middle) = true)
    (a_Stretch_contains : PySem.W.findIn K (.ref c_Stretch) "__contains__" = some (some (.ref f_Stretch_contains)))
    (i_Stretch_contains : PySem.W.isFn K (.ref f_Stretch_contains) = true)
    (l_Stretch_contains : K.lookup f_Stretch_contains = some ⟨oc_Stretch_contains, od_Stretch_contains, .func (PySem.W.fnOf "__contains__" "Stretch.__contains__" (defArgs s_Stretch_contains) (defBody s_Stretch_contains) (defScope s_Stretch_contains) .none kV_Stretch_contains dc_Stretch_contains pm_Stretch_contains an_Stretch_contains cd_Stretch_contains ct_Stretch_contains), osl_Stretch_contains⟩)
    (hc_Stretch_contains : PySem.W.codeIn K cd_Stretch_contains "Stretch.__contains__" = true)
    (k_Stretch_contains : PySem.W.keepIn K (.ref f_Stretch_contains) = true)
    (a_Stretch_eq : PySem.W.findIn K (.ref c_Stretch) "__eq__" = some (some (.ref f_Stretch_eq)))
    (i_Stretch_eq : PySem.W.isFn K (.ref f_Stretch_eq) = true)
    (l_Stretch_eq : K.lookup f_Stretch_eq = some ⟨oc_Stretch_eq, od_Stretch_eq, .func (PySem.W.fnOf "__eq__" "Stretch.__eq__" (defArgs s_Stretch_eq) (defBody s_Stretch_eq) (defScope s_Stretch_eq) .none kV_Stretch_eq dc_Stretch_eq pm_Stretch_eq an_Stretch_eq cd_Stretch_eq ct_Stretch_eq), osl_Stretch_eq⟩)
    (hc_Stretch_eq : PySem.W.codeIn K cd_Stretch_eq "Stretch.__eq__" = true)
    (k_Stretch_eq : PySem.W.keepIn K (.ref f_Stretch_eq) = true)
    (a_law_pot : PySem.W.nsIn K mainGlobals "_law_pot" = some (some (.ref f_law_pot)))
    (l_law_pot : K.lookup f_law_pot = some ⟨oc_law_pot, od_law_pot, .func (PySem.W.fnOf "_law_pot" "_law_pot" (defArgs s_law_pot) (defBody s_law_pot) (defScope s_law_pot) .none kV_law_pot dc_law_pot pm_law_pot an_law_pot cd_law_pot ct_law_pot), osl_law_pot⟩)
    (hc_law_pot : PySem.W.codeIn K cd_law_pot "_law_pot" = true)
    (k_law_pot : PySem.W.keepIn K (.ref f_law_pot) = true)
    (a_law_take : PySem.W.nsIn K mainGlobals "_law_take" = some (some (.ref f_law_take)))
    (l_law_take : K.lookup f_law_take = some ⟨oc_law_take, od_law_take, .func (PySem.W.fnOf "_law_take" "_law_take" (defArgs s_law_take) (defBody s_law_take) (defScope s_law_take) .none kV_law_take dc_law_take pm_law_take an_law_take cd_law_take ct_law_take), osl_law_take⟩)
    (hc_law_take : PySem.W.codeIn K cd_law_take "_law_take" = true)
    (k_law_take : PySem.W.keepIn K (.ref f_law_take) = true)
    (a_law_of : PySem.W.nsIn K mainGlobals "_law_of" = some (some (.ref f_law_of)))
    (l_law_of : K.lookup f_law_of = some ⟨oc_law_of, od_law_of, .func (PySem.W.fnOf "_law_of" "_law_of" (defArgs s_law_of) (defBody s_law_of) (defScope s_law_of) .none kV_law_of dc_law_of pm_law_of an_law_of cd_law_of ct_law_of), osl_law_of⟩)
    (hc_law_of : PySem.W.codeIn K cd_law_of "_law_of" = true)
    (k_law_of : PySem.W.keepIn K (.ref f_law_of) = true)
    (a_law_ends : PySem.W.nsIn K mainGlobals "_law_ends" = some (some (.ref f_law_ends)))
    (l_law_ends : K.lookup f_law_ends = some ⟨oc_law_ends, od_law_ends, .func (PySem.W.fnOf "_law_ends" "_law_ends" (defArgs s_law_ends) (defBody s_law_ends) (defScope s_law_ends) .none kV_law_ends dc_law_ends pm_law_ends an_law_ends cd_law_ends ct_law_ends), osl_law_ends⟩)
    (hc_law_ends : PySem.W.codeIn K cd_law_ends "_law_ends" = true)
    (k_law_ends : PySem.W.keepIn K (.ref f_law_ends) = true)
    (a_law_made : PySem.W.nsIn K mainGlobals "_law_made" = some (some (.ref f_law_made)))
    (l_law_made : K.lookup f_law_made = some ⟨oc_law_made, od_law_made, .func (PySem.W.fnOf "_law_made" "_law_made" (defArgs s_law_made) (defBody s_law_made) (defScope s_law_made) .none kV_law_made dc_law_made pm_law_made an_law_made cd_law_made ct_law_made), osl_law_made⟩)
    (hc_law_made : PySem.W.codeIn K cd_law_made "_law_made" = true)
    (k_law_made : PySem.W.keepIn K (.ref f_law_made) = true)
    (a_law_lies : PySem.W.nsIn K mainGlobals "_law_lies" = some (some (.ref f_law_lies)))
    (l_law_lies : K.lookup f_law_lies = some ⟨oc_law_lies, od_law_lies, .func (PySem.W.fnOf "_law_lies" "_law_lies" (defArgs s_law_lies) (defBody s_law_lies) (defScope s_law_lies) .none kV_law_lies dc_law_lies pm_law_lies an_law_lies cd_law_lies ct_law_lies), osl_law_lies⟩)
    (hc_law_lies : PySem.W.codeIn K cd_law_lies "_law_lies" = true)
    (k_law_lies : PySem.W.keepIn K (.ref f_law_lies) = true)
    (a_law_spots : PySem.W.nsIn K mainGlobals "_law_spots" = some (some (.ref f_law_spots)))
    (l_law_spots : K.lookup f_law_spots = some ⟨oc_law_spots, od_law_spots, .func (PySem.W.fnOf "_law_spots" "_law_spots" (defArgs s_law_spots) (defBody s_law_spots) (defScope s_law_spots) .none kV_law_spots dc_law_spots pm_law_spots an_law_spots cd_law_spots ct_law_spots), osl_law_spots⟩)
    (hc_law_spots : PySem.W.codeIn K cd_law_spots "_law_spots" = true)
    (k_law_spots : PySem.W.keepIn K (.ref f_law_spots) = true)
    (a_law_is_right : PySem.W.nsIn K mainGlobals "_law_is_right" = some (some (.ref f_law_is_right)))
    (l_law_is_right : K.lookup f_law_is_right = some ⟨oc_law_is_right, od_law_is_right, .func (PySem.W.fnOf "_law_is_right" "_law_is_right" (defArgs s_law_is_right) (defBody s_law_is_right) (defScope s_law_is_right) .none kV_law_is_right dc_law_is_right pm_law_is_right an_law_is_right cd_law_is_right ct_law_is_right), osl_law_is_right⟩)
    (hc_law_is_right : PySem.W.codeIn K cd_law_is_right "_law_is_right" = true)
    (k_law_is_right : PySem.W.keepIn K (.ref f_law_is_right) = true)
    (a_law_odd_right : PySem.W.nsIn K mainGlobals "_law_odd_right" = some (some (.ref f_law_odd_right)))
    (l_law_odd_right : K.lookup f_law_odd_right = some ⟨oc_law_odd_right, od_law_odd_right, .func (PySem.W.fnOf "_law_odd_right" "_law_odd_right" (defArgs s_law_odd_right) (defBody s_law_odd_right) (defScope s_law_odd_right) .none kV_law_odd_right dc_law_odd_right pm_law_odd_right an_law_odd_right cd_law_odd_right ct_law_odd_right), osl_law_odd_right⟩)
    (hc_law_odd_right : PySem.W.codeIn K cd_law_odd_right "_law_odd_right" = true)
    (k_law_odd_right : PySem.W.keepIn K (.ref f_law_odd_right) = true)
    (a_law : PySem.W.nsIn K mainGlobals "law" = some (some (.ref f_law)))
    (l_law : K.lookup f_law = some ⟨oc_law, od_law, .func (PySem.W.fnOf "law" "law" (defArgs s_law) (defBody s_law) (defScope s_law) .none kV_law dc_law pm_law an_law cd_law ct_law), osl_law⟩)
    (hc_law : PySem.W.codeIn K cd_law "law" = true)
    (k_law : PySem.W.keepIn K (.ref f_law) = true)
    (z_isinstance : PySem.W.nsIn K mainGlobals "isinstance" = some none)
    (z_int : PySem.W.nsIn K mainGlobals "int" = some none)
    (z_bool : PySem.W.nsIn K mainGlobals "bool" = some none)
    (z_abs : PySem.W.nsIn K mainGlobals "abs" = some none)
    (z_len : PySem.W.nsIn K mainGlobals "len" = some none)
    (z_max : PySem.W.nsIn K mainGlobals "max" = some none)
    (z_min : PySem.W.nsIn K mainGlobals "min" = some none)
    (z_range : PySem.W.nsIn K mainGlobals "range" = some none)
    (z_repr : PySem.W.nsIn K mainGlobals "repr" = some none)
    (z_all : PySem.W.nsIn K mainGlobals "all" = some none)
    (z_any : PySem.W.nsIn K mainGlobals "any" = some none)
    (kit_NumNum : PySem.W.kitOne K (.ref c_Number) (.ref c_Number) = some true)
    (kit_StrStr : PySem.W.kitOne K (.ref c_Stretch) (.ref c_Stretch) = some true)
    (kit_LinLin : PySem.W.kitOne K (.ref c_Line) (.ref c_Line) = some true)
    (kit_blbl : PySem.W.kitOne K (.type "bool") (.type "bool") = some true)
    (kit_nonNum : PySem.W.kitOne K (.type "NoneType") (.ref c_Number) = some false)
    (kit_blNum : PySem.W.kitOne K (.type "bool") (.ref c_Number) = some false)
    (kit_intNum : PySem.W.kitOne K (.type "int") (.ref c_Number) = some false)
    (kit_strNum : PySem.W.kitOne K (.type "str") (.ref c_Number) = some false)
    (kit_tupNum : PySem.W.kitOne K (.type "tuple") (.ref c_Number) = some false)
    (kit_lstNum : PySem.W.kitOne K (.type "list") (.ref c_Number) = some false)
    (kit_dctNum : PySem.W.kitOne K (.type "dict") (.ref c_Number) = some false)
    (kit_LinNum : PySem.W.kitOne K (.ref c_Line) (.ref c_Number) = some false)
    (kit_StrNum : PySem.W.kitOne K (.ref c_Stretch) (.ref c_Number) = some false)
    (kit_nonLin : PySem.W.kitOne K (.type "NoneType") (.ref c_Line) = some false)
    (kit_blLin : PySem.W.kitOne K (.type "bool") (.ref c_Line) = some false)
    (kit_intLin : PySem.W.kitOne K (.type "int") (.ref c_Line) = some false)
    (kit_strLin : PySem.W.kitOne K (.type "str") (.ref c_Line) = some false)
    (kit_tupLin : PySem.W.kitOne K (.type "tuple") (.ref c_Line) = some false)
    (kit_lstLin : PySem.W.kitOne K (.type "list") (.ref c_Line) = some false)
    (kit_dctLin : PySem.W.kitOne K (.type "dict") (.ref c_Line) = some false)
    (kit_NumLin : PySem.W.kitOne K (.ref c_Number) (.ref c_Line) = some false)
    (kit_StrLin : PySem.W.kitOne K (.ref c_Stretch) (.ref c_Line) = some false)
    (kit_nonStr : PySem.W.kitOne K (.type "NoneType") (.ref c_Stretch) = some false)
    (kit_blStr : PySem.W.kitOne K (.type "bool") (.ref c_Stretch) = some false)
    (kit_intStr : PySem.W.kitOne K (.type "int") (.ref c_Stretch) = some false)
    (kit_strStr : PySem.W.kitOne K (.type "str") (.ref c_Stretch) = some false)
    (kit_tupStr : PySem.W.kitOne K (.type "tuple") (.ref c_Stretch) = some false)
    (kit_lstStr : PySem.W.kitOne K (.type "list") (.ref c_Stretch) = some false)
    (kit_dctStr : PySem.W.kitOne K (.type "dict") (.ref c_Stretch) = some false)
    (kit_NumStr : PySem.W.kitOne K (.ref c_Number) (.ref c_Stretch) = some false)
    (kit_LinStr : PySem.W.kitOne K (.ref c_Line) (.ref c_Stretch) = some false)
    (ne_Number : PySem.W.findIn K (.ref c_Number) "__ne__" = some (some (.builtin "object.__ne__")))
    (ne_Stretch : PySem.W.findIn K (.ref c_Stretch) "__ne__" = some (some (.builtin "object.__ne__")))
    (sub_nonNum : PySem.W.subIn K (.type "NoneType") (.ref c_Number) = some false)
    (sub_blNum : PySem.W.subIn K (.type "bool") (.ref c_Number) = some false)
    (sub_intNum : PySem.W.subIn K (.type "int") (.ref c_Number) = some false)
    (sub_strNum : PySem.W.subIn K (.type "str") (.ref c_Number) = some false)
    (sub_tupNum : PySem.W.subIn K (.type "tuple") (.ref c_Number) = some false)
    (sub_lstNum : PySem.W.subIn K (.type "list") (.ref c_Number) = some false)
    (sub_dctNum : PySem.W.subIn K (.type "dict") (.ref c_Number) = some false)
    (sub_LinNum : PySem.W.subIn K (.ref c_Line) (.ref c_Number) = some false)
    (sub_StrNum : PySem.W.subIn K (.ref c_Stretch) (.ref c_Number) = some false)
    (sub_nonLin : PySem.W.subIn K (.type "NoneType") (.ref c_Line) = some false)
    (sub_blLin : PySem.W.subIn K (.type "bool") (.ref c_Line) = some false)
    (sub_intLin : PySem.W.subIn K (.type "int") (.ref c_Line) = some false)
    (sub_strLin : PySem.W.subIn K (.type "str") (.ref c_Line) = some false)
    (sub_tupLin : PySem.W.subIn K (.type "tuple") (.ref c_Line) = some false)
    (sub_lstLin : PySem.W.subIn K (.type "list") (.ref c_Line) = some false)
    (sub_dctLin : PySem.W.subIn K (.type "dict") (.ref c_Line) = some false)
    (sub_NumLin : PySem.W.subIn K (.ref c_Number) (.ref c_Line) = some false)
    (sub_StrLin : PySem.W.subIn K (.ref c_Stretch) (.ref c_Line) = some false)
    (sub_nonStr : PySem.W.subIn K (.type "NoneType") (.ref c_Stretch) = some false)
    (sub_blStr : PySem.W.subIn K (.type "bool") (.ref c_Stretch) = some false)
    (sub_intStr : PySem.W.subIn K (.type "int") (.ref c_Stretch) = some false)
    (sub_strStr : PySem.W.subIn K (.type "str") (.ref c_Stretch) = some false)
    (sub_tupStr : PySem.W.subIn K (.type "tuple") (.ref c_Stretch) = some false)
    (sub_lstStr : PySem.W.subIn K (.type "list") (.ref c_Stretch) = some false)
    (sub_dctStr : PySem.W.subIn K (.type "dict") (.ref c_Stretch) = some false)
    (sub_NumStr : PySem.W.subIn K (.ref c_Number) (.ref c_Stretch) = some false)
    (sub_LinStr : PySem.W.subIn K (.ref c_Line) (.ref c_Stretch) = some false)
    : ∃ A : Ad, A.f_law = f_law ∧ Txt K mg A :=
  ⟨⟨c_Number, c_Line, c_Stretch, f_is_integer, (PySem.W.fnOf "is_integer" "is_integer" (defArgs s_is_integer) (defBody s_is_integer) (defScope s_is_integer) .none kV_is_integer dc_is_integer pm_is_integer an_is_integer cd_is_integer ct_is_integer), f_shared_divisor, (PySem.W.fnOf "shared_divisor" "shared_divisor" (defArgs s_shared_divisor) (defBody s_shared_divisor) (defScope s_shared_divisor) .none kV_shared_divisor dc_shared_divisor pm_shared_divisor an_shared_divisor cd_shared_divisor ct_shared_divisor), f_Number_init, (PySem.W.fnOf "__init__" "Number.__init__" (defArgs s_Number_init) (defBody s_Number_init) (defScope s_Number_init) (.ref T_Number_init) kV_Number_init dc_Number_init pm_Number_init an_Number_init cd_Number_init ct_Number_init), f_Number_top, (PySem.W.fnOf "top" "Number.top" (defArgs s_Number_top) (defBody s_Number_top) (defScope s_Number_top) .none kV_Number_top dc_Number_top pm_Number_top an_Number_top cd_Number_top ct_Number_top), p_Number_top, f_Number_bottom, (PySem.W.fnOf "bottom" "Number.bottom" (defArgs s_Number_bottom) (defBody s_Number_bottom) (defScope s_Number_bottom) .none kV_Number_bottom dc_Number_bottom pm_Number_bottom an_Number_bottom cd_Number_bottom ct_Number_bottom), p_Number_bottom, f_Number_eq, (PySem.W.fnOf "__eq__" "Number.__eq__" (defArgs s_Number_eq) (defBody s_Number_eq) (defScope s_Number_eq) .none kV_Number_eq dc_Number_eq pm_Number_eq an_Number_eq cd_Number_eq ct_Number_eq), f_Number_is_less, (PySem.W.fnOf "is_less" "Number.is_less" (defArgs s_Number_is_less) (defBody s_Number_is_less) (defScope s_Number_is_less) .none kV_Number_is_less dc_Number_is_less pm_Number_is_less an_Number_is_less cd_Number_is_less ct_Number_is_less), f_Number_add, (PySem.W.fnOf "__add__" "Number.__add__" (defArgs s_Number_add) (defBody s_Number_add) (defScope s_Number_add) .none kV_Number_add dc_Number_add pm_Number_add an_Number_add cd_Number_add ct_Number_add), f_Number_divided_by, (PySem.W.fnOf "divided_by" "Number.divided_by" (defArgs s_Number_divided_by) (defBody s_Number_divided_by) (defScope s_Number_divided_by) .none kV_Number_divided_by dc_Number_divided_by pm_Number_divided_by an_Number_divided_by cd_Number_divided_by ct_Number_divided_by), f_whole, (PySem.W.fnOf "whole" "whole" (defArgs s_whole) (defBody s_whole) (defScope s_whole) .none kV_whole dc_whole pm_whole an_whole cd_whole ct_whole), f_Line_init, (PySem.W.fnOf "__init__" "Line.__init__" (defArgs s_Line_init) (defBody s_Line_init) (defScope s_Line_init) .none kV_Line_init dc_Line_init pm_Line_init an_Line_init cd_Line_init ct_Line_init), f_Line_eq, (PySem.W.fnOf "__eq__" "Line.__eq__" (defArgs s_Line_eq) (defBody s_Line_eq) (defScope s_Line_eq) .none kV_Line_eq dc_Line_eq pm_Line_eq an_Line_eq cd_Line_eq ct_Line_eq), f_Stretch_init, (PySem.W.fnOf "__init__" "Stretch.__init__" (defArgs s_Stretch_init) (defBody s_Stretch_init) (defScope s_Stretch_init) .none (.ref D_Stretch_init) dc_Stretch_init pm_Stretch_init an_Stretch_init cd_Stretch_init ct_Stretch_init), f_Stretch_middle, (PySem.W.fnOf "middle" "Stretch.middle" (defArgs s_Stretch_middle) (defBody s_Stretch_middle) (defScope s_Stretch_middle) .none kV_Stretch_middle dc_Stretch_middle pm_Stretch_middle an_Stretch_middle cd_Stretch_middle ct_Stretch_middle), p_Stretch_middle, f_Stretch_contains, (PySem.W.fnOf "__contains__" "Stretch.__contains__" (defArgs s_Stretch_contains) (defBody s_Stretch_contains) (defScope s_Stretch_contains) .none kV_Stretch_contains dc_Stretch_contains pm_Stretch_contains an_Stretch_contains cd_Stretch_contains ct_Stretch_contains), f_Stretch_eq, (PySem.W.fnOf "__eq__" "Stretch.__eq__" (defArgs s_Stretch_eq) (defBody s_Stretch_eq) (defScope s_Stretch_eq) .none kV_Stretch_eq dc_Stretch_eq pm_Stretch_eq an_Stretch_eq cd_Stretch_eq ct_Stretch_eq), f_law_pot, (PySem.W.fnOf "_law_pot" "_law_pot" (defArgs s_law_pot) (defBody s_law_pot) (defScope s_law_pot) .none kV_law_pot dc_law_pot pm_law_pot an_law_pot cd_law_pot ct_law_pot), f_law_take, (PySem.W.fnOf "_law_take" "_law_take" (defArgs s_law_take) (defBody s_law_take) (defScope s_law_take) .none kV_law_take dc_law_take pm_law_take an_law_take cd_law_take ct_law_take), f_law_of, (PySem.W.fnOf "_law_of" "_law_of" (defArgs s_law_of) (defBody s_law_of) (defScope s_law_of) .none kV_law_of dc_law_of pm_law_of an_law_of cd_law_of ct_law_of), f_law_ends, (PySem.W.fnOf "_law_ends" "_law_ends" (defArgs s_law_ends) (defBody s_law_ends) (defScope s_law_ends) .none kV_law_ends dc_law_ends pm_law_ends an_law_ends cd_law_ends ct_law_ends), f_law_made, (PySem.W.fnOf "_law_made" "_law_made" (defArgs s_law_made) (defBody s_law_made) (defScope s_law_made) .none kV_law_made dc_law_made pm_law_made an_law_made cd_law_made ct_law_made), f_law_lies, (PySem.W.fnOf "_law_lies" "_law_lies" (defArgs s_law_lies) (defBody s_law_lies) (defScope s_law_lies) .none kV_law_lies dc_law_lies pm_law_lies an_law_lies cd_law_lies ct_law_lies), f_law_spots, (PySem.W.fnOf "_law_spots" "_law_spots" (defArgs s_law_spots) (defBody s_law_spots) (defScope s_law_spots) .none kV_law_spots dc_law_spots pm_law_spots an_law_spots cd_law_spots ct_law_spots), f_law_is_right, (PySem.W.fnOf "_law_is_right" "_law_is_right" (defArgs s_law_is_right) (defBody s_law_is_right) (defScope s_law_is_right) .none kV_law_is_right dc_law_is_right pm_law_is_right an_law_is_right cd_law_is_right ct_law_is_right), f_law_odd_right, (PySem.W.fnOf "_law_odd_right" "_law_odd_right" (defArgs s_law_odd_right) (defBody s_law_odd_right) (defScope s_law_odd_right) .none kV_law_odd_right dc_law_odd_right pm_law_odd_right an_law_odd_right cd_law_odd_right ct_law_odd_right), f_law, (PySem.W.fnOf "law" "law" (defArgs s_law) (defBody s_law) (defScope s_law) .none kV_law dc_law pm_law an_law cd_law ct_law)⟩, rfl, {
    g_Number := PySem.W.mg_of X G a_Number,
    cl_Number := ⟨pg_Number, hd_Number, po_Number, sa_Number⟩,
    M_Number := ⟨mk_Number, a_Number_init, i_Number_init, kc_Number⟩,
    sf_Number := sf_Number,
    ca_Number := ca_Number,
    cm_Number := cm_Number,
    n_Number_own_top := n_Number_own_top,
    n_Number_own_bottom := n_Number_own_bottom,
    g_Line := PySem.W.mg_of X G a_Line,
    cl_Line := ⟨pg_Line, hd_Line, po_Line, sa_Line⟩,
    M_Line := ⟨mk_Line, a_Line_init, i_Line_init, kc_Line⟩,
    sf_Line := sf_Line,
    ca_Line := ca_Line,
    cm_Line := cm_Line,
    n_Line_own_base := n_Line_own_base,
    n_Line_own_slope := n_Line_own_slope,
    g_Stretch := PySem.W.mg_of X G a_Stretch,
    cl_Stretch := ⟨pg_Stretch, hd_Stretch, po_Stretch, sa_Stretch⟩,
    M_Stretch := ⟨mk_Stretch, a_Stretch_init, i_Stretch_init, kc_Stretch⟩,
    sf_Stretch := sf_Stretch,
    ca_Stretch := ca_Stretch,
    cm_Stretch := cm_Stretch,
    n_Stretch_own_low := n_Stretch_own_low,
    n_Stretch_own_high := n_Stretch_own_high,
    n_Stretch_includes_low := n_Stretch_includes_low,
    n_Stretch_includes_high := n_Stretch_includes_high,
    n_Stretch_own_middle := n_Stretch_own_middle,
    cn := cn,
    ct := ct,
    g_is_integer := PySem.W.mg_of X G a_is_integer,
    F_is_integer := fun_mk (st := s_is_integer) l_is_integer hc_is_integer k_is_integer,
    b_is_integer := (fun_mk (st := s_is_integer) l_is_integer hc_is_integer k_is_integer).binds (ps := ["value"]) fun _ _ _ _ _ _ us hl => match us, hl with | [_], _ => rfl,
    g_shared_divisor := PySem.W.mg_of X G a_shared_divisor,
    F_shared_divisor := fun_mk (st := s_shared_divisor) l_shared_divisor hc_shared_divisor k_shared_divisor,
    b_shared_divisor := (fun_mk (st := s_shared_divisor) l_shared_divisor hc_shared_divisor k_shared_divisor).binds (ps := ["one", "other"]) fun _ _ _ _ _ _ us hl => match us, hl with | [_, _], _ => rfl,
    m_Number_init := ⟨a_Number_init, i_Number_init, k_Number_init⟩,
    F_Number_init := ⟨⟨_, _, _, _, _, _, _, _, _, _, rfl, l_Number_init, hc_Number_init, Or.inr ⟨by simp, _, _, [.int 1 t_Number_init_0], _, rfl, lT_Number_init, rfl, .cons ⟨_, rfl⟩ (.nil)⟩, Or.inl rfl⟩, k_Number_init⟩,
    P_Number_top := ⟨at_Number_top, gt_Number_top, tk_Number_top, ⟨_, rc_Number_top⟩⟩,
    F_Number_top := fun_mk (st := s_Number_top) l_Number_top hc_Number_top k_Number_top,
    b_Number_top := (fun_mk (st := s_Number_top) l_Number_top hc_Number_top k_Number_top).binds (ps := ["self"]) fun _ _ _ _ _ _ us hl => match us, hl with | [_], _ => rfl,
    P_Number_bottom := ⟨at_Number_bottom, gt_Number_bottom, tk_Number_bottom, ⟨_, rc_Number_bottom⟩⟩,
    F_Number_bottom := fun_mk (st := s_Number_bottom) l_Number_bottom hc_Number_bottom k_Number_bottom,
    b_Number_bottom := (fun_mk (st := s_Number_bottom) l_Number_bottom hc_Number_bottom k_Number_bottom).binds (ps := ["self"]) fun _ _ _ _ _ _ us hl => match us, hl with | [_], _ => rfl,
    m_Number_eq := ⟨a_Number_eq, i_Number_eq, k_Number_eq⟩,
    F_Number_eq := fun_mk (st := s_Number_eq) l_Number_eq hc_Number_eq k_Number_eq,
    b_Number_eq := (fun_mk (st := s_Number_eq) l_Number_eq hc_Number_eq k_Number_eq).binds (ps := ["self", "other"]) fun _ _ _ _ _ _ us hl => match us, hl with | [_, _], _ => rfl,
    m_Number_is_less := ⟨a_Number_is_less, i_Number_is_less, k_Number_is_less⟩,
    F_Number_is_less := fun_mk (st := s_Number_is_less) l_Number_is_less hc_Number_is_less k_Number_is_less,
    b_Number_is_less := (fun_mk (st := s_Number_is_less) l_Number_is_less hc_Number_is_less k_Number_is_less).binds (ps := ["self", "other"]) fun _ _ _ _ _ _ us hl => match us, hl with | [_, _], _ => rfl,
    m_Number_add := ⟨a_Number_add, i_Number_add, k_Number_add⟩,
    F_Number_add := fun_mk (st := s_Number_add) l_Number_add hc_Number_add k_Number_add,
    b_Number_add := (fun_mk (st := s_Number_add) l_Number_add hc_Number_add k_Number_add).binds (ps := ["self", "other"]) fun _ _ _ _ _ _ us hl => match us, hl with | [_, _], _ => rfl,
    m_Number_divided_by := ⟨a_Number_divided_by, i_Number_divided_by, k_Number_divided_by⟩,
    F_Number_divided_by := fun_mk (st := s_Number_divided_by) l_Number_divided_by hc_Number_divided_by k_Number_divided_by,
    b_Number_divided_by := (fun_mk (st := s_Number_divided_by) l_Number_divided_by hc_Number_divided_by k_Number_divided_by).binds (ps := ["self", "other"]) fun _ _ _ _ _ _ us hl => match us, hl with | [_, _], _ => rfl,
    g_whole := PySem.W.mg_of X G a_whole,
    F_whole := fun_mk (st := s_whole) l_whole hc_whole k_whole,
    b_whole := (fun_mk (st := s_whole) l_whole hc_whole k_whole).binds (ps := ["count"]) fun _ _ _ _ _ _ us hl => match us, hl with | [_], _ => rfl,
    m_Line_init := ⟨a_Line_init, i_Line_init, k_Line_init⟩,
    F_Line_init := fun_mk (st := s_Line_init) l_Line_init hc_Line_init k_Line_init,
    b_Line_init := (fun_mk (st := s_Line_init) l_Line_init hc_Line_init k_Line_init).binds (ps := ["self", "base", "slope"]) fun _ _ _ _ _ _ us hl => match us, hl with | [_, _, _], _ => rfl,
    m_Line_eq := ⟨a_Line_eq, i_Line_eq, k_Line_eq⟩,
    F_Line_eq := fun_mk (st := s_Line_eq) l_Line_eq hc_Line_eq k_Line_eq,
    b_Line_eq := (fun_mk (st := s_Line_eq) l_Line_eq hc_Line_eq k_Line_eq).binds (ps := ["self", "other"]) fun _ _ _ _ _ _ us hl => match us, hl with | [_, _], _ => rfl,
    m_Stretch_init := ⟨a_Stretch_init, i_Stretch_init, k_Stretch_init⟩,
    F_Stretch_init := ⟨⟨_, _, _, _, _, _, _, _, _, _, rfl, l_Stretch_init, hc_Stretch_init, Or.inl ⟨rfl, rfl⟩, Or.inr ⟨D_Stretch_init, rfl, fun q hq => by
      simp only [List.mem_cons, List.not_mem_nil, or_false] at hq
      rcases hq with rfl | rfl
      · exact ⟨_, kw_Stretch_init_has_low, rfl⟩
      · exact ⟨_, kw_Stretch_init_has_high, rfl⟩⟩⟩, k_Stretch_init⟩,
    P_Stretch_middle := ⟨at_Stretch_middle, gt_Stretch_middle, tk_Stretch_middle, ⟨_, rc_Stretch_middle⟩⟩,
    F_Stretch_middle := fun_mk (st := s_Stretch_middle) l_Stretch_middle hc_Stretch_middle k_Stretch_middle,
    b_Stretch_middle := (fun_mk (st := s_Stretch_middle) l_Stretch_middle hc_Stretch_middle k_Stretch_middle).binds (ps := ["self"]) fun _ _ _ _ _ _ us hl => match us, hl with | [_], _ => rfl,
    m_Stretch_contains := ⟨a_Stretch_contains, i_Stretch_contains, k_Stretch_contains⟩,
    F_Stretch_contains := fun_mk (st := s_Stretch_contains) l_Stretch_contains hc_Stretch_contains k_Stretch_contains,
    b_Stretch_contains := (fun_mk (st := s_Stretch_contains) l_Stretch_contains hc_Stretch_contains k_Stretch_contains).binds (ps := ["self", "s"]) fun _ _ _ _ _ _ us hl => match us, hl with | [_, _], _ => rfl,
    m_Stretch_eq := ⟨a_Stretch_eq, i_Stretch_eq, k_Stretch_eq⟩,
    F_Stretch_eq := fun_mk (st := s_Stretch_eq) l_Stretch_eq hc_Stretch_eq k_Stretch_eq,
    b_Stretch_eq := (fun_mk (st := s_Stretch_eq) l_Stretch_eq hc_Stretch_eq k_Stretch_eq).binds (ps := ["self", "other"]) fun _ _ _ _ _ _ us hl => match us, hl with | [_, _], _ => rfl,
    g_law_pot := PySem.W.mg_of X G a_law_pot,
    F_law_pot := fun_mk (st := s_law_pot) l_law_pot hc_law_pot k_law_pot,
    b_law_pot := (fun_mk (st := s_law_pot) l_law_pot hc_law_pot k_law_pot).binds (ps := ["script", "k"]) fun _ _ _ _ _ _ us hl => match us, hl with | [_, _], _ => rfl,
    g_law_take := PySem.W.mg_of X G a_law_take,
    F_law_take := fun_mk (st := s_law_take) l_law_take hc_law_take k_law_take,
    b_law_take := (fun_mk (st := s_law_take) l_law_take hc_law_take k_law_take).binds (ps := ["pot", "upto"]) fun _ _ _ _ _ _ us hl => match us, hl with | [_, _], _ => rfl,
    g_law_of := PySem.W.mg_of X G a_law_of,
    F_law_of := fun_mk (st := s_law_of) l_law_of hc_law_of k_law_of,
    b_law_of := (fun_mk (st := s_law_of) l_law_of hc_law_of k_law_of).binds (ps := ["pot", "some"]) fun _ _ _ _ _ _ us hl => match us, hl with | [_, _], _ => rfl,
    g_law_ends := PySem.W.mg_of X G a_law_ends,
    F_law_ends := fun_mk (st := s_law_ends) l_law_ends hc_law_ends k_law_ends,
    b_law_ends := (fun_mk (st := s_law_ends) l_law_ends hc_law_ends k_law_ends).binds (ps := ["pot"]) fun _ _ _ _ _ _ us hl => match us, hl with | [_], _ => rfl,
    g_law_made := PySem.W.mg_of X G a_law_made,
    F_law_made := fun_mk (st := s_law_made) l_law_made hc_law_made k_law_made,
    b_law_made := (fun_mk (st := s_law_made) l_law_made hc_law_made k_law_made).binds (ps := ["ends"]) fun _ _ _ _ _ _ us hl => match us, hl with | [_], _ => rfl,
    g_law_lies := PySem.W.mg_of X G a_law_lies,
    F_law_lies := fun_mk (st := s_law_lies) l_law_lies hc_law_lies k_law_lies,
    b_law_lies := (fun_mk (st := s_law_lies) l_law_lies hc_law_lies k_law_lies).binds (ps := ["ends", "s"]) fun _ _ _ _ _ _ us hl => match us, hl with | [_, _], _ => rfl,
    g_law_spots := PySem.W.mg_of X G a_law_spots,
    F_law_spots := fun_mk (st := s_law_spots) l_law_spots hc_law_spots k_law_spots,
    b_law_spots := (fun_mk (st := s_law_spots) l_law_spots hc_law_spots k_law_spots).binds (ps := ["one", "other"]) fun _ _ _ _ _ _ us hl => match us, hl with | [_, _], _ => rfl,
    g_law_is_right := PySem.W.mg_of X G a_law_is_right,
    F_law_is_right := fun_mk (st := s_law_is_right) l_law_is_right hc_law_is_right k_law_is_right,
    b_law_is_right := (fun_mk (st := s_law_is_right) l_law_is_right hc_law_is_right k_law_is_right).binds (ps := ["pot"]) fun _ _ _ _ _ _ us hl => match us, hl with | [_], _ => rfl,
    g_law_odd_right := PySem.W.mg_of X G a_law_odd_right,
    F_law_odd_right := fun_mk (st := s_law_odd_right) l_law_odd_right hc_law_odd_right k_law_odd_right,
    b_law_odd_right := (fun_mk (st := s_law_odd_right) l_law_odd_right hc_law_odd_right k_law_odd_right).binds (ps := []) fun _ _ _ _ _ _ us hl => match us, hl with | [], _ => rfl,
    F_law := fun_mk (st := s_law) l_law hc_law k_law,
    b_law := (fun_mk (st := s_law) l_law hc_law k_law).binds (ps := ["script"]) fun _ _ _ _ _ _ us hl => match us, hl with | [_], _ => rfl,
    z_isinstance := PySem.W.mg_none_of X G z_isinstance,
    z_int := PySem.W.mg_none_of X G z_int,
    z_bool := PySem.W.mg_none_of X G z_bool,
    z_abs := PySem.W.mg_none_of X G z_abs,
    z_len := PySem.W.mg_none_of X G z_len,
    z_max := PySem.W.mg_none_of X G z_max,
    z_min := PySem.W.mg_none_of X G z_min,
    z_range := PySem.W.mg_none_of X G z_range,
    z_repr := PySem.W.mg_none_of X G z_repr,
    z_all := PySem.W.mg_none_of X G z_all,
    z_any := PySem.W.mg_none_of X G z_any,
    kit_NumNum := kit_NumNum,
    kit_StrStr := kit_StrStr,
    kit_LinLin := kit_LinLin,
    kit_blbl := kit_blbl,
    kit_nonNum := kit_nonNum,
    kit_blNum := kit_blNum,
    kit_intNum := kit_intNum,
    kit_strNum := kit_strNum,
    kit_tupNum := kit_tupNum,
    kit_lstNum := kit_lstNum,
    kit_dctNum := kit_dctNum,
    kit_LinNum := kit_LinNum,
    kit_StrNum := kit_StrNum,
    kit_nonLin := kit_nonLin,
    kit_blLin := kit_blLin,
    kit_intLin := kit_intLin,
    kit_strLin := kit_strLin,
    kit_tupLin := kit_tupLin,
    kit_lstLin := kit_lstLin,
    kit_dctLin := kit_dctLin,
    kit_NumLin := kit_NumLin,
    kit_StrLin := kit_StrLin,
    kit_nonStr := kit_nonStr,
    kit_blStr := kit_blStr,
    kit_intStr := kit_intStr,
    kit_strStr := kit_strStr,
    kit_tupStr := kit_tupStr,
    kit_lstStr := kit_lstStr,
    kit_dctStr := kit_dctStr,
    kit_NumStr := kit_NumStr,
    kit_LinStr := kit_LinStr,
    ne_Number := ne_Number,
    ne_Stretch := ne_Stretch,
    sub_nonNum := sub_nonNum,
    sub_blNum := sub_blNum,
    sub_intNum := sub_intNum,
    sub_strNum := sub_strNum,
    sub_tupNum := sub_tupNum,
    sub_lstNum := sub_lstNum,
    sub_dctNum := sub_dctNum,
    sub_LinNum := sub_LinNum,
    sub_StrNum := sub_StrNum,
    sub_nonLin := sub_nonLin,
    sub_blLin := sub_blLin,
    sub_intLin := sub_intLin,
    sub_strLin := sub_strLin,
    sub_tupLin := sub_tupLin,
    sub_lstLin := sub_lstLin,
    sub_dctLin := sub_dctLin,
    sub_NumLin := sub_NumLin,
    sub_StrLin := sub_StrLin,
    sub_nonStr := sub_nonStr,
    sub_blStr := sub_blStr,
    sub_intStr := sub_intStr,
    sub_strStr := sub_strStr,
    sub_tupStr := sub_tupStr,
    sub_lstStr := sub_lstStr,
    sub_dctStr := sub_dctStr,
    sub_NumStr := sub_NumStr,
    sub_LinStr := sub_LinStr
  }⟩

abbrev LV : Nat := 12
theorem walk {l : PySem.W.OpenLaw} {q : Program} {loose : List Str} {XP : (Str → Option Value) → Heap → Prop} {YP : World → Heap → Prop} {d : DefRec} {K : Params → PySem.W.Frag} (hn : l.most = some 63) (hdf : d.params.defaults = [])
    (hY : ∀ (w : World) (h : Heap), YP w h → (K w.params).In h)
    (F : ∀ (w : World) (mg : Str → Option Value) (fa : Addr) (h : Heap), (K w.params).In h → h.Ns mainGlobals mg → mg d.name = some (.ref fa) →
      ∃ fd : FuncData, (∀ (s : Shared) (u : Value), BindsTo s fd ⟨[u], []⟩ [("script", u)]) ∧ ∀ base : Heap, (K w.params).In base → base.Ns mainGlobals mg → FnG l.prog w (K w.params) mg base CX0 LV fa fd ["script"] (spLaw (K w.params))) :
    PySem.W.WalkO q loose XP YP l.row.toRowW d [] (fun f vs => PySem.call f vs) :=
  WG.walk_G (n := 63) (k := LV) (x := "script") (sp := fun w => spLaw (K w.params)) hn (by decide) hdf ⟨rfl, by decide, by decide⟩ hY F (fun _ _ a ns hl _ hS => ⟨a, ns, rfl, hS, hl, fun _ => rfl⟩)
theorem law_mk {P : Program} {w : World} {K : PySem.W.Frag} {h : Heap} {mg : Str → Option Value} {fa : Addr} (X : K.In h) (G : h.Ns mainGlobals mg) (hfa : mg "law" = some (.ref fa))
    {c_Number : Addr}
    {c_Line : Addr}
    {c_Stretch : Addr}
    {f_is_integer : Addr}
    {oc_is_integer : Value}
    {kV_is_integer : Value}
    {dc_is_integer : Value}
    {pm_is_integer : Value}
    {cd_is_integer : Value}
    {ct_is_integer : Value}
    {od_is_integer : Option Addr}
    {an_is_integer : Option Addr}
    {osl_is_integer : Array (Option Value)}
    {f_shared_divisor : Addr}
    {oc_shared_divisor : Value}
    {kV_shared_divisor : Value}
    {dc_shared_divisor : Value}
    {pm_shared_divisor : Value}
    {cd_shared_divisor : Value}
    {ct_shared_divisor : Value}
    {od_shared_divisor : Option Addr}
    {an_shared_divisor : Option Addr}
    {osl_shared_divisor : Array (Option Value)}
    {f_Number_init : Addr}
    {oc_Number_init : Value}
    {kV_Number_init : Value}
    {dc_Number_init : Value}
    {pm_Number_init : Value}
    {cd_Number_init : Value}
    {ct_Number_init : Value}
    {od_Number_init : Option Addr}
    {an_Number_init : Option Addr}
    {osl_Number_init : Array (Option Value)}
    {T_Number_init : Addr}
    {t_Number_init_0 : Tok}
    {oT_Number_init : Value}
    {dT_Number_init : Option Addr}
    {nT_Number_init : Nat}
    {sT_Number_init : Array (Option Value)}
    {f_Number_top : Addr}
    {p_Number_top : Addr}
    {r_Number_top : List Value}
    {oc_Number_top : Value}
    {kV_Number_top : Value}
    {dc_Number_top : Value}
    {pm_Number_top : Value}
    {cd_Number_top : Value}
    {ct_Number_top : Value}
    {od_Number_top : Option Addr}
    {an_Number_top : Option Addr}
    {osl_Number_top : Array (Option Value)}
    {f_Number_bottom : Addr}
    {p_Number_bottom : Addr}
    {r_Number_bottom : List Value}
    {oc_Number_bottom : Value}
    {kV_Number_bottom : Value}
    {dc_Number_bottom : Value}
    {pm_Number_bottom : Value}
    {cd_Number_bottom : Value}
    {ct_Number_bottom : Value}
    {od_Number_bottom : Option Addr}
    {an_Number_bottom : Option Addr}
    {osl_Number_bottom : Array (Option Value)}
    {f_Number_eq : Addr}
    {oc_Number_eq : Value}
    {kV_Number_eq : Value}
    {dc_Number_eq : Value}
    {pm_Number_eq : Value}
    {cd_Number_eq : Value}
    {ct_Number_eq : Value}
    {od_Number_eq : Option Addr}
    {an_Number_eq : Option Addr}
    {osl_Number_eq : Array (Option Value)}
    {f_Number_is_less : Addr}
    {oc_Number_is_less : Value}
    {kV_Number_is_less : Value}
    {dc_Number_is_less : Value}
    {pm_Number_is_less : Value}
    {cd_Number_is_less : Value}
    {ct_Number_is_less : Value}
    {od_Number_is_less : Option Addr}
    {an_Number_is_less : Option Addr}
    {osl_Number_is_less : Array (Option Value)}
    {f_Number_add : Addr}
    {oc_Number_add : Value}
    {kV_Number_add : Value}
    {dc_Number_add : Value}
    {pm_Number_add : Value}
    {cd_Number_add : Value}
    {ct_Number_add : Value}
    {od_Number_add : Option Addr}
    {an_Number_add : Option Addr}
    {osl_Number_add : Array (Option Value)}
    {f_Number_divided_by : Addr}
    {oc_Number_divided_by : Value}
    {kV_Number_divided_by : Value}
    {dc_Number_divided_by : Value}
    {pm_Number_divided_by : Value}
    {cd_Number_divided_by : Value}
    {ct_Number_divided_by : Value}
    {od_Number_divided_by : Option Addr}
    {an_Number_divided_by : Option Addr}
    {osl_Number_divided_by : Array (Option Value)}
    {f_whole : Addr}
    {oc_whole : Value}
    {kV_whole : Value}
    {dc_whole : Value}
    {pm_whole : Value}
    {cd_whole : Value}
    {ct_whole : Value}
    {od_whole : Option Addr}
    {an_whole : Option Addr}
    {osl_whole : Array (Option Value)}
    {f_Line_init : Addr}
    {oc_Line_init : Value}
    {kV_Line_init : Value}
    {dc_Line_init : Value}
    {pm_Line_init : Value}
    {cd_Line_init : Value}
    {ct_Line_init : Value}
    {od_Line_init : Option Addr}
    {an_Line_init : Option Addr}
    {osl_Line_init : Array (Option Value)}
    {f_Line_eq : Addr}
    {oc_Line_eq : Value}
    {kV_Line_eq : Value}
    {dc_Line_eq : Value}
    {pm_Line_eq : Value}
    {cd_Line_eq : Value}
    {ct_Line_eq : Value}
    {od_Line_eq : Option Addr}
    {an_Line_eq : Option Addr}
    {osl_Line_eq : Array (Option Value)}
    {f_Stretch_init : Addr}
    {oc_Stretch_init : Value}
    {dc_Stretch_init : Value}
    {pm_Stretch_init : Value}
    {cd_Stretch_init : Value}
    {ct_Stretch_init : Value}
    {od_Stretch_init : Option Addr}
    {an_Stretch_init : Option Addr}
    {osl_Stretch_init : Array (Option Value)}
    {D_Stretch_init : Addr}
    {f_Stretch_middle : Addr}
    {p_Stretch_middle : Addr}
    {r_Stretch_middle : List Value}
    {oc_Stretch_middle : Value}
    {kV_Stretch_middle : Value}
    {dc_Stretch_middle : Value}
    {pm_Stretch_middle : Value}
    {cd_Stretch_middle : Value}
    {ct_Stretch_middle : Value}
    {od_Stretch_middle : Option Addr}
    {an_Stretch_middle : Option Addr}
    {osl_Stretch_middle : Array (Option Value)}
    {f_Stretch_contains : Addr}
    {oc_Stretch_contains : Value}
    {kV_Stretch_contains : Value}
    {dc_Stretch_contains : Value}
    {pm_Stretch_contains : Value}
    {cd_Stretch_contains : Value}
    {ct_Stretch_contains : Value}
    {od_Stretch_contains : Option Addr}
    {an_Stretch_contains : Option Addr}
    {osl_Stretch_contains : Array (Option Value)}
    {f_Stretch_eq : Addr}
    {oc_Stretch_eq : Value}
    {kV_Stretch_eq : Value}
    {dc_Stretch_eq : Value}
    {pm_Stretch_eq : Value}
    {cd_Stretch_eq : Value}
    {ct_Stretch_eq : Value}
    {od_Stretch_eq : Option Addr}
    {an_Stretch_eq : Option Addr}
    {osl_Stretch_eq : Array (Option Value)}
    {f_law_pot : Addr}
    {oc_law_pot : Value}
    {kV_law_pot : Value}
    {dc_law_pot : Value}
    {pm_law_pot : Value}
    {cd_law_pot : Value}
    {ct_law_pot : Value}
    {od_law_pot : Option Addr}
    {an_law_pot : Option Addr}
    {osl_law_pot : Array (Option Value)}
    {f_law_take : Addr}
    {oc_law_take : Value}
    {kV_law_take : Value}
    {dc_law_take : Value}
    {pm_law_take : Value}
    {cd_law_take : Value}
    {ct_law_take : Value}
    {od_law_take : Option Addr}
    {an_law_take : Option Addr}
    {osl_law_take : Array (Option Value)}
    {f_law_of : Addr}
    {oc_law_of : Value}
    {kV_law_of : Value}
    {dc_law_of : Value}
    {pm_law_of : Value}
    {cd_law_of : Value}
    {ct_law_of : Value}
    {od_law_of : Option Addr}
    {an_law_of : Option Addr}
    {osl_law_of : Array (Option Value)}
    {f_law_ends : Addr}
    {oc_law_ends : Value}
    {kV_law_ends : Value}
    {dc_law_ends : Value}
    {pm_law_ends : Value}
    {cd_law_ends : Value}
    {ct_law_ends : Value}
    {od_law_ends : Option Addr}
    {an_law_ends : Option Addr}
    {osl_law_ends : Array (Option Value)}
    {f_law_made : Addr}
    {oc_law_made : Value}
    {kV_law_made : Value}
    {dc_law_made : Value}
    {pm_law_made : Value}
    {cd_law_made : Value}
    {ct_law_made : Value}
    {od_law_made : Option Addr}
    {an_law_made : Option Addr}
    {osl_law_made : Array (Option Value)}
    {f_law_lies : Addr}
    {oc_law_lies : Value}
    {kV_law_lies : Value}
    {dc_law_lies : Value}
    {pm_law_lies : Value}
    {cd_law_lies : Value}
    {ct_law_lies : Value}
    {od_law_lies : Option Addr}
    {an_law_lies : Option Addr}
    {osl_law_lies : Array (Option Value)}
    {f_law_spots : Addr}
    {oc_law_spots : Value}
    {kV_law_spots : Value}
    {dc_law_spots : Value}
    {pm_law_spots : Value}
    {cd_law_spots : Value}
    {ct_law_spots : Value}
    {od_law_spots : Option Addr}
    {an_law_spots : Option Addr}
    {osl_law_spots : Array (Option Value)}
    {f_law_is_right : Addr}
    {oc_law_is_right : Value}
    {kV_law_is_right : Value}
    {dc_law_is_right : Value}
    {pm_law_is_right : Value}
    {cd_law_is_right : Value}
    {ct_law_is_right : Value}
    {od_law_is_right : Option Addr}
    {an_law_is_right : Option Addr}
    {osl_law_is_right : Array (Option Value)}
    {f_law_odd_right : Addr}
    {oc_law_odd_right : Value}
    {kV_law_odd_right : Value}
    {dc_law_odd_right : Value}
    {pm_law_odd_right : Value}
    {cd_law_odd_right : Value}
    {ct_law_odd_right : Value}
    {od_law_odd_right : Option Addr}
    {an_law_odd_right : Option Addr}
    {osl_law_odd_right : Array (Option Value)}
    {f_law : Addr}
    {oc_law : Value}
    {kV_law : Value}
    {dc_law : Value}
    {pm_law : Value}
    {cd_law : Value}
    {ct_law : Value}
    {od_law : Option Addr}
    {an_law : Option Addr}
    {osl_law : Array (Option Value)}
    (a_Number : PySem.W.nsIn K mainGlobals "Number" = some (some (.ref c_Number)))
    (pg_Number : PySem.W.plainGet K c_Number Str.empty = true)
    (hd_Number : PySem.W.hasDictIn K c_Number = true)
    (po_Number : PySem.W.plainOver K c_Number = true)
    (sa_Number : PySem.W.findIn K (.ref c_Number) "__setattr__" = some (some (.builtin "object.__setattr__")))
    (mk_Number : PySem.W.makesIn K c_Number = true)
    (kc_Number : PySem.W.keepIn K (.ref c_Number) = true)
    (sf_Number : PySem.W.selfFirst K c_Number = true)
    (ca_Number : PySem.W.findIn K (.ref c_Number) "__class__" = some (some (.builtin "object.__class__")))
    (cm_Number : PySem.W.mroIn K c_Number (.type "object") = some true)
    (n_Number_own_top : PySem.W.findIn K (.ref c_Number) "own_top" = some none)
    (n_Number_own_bottom : PySem.W.findIn K (.ref c_Number) "own_bottom" = some none)
    (a_Line : PySem.W.nsIn K mainGlobals "Line" = some (some (.ref c_Line)))
    (pg_Line : PySem.W.plainGet K c_Line Str.empty = true)
    (hd_Line : PySem.W.hasDictIn K c_Line = true)
    (po_Line : PySem.W.plainOver K c_Line = true)
    (sa_Line : PySem.W.findIn K (.ref c_Line) "__setattr__" = some (some (.builtin "object.__setattr__")))
    (mk_Line : PySem.W.makesIn K c_Line = true)
    (kc_Line : PySem.W.keepIn K (.ref c_Line) = true)
    (sf_Line : PySem.W.selfFirst K c_Line = true)
    (ca_Line : PySem.W.findIn K (.ref c_Line) "__class__" = some (some (.builtin "object.__class__")))
    (cm_Line : PySem.W.mroIn K c_Line (.type "object") = some true)
    (n_Line_own_base : PySem.W.findIn K (.ref c_Line) "own_base" = some none)
    (n_Line_own_slope : PySem.W.findIn K (.ref c_Line) "own_slope" = some none)
    (a_Stretch : PySem.W.nsIn K mainGlobals "Stretch" = some (some (.ref c_Stretch)))
    (pg_Stretch : PySem.W.plainGet K c_Stretch Str.empty = true)
    (hd_Stretch : PySem.W.hasDictIn K c_Stretch = true)
    (po_Stretch : PySem.W.plainOver K c_Stretch = true)
    (sa_Stretch : PySem.W.findIn K (.ref c_Stretch) "__setattr__" = some (some (.builtin "object.__setattr__")))
    (mk_Stretch : PySem.W.makesIn K c_Stretch = true)
    (kc_Stretch : PySem.W.keepIn K (.ref c_Stretch) = true)
    (sf_Stretch : PySem.W.selfFirst K c_Stretch = true)
    (ca_Stretch : PySem.W.findIn K (.ref c_Stretch) "__class__" = some (some (.builtin "object.__class__")))
    (cm_Stretch : PySem.W.mroIn K c_Stretch (.type "object") = some true)
    (n_Stretch_own_low : PySem.W.findIn K (.ref c_Stretch) "own_low" = some none)
    (n_Stretch_own_high : PySem.W.findIn K (.ref c_Stretch) "own_high" = some none)
    (n_Stretch_includes_low : PySem.W.findIn K (.ref c_Stretch) "includes_low" = some none)
    (n_Stretch_includes_high : PySem.W.findIn K (.ref c_Stretch) "includes_high" = some none)
    (n_Stretch_own_middle : PySem.W.findIn K (.ref c_Stretch) "own_middle" = some none)
    (cn : PySem.W.specialIn K (.builtin "object.__class__") "__get__" = some (some (.builtin "getset_descriptor.__get__")))
    (ct : PySem.W.takesIn K (.builtin "object.__class__") = some true)
    (a_is_integer : PySem.W.nsIn K mainGlobals "is_integer" = some (some (.ref f_is_integer)))
    (l_is_integer : K.lookup f_is_integer = some ⟨oc_is_integer, od_is_integer, .func (PySem.W.fnOf "is_integer" "is_integer" (defArgs s_is_integer) (defBody s_is_integer) (defScope s_is_integer) .none kV_is_integer dc_is_integer pm_is_integer an_is_integer cd_is_integer ct_is_integer), osl_is_integer⟩)
    (hc_is_integer : PySem.W.codeIn K cd_is_integer "is_integer" = true)
    (k_is_integer : PySem.W.keepIn K (.ref f_is_integer) = true)
    (a_shared_divisor : PySem.W.nsIn K mainGlobals "shared_divisor" = some (some (.ref f_shared_divisor)))
    (l_shared_divisor : K.lookup f_shared_divisor = some ⟨oc_shared_divisor, od_shared_divisor, .func (PySem.W.fnOf "shared_divisor" "shared_divisor" (defArgs s_shared_divisor) (defBody s_shared_divisor) (defScope s_shared_divisor) .none kV_shared_divisor dc_shared_divisor pm_shared_divisor an_shared_divisor cd_shared_divisor ct_shared_divisor), osl_shared_divisor⟩)
    (hc_shared_divisor : PySem.W.codeIn K cd_shared_divisor "shared_divisor" = true)
    (k_shared_divisor : PySem.W.keepIn K (.ref f_shared_divisor) = true)
    (a_Number_init : PySem.W.findIn K (.ref c_Number) "__init__" = some (some (.ref f_Number_init)))
    (i_Number_init : PySem.W.isFn K (.ref f_Number_init) = true)
    (l_Number_init : K.lookup f_Number_init = some ⟨oc_Number_init, od_Number_init, .func (PySem.W.fnOf "__init__" "Number.__init__" (defArgs s_Number_init) (defBody s_Number_init) (defScope s_Number_init) (.ref T_Number_init) kV_Number_init dc_Number_init pm_Number_init an_Number_init cd_Number_init ct_Number_init), osl_Number_init⟩)
    (hc_Number_init : PySem.W.codeIn K cd_Number_init "Number.__init__" = true)
    (k_Number_init : PySem.W.keepIn K (.ref f_Number_init) = true)
    (lT_Number_init : K.lookup T_Number_init = some ⟨oT_Number_init, dT_Number_init, .seq #[.int 1 t_Number_init_0] nT_Number_init, sT_Number_init⟩)
    (at_Number_top : PySem.W.findIn K (.ref c_Number) "top" = some (some (.ref p_Number_top)))
    (gt_Number_top : PySem.W.specialIn K (.ref p_Number_top) "__get__" = some (some (.builtin "property.__get__")))
    (tk_Number_top : PySem.W.takesIn K (.ref p_Number_top) = some true)
    (rc_Number_top : PySem.W.recIn K p_Number_top "property" = some (.ref f_Number_top :: r_Number_top))
    (l_Number_top : K.lookup f_Number_top = some ⟨oc_Number_top, od_Number_top, .func (PySem.W.fnOf "top" "Number.top" (defArgs s_Number_top) (defBody s_Number_top) (defScope s_Number_top) .none kV_Number_top dc_Number_top pm_Number_top an_Number_top cd_Number_top ct_Number_top), osl_Number_top⟩)
    (hc_Number_top : PySem.W.codeIn K cd_Number_top "Number.top" = true)
    (k_Number_top : PySem.W.keepIn K (.ref f_Number_top) = true)
    (at_Number_bottom : PySem.W.findIn K (.ref c_Number) "bottom" = some (some (.ref p_Number_bottom)))
    (gt_Number_bottom : PySem.W.specialIn K (.ref p_Number_bottom) "__get__" = some (some (.builtin "property.__get__")))
    (tk_Number_bottom : PySem.W.takesIn K (.ref p_Number_bottom) = some true)
    (rc_Number_bottom : PySem.W.recIn K p_Number_bottom "property" = some (.ref f_Number_bottom :: r_Number_bottom))
    (l_Number_bottom : K.lookup f_Number_bottom = some ⟨oc_Number_bottom, od_Number_bottom, .func (PySem.W.fnOf "bottom" "Number.bottom" (defArgs s_Number_bottom) (defBody s_Number_bottom) (defScope s_Number_bottom) .none kV_Number_bottom dc_Number_bottom pm_Number_bottom an_Number_bottom cd_Number_bottom ct_Number_bottom), osl_Number_bottom⟩)
    (hc_Number_bottom : PySem.W.codeIn K cd_Number_bottom "Number.bottom" = true)
    (k_Number_bottom : PySem.W.keepIn K (.ref f_Number_bottom) = true)
    (a_Number_eq : PySem.W.findIn K (.ref c_Number) "__eq__" = some (some (.ref f_Number_eq)))
    (i_Number_eq : PySem.W.isFn K (.ref f_Number_eq) = true)
    (l_Number_eq : K.lookup f_Number_eq = some ⟨oc_Number_eq, od_Number_eq, .func (PySem.W.fnOf "__eq__" "Number.__eq__" (defArgs s_Number_eq) (defBody s_Number_eq) (defScope s_Number_eq) .none kV_Number_eq dc_Number_eq pm_Number_eq an_Number_eq cd_Number_eq ct_Number_eq), osl_Number_eq⟩)
    (hc_Number_eq : PySem.W.codeIn K cd_Number_eq "Number.__eq__" = true)
    (k_Number_eq : PySem.W.keepIn K (.ref f_Number_eq) = true)
    (a_Number_is_less : PySem.W.findIn K (.ref c_Number) "is_less" = some (some (.ref f_Number_is_less)))
    (i_Number_is_less : PySem.W.isFn K (.ref f_Number_is_less) = true)
    (l_Number_is_less : K.lookup f_Number_is_less = some ⟨oc_Number_is_less, od_Number_is_less, .func (PySem.W.fnOf "is_less" "Number.is_less" (defArgs s_Number_is_less) (defBody s_Number_is_less) (defScope s_Number_is_less) .none kV_Number_is_less dc_Number_is_less pm_Number_is_less an_Number_is_less cd_Number_is_less ct_Number_is_less), osl_Number_is_less⟩)
    (hc_Number_is_less : PySem.W.codeIn K cd_Number_is_less "Number.is_less" = true)
    (k_Number_is_less : PySem.W.keepIn K (.ref f_Number_is_less) = true)
    (a_Number_add : PySem.W.findIn K (.ref c_Number) "__add__" = some (some (.ref f_Number_add)))
    (i_Number_add : PySem.W.isFn K (.ref f_Number_add) = true)
    (l_Number_add : K.lookup f_Number_add = some ⟨oc_Number_add, od_Number_add, .func (PySem.W.fnOf "__add__" "Number.__add__" (defArgs s_Number_add) (defBody s_Number_add) (defScope s_Number_add) .none kV_Number_add dc_Number_add pm_Number_add an_Number_add cd_Number_add ct_Number_add), osl_Number_add⟩)
    (hc_Number_add : PySem.W.codeIn K cd_Number_add "Number.__add__" = true)
    (k_Number_add : PySem.W.keepIn K (.ref f_Number_add) = true)
    (a_Number_divided_by : PySem.W.findIn K (.ref c_Number) "divided_by" = some (some (.ref f_Number_divided_by)))
    (i_Number_divided_by : PySem.W.isFn K (.ref f_Number_divided_by) = true)
    (l_Number_divided_by : K.lookup f_Number_divided_by = some ⟨oc_Number_divided_by, od_Number_divided_by, .func (PySem.W.fnOf "divided_by" "Number.divided_by" (defArgs s_Number_divided_by) (defBody s_Number_divided_by) (defScope s_Number_divided_by) .none kV_Number_divided_by dc_Number_divided_by pm_Number_divided_by an_Number_divided_by cd_Number_divided_by ct_Number_divided_by), osl_Number_divided_by⟩)
    (hc_Number_divided_by : PySem.W.codeIn K cd_Number_divided_by "Number.divided_by" = true)
    (k_Number_divided_by : PySem.W.keepIn K (.ref f_Number_divided_by) = true)
    (a_whole : PySem.W.nsIn K mainGlobals "whole" = some (some (.ref f_whole)))
    (l_whole : K.lookup f_whole = some ⟨oc_whole, od_whole, .func (PySem.W.fnOf "whole" "whole" (defArgs s_whole) (defBody s_whole) (defScope s_whole) .none kV_whole dc_whole pm_whole an_whole cd_whole ct_whole), osl_whole⟩)
    (hc_whole : PySem.W.codeIn K cd_whole "whole" = true)
    (k_whole : PySem.W.keepIn K (.ref f_whole) = true)
    (a_Line_init : PySem.W.findIn K (.ref c_Line) "__init__" = some (some (.ref f_Line_init)))
    (i_Line_init : PySem.W.isFn K (.ref f_Line_init) = true)
    (l_Line_init : K.lookup f_Line_init = some ⟨oc_Line_init, od_Line_init, .func (PySem.W.fnOf "__init__" "Line.__init__" (defArgs s_Line_init) (defBody s_Line_init) (defScope s_Line_init) .none kV_Line_init dc_Line_init pm_Line_init an_Line_init cd_Line_init ct_Line_init), osl_Line_init⟩)
    (hc_Line_init : PySem.W.codeIn K cd_Line_init "Line.__init__" = true)
    (k_Line_init : PySem.W.keepIn K (.ref f_Line_init) = true)
    (a_Line_eq : PySem.W.findIn K (.ref c_Line) "__eq__" = some (some (.ref f_Line_eq)))
    (i_Line_eq : PySem.W.isFn K (.ref f_Line_eq) = true)
    (l_Line_eq : K.lookup f_Line_eq = some ⟨oc_Line_eq, od_Line_eq, .func (PySem.W.fnOf "__eq__" "Line.__eq__" (defArgs s_Line_eq) (defBody s_Line_eq) (defScope s_Line_eq) .none kV_Line_eq dc_Line_eq pm_Line_eq an_Line_eq cd_Line_eq ct_Line_eq), osl_Line_eq⟩)
    (hc_Line_eq : PySem.W.codeIn K cd_Line_eq "Line.__eq__" = true)
    (k_Line_eq : PySem.W.keepIn K (.ref f_Line_eq) = true)
    (a_Stretch_init : PySem.W.findIn K (.ref c_Stretch) "__init__" = some (some (.ref f_Stretch_init)))
    (i_Stretch_init : PySem.W.isFn K (.ref f_Stretch_init) = true)
    (l_Stretch_init : K.lookup f_Stretch_init = some ⟨oc_Stretch_init, od_Stretch_init, .func (PySem.W.fnOf "__init__" "Stretch.__init__" (defArgs s_Stretch_init) (defBody s_Stretch_init) (defScope s_Stretch_init) .none (.ref D_Stretch_init) dc_Stretch_init pm_Stretch_init an_Stretch_init cd_Stretch_init ct_Stretch_init), osl_Stretch_init⟩)
    (hc_Stretch_init : PySem.W.codeIn K cd_Stretch_init "Stretch.__init__" = true)
    (k_Stretch_init : PySem.W.keepIn K (.ref f_Stretch_init) = true)
    (kw_Stretch_init_has_low : PySem.W.nsIn K D_Stretch_init "has_low" = some (some (.bool true)))
    (kw_Stretch_init_has_high : PySem.W.nsIn K D_Stretch_init "has_high" = some (some (.bool true)))
    (at_Stretch_middle : PySem.W.findIn K (.ref c_Stretch) "middle" = some (some (.ref p_Stretch_middle)))
    (gt_Stretch_middle : PySem.W.specialIn K (.ref p_Stretch_middle) "__get__" = some (some (.builtin "property.__get__")))
    (tk_Stretch_middle : PySem.W.takesIn K (.ref p_Stretch_middle) = some true)
    (rc_Stretch_middle : PySem.W.recIn K p_Stretch_middle "property" = some (.ref f_Stretch_middle :: r_Stretch_middle))
    (l_Stretch_middle : K.lookup f_Stretch_middle = some ⟨oc_Stretch_middle, od_Stretch_middle, .func (PySem.W.fnOf "middle" "Stretch.middle" (defArgs s_Stretch_middle) (defBody s_Stretch_middle) (defScope s_Stretch_middle) .none kV_Stretch_middle dc_Stretch_middle pm_Stretch_middle an_Stretch_middle cd_Stretch_middle ct_Stretch_middle), osl_Stretch_middle⟩)
    (hc_Stretch_middle : PySem.W.codeIn K cd_Stretch_middle "Stretch.middle" = true)
    (k_Stretch_middle : PySem.W.keepIn K (.ref f_Stretch_middle) = true)
    (a_Stretch_contains : PySem.W.findIn K (.ref c_Stretch) "__contains__" = some (some (.ref f_Stretch_contains)))
    (i_Stretch_contains : PySem.W.isFn K (.ref f_Stretch_contains) = true)
    (l_Stretch_contains : K.lookup f_Stretch_contains = some ⟨oc_Stretch_contains, od_Stretch_contains, .func (PySem.W.fnOf "__contains__" "Stretch.__contains__" (defArgs s_Stretch_contains) (defBody s_Stretch_contains) (defScope s_Stretch_contains) .none kV_Stretch_contains dc_Stretch_contains pm_Stretch_contains an_Stretch_contains cd_Stretch_contains ct_Stretch_contains), osl_Stretch_contains⟩)
    (hc_Stretch_contains : PySem.W.codeIn K cd_Stretch_contains "Stretch.__contains__" = true)
    (k_Stretch_contains : PySem.W.keepIn K (.ref f_Stretch_contains) = true)
    (a_Stretch_eq : PySem.W.findIn K (.ref c_Stretch) "__eq__" = some (some (.ref f_Stretch_eq)))
    (i_Stretch_eq : PySem.W.isFn K (.ref f_Stretch_eq) = true)
    (l_Stretch_eq : K.lookup f_Stretch_eq = some ⟨oc_Stretch_eq, od_Stretch_eq, .func (PySem.W.fnOf "__eq__" "Stretch.__eq__" (defArgs s_Stretch_eq) (defBody s_Stretch_eq) (defScope s_Stretch_eq) .none kV_Stretch_eq dc_Stretch_eq pm_Stretch_eq an_Stretch_eq cd_Stretch_eq ct_Stretch_eq), osl_Stretch_eq⟩)
    (hc_Stretch_eq : PySem.W.codeIn K cd_Stretch_eq "Stretch.__eq__" = true)
    (k_Stretch_eq : PySem.W.keepIn K (.ref f_Stretch_eq) = true)
    (a_law_pot : PySem.W.nsIn K mainGlobals "_law_pot" = some (some (.ref f_law_pot)))
    (l_law_pot : K.lookup f_law_pot = some ⟨oc_law_pot, od_law_pot, .func (PySem.W.fnOf "_law_pot" "_law_pot" (defArgs s_law_pot) (defBody s_law_pot) (defScope s_law_pot) .none kV_law_pot dc_law_pot pm_law_pot an_law_pot cd_law_pot ct_law_pot), osl_law_pot⟩)
    (hc_law_pot : PySem.W.codeIn K cd_law_pot "_law_pot" = true)
    (k_law_pot : PySem.W.keepIn K (.ref f_law_pot) = true)
    (a_law_take : PySem.W.nsIn K mainGlobals "_law_take" = some (some (.ref f_law_take)))
    (l_law_take : K.lookup f_law_take = some ⟨oc_law_take, od_law_take, .func (PySem.W.fnOf "_law_take" "_law_take" (defArgs s_law_take) (defBody s_law_take) (defScope s_law_take) .none kV_law_take dc_law_take pm_law_take an_law_take cd_law_take ct_law_take), osl_law_take⟩)
    (hc_law_take : PySem.W.codeIn K cd_law_take "_law_take" = true)
    (k_law_take : PySem.W.keepIn K (.ref f_law_take) = true)
    (a_law_of : PySem.W.nsIn K mainGlobals "_law_of" = some (some (.ref f_law_of)))
    (l_law_of : K.lookup f_law_of = some ⟨oc_law_of, od_law_of, .func (PySem.W.fnOf "_law_of" "_law_of" (defArgs s_law_of) (defBody s_law_of) (defScope s_law_of) .none kV_law_of dc_law_of pm_law_of an_law_of cd_law_of ct_law_of), osl_law_of⟩)
    (hc_law_of : PySem.W.codeIn K cd_law_of "_law_of" = true)
    (k_law_of : PySem.W.keepIn K (.ref f_law_of) = true)
    (a_law_ends : PySem.W.nsIn K mainGlobals "_law_ends" = some (some (.ref f_law_ends)))
    (l_law_ends : K.lookup f_law_ends = some ⟨oc_law_ends, od_law_ends, .func (PySem.W.fnOf "_law_ends" "_law_ends" (defArgs s_law_ends) (defBody s_law_ends) (defScope s_law_ends) .none kV_law_ends dc_law_ends pm_law_ends an_law_ends cd_law_ends ct_law_ends), osl_law_ends⟩)
    (hc_law_ends : PySem.W.codeIn K cd_law_ends "_law_ends" = true)
    (k_law_ends : PySem.W.keepIn K (.ref f_law_ends) = true)
    (a_law_made : PySem.W.nsIn K mainGlobals "_law_made" = some (some (.ref f_law_made)))
    (l_law_made : K.lookup f_law_made = some ⟨oc_law_made, od_law_made, .func (PySem.W.fnOf "_law_made" "_law_made" (defArgs s_law_made) (defBody s_law_made) (defScope s_law_made) .none kV_law_made dc_law_made pm_law_made an_law_made cd_law_made ct_law_made), osl_law_made⟩)
    (hc_law_made : PySem.W.codeIn K cd_law_made "_law_made" = true)
    (k_law_made : PySem.W.keepIn K (.ref f_law_made) = true)
    (a_law_lies : PySem.W.nsIn K mainGlobals "_law_lies" = some (some (.ref f_law_lies)))
    (l_law_lies : K.lookup f_law_lies = some ⟨oc_law_lies, od_law_lies, .func (PySem.W.fnOf "_law_lies" "_law_lies" (defArgs s_law_lies) (defBody s_law_lies) (defScope s_law_lies) .none kV_law_lies dc_law_lies pm_law_lies an_law_lies cd_law_lies ct_law_lies), osl_law_lies⟩)
    (hc_law_lies : PySem.W.codeIn K cd_law_lies "_law_lies" = true)
    (k_law_lies : PySem.W.keepIn K (.ref f_law_lies) = true)
    (a_law_spots : PySem.W.nsIn K mainGlobals "_law_spots" = some (some (.ref f_law_spots)))
    (l_law_spots : K.lookup f_law_spots = some ⟨oc_law_spots, od_law_spots, .func (PySem.W.fnOf "_law_spots" "_law_spots" (defArgs s_law_spots) (defBody s_law_spots) (defScope s_law_spots) .none kV_law_spots dc_law_spots pm_law_spots an_law_spots cd_law_spots ct_law_spots), osl_law_spots⟩)
    (hc_law_spots : PySem.W.codeIn K cd_law_spots "_law_spots" = true)
    (k_law_spots : PySem.W.keepIn K (.ref f_law_spots) = true)
    (a_law_is_right : PySem.W.nsIn K mainGlobals "_law_is_right" = some (some (.ref f_law_is_right)))
    (l_law_is_right : K.lookup f_law_is_right = some ⟨oc_law_is_right, od_law_is_right, .func (PySem.W.fnOf "_law_is_right" "_law_is_right" (defArgs s_law_is_right) (defBody s_law_is_right) (defScope s_law_is_right) .none kV_law_is_right dc_law_is_right pm_law_is_right an_law_is_right cd_law_is_right ct_law_is_right), osl_law_is_right⟩)
    (hc_law_is_right : PySem.W.codeIn K cd_law_is_right "_law_is_right" = true)
    (k_law_is_right : PySem.W.keepIn K (.ref f_law_is_right) = true)
    (a_law_odd_right : PySem.W.nsIn K mainGlobals "_law_odd_right" = some (some (.ref f_law_odd_right)))
    (l_law_odd_right : K.lookup f_law_odd_right = some ⟨oc_law_odd_right, od_law_odd_right, .func (PySem.W.fnOf "_law_odd_right" "_law_odd_right" (defArgs s_law_odd_right) (defBody s_law_odd_right) (defScope s_law_odd_right) .none kV_law_odd_right dc_law_odd_right pm_law_odd_right an_law_odd_right cd_law_odd_right ct_law_odd_right), osl_law_odd_right⟩)
    (hc_law_odd_right : PySem.W.codeIn K cd_law_odd_right "_law_odd_right" = true)
    (k_law_odd_right : PySem.W.keepIn K (.ref f_law_odd_right) = true)
    (a_law : PySem.W.nsIn K mainGlobals "law" = some (some (.ref f_law)))
    (l_law : K.lookup f_law = some ⟨oc_law, od_law, .func (PySem.W.fnOf "law" "law" (defArgs s_law) (defBody s_law) (defScope s_law) .none kV_law dc_law pm_law an_law cd_law ct_law), osl_law⟩)
    (hc_law : PySem.W.codeIn K cd_law "law" = true)
    (k_law : PySem.W.keepIn K (.ref f_law) = true)
    (z_isinstance : PySem.W.nsIn K mainGlobals "isinstance" = some none)
    (z_int : PySem.W.nsIn K mainGlobals "int" = some none)
    (z_bool : PySem.W.nsIn K mainGlobals "bool" = some none)
    (z_abs : PySem.W.nsIn K mainGlobals "abs" = some none)
    (z_len : PySem.W.nsIn K mainGlobals "len" = some none)
    (z_max : PySem.W.nsIn K mainGlobals "max" = some none)
    (z_min : PySem.W.nsIn K mainGlobals "min" = some none)
    (z_range : PySem.W.nsIn K mainGlobals "range" = some none)
    (z_repr : PySem.W.nsIn K mainGlobals "repr" = some none)
    (z_all : PySem.W.nsIn K mainGlobals "all" = some none)
    (z_any : PySem.W.nsIn K mainGlobals "any" = some none)
    (kit_NumNum : PySem.W.kitOne K (.ref c_Number) (.ref c_Number) = some true)
    (kit_StrStr : PySem.W.kitOne K (.ref c_Stretch) (.ref c_Stretch) = some true)
    (kit_LinLin : PySem.W.kitOne K (.ref c_Line) (.ref c_Line) = some true)
    (kit_blbl : PySem.W.kitOne K (.type "bool") (.type "bool") = some true)
    (kit_nonNum : PySem.W.kitOne K (.type "NoneType") (.ref c_Number) = some false)
    (kit_blNum : PySem.W.kitOne K (.type "bool") (.ref c_Number) = some false)
    (kit_intNum : PySem.W.kitOne K (.type "int") (.ref c_Number) = some false)
    (kit_strNum : PySem.W.kitOne K (.type "str") (.ref c_Number) = some false)
    (kit_tupNum : PySem.W.kitOne K (.type "tuple") (.ref c_Number) = some false)
    (kit_lstNum : PySem.W.kitOne K (.type "list") (.ref c_Number) = some false)
    (kit_dctNum : PySem.W.kitOne K (.type "dict") (.ref c_Number) = some false)
    (kit_LinNum : PySem.W.kitOne K (.ref c_Line) (.ref c_Number) = some false)
    (kit_StrNum : PySem.W.kitOne K (.ref c_Stretch) (.ref c_Number) = some false)
    (kit_nonLin : PySem.W.kitOne K (.type "NoneType") (.ref c_Line) = some false)
    (kit_blLin : PySem.W.kitOne K (.type "bool") (.ref c_Line) = some false)
    (kit_intLin : PySem.W.kitOne K (.type "int") (.ref c_Line) = some false)
    (kit_strLin : PySem.W.kitOne K (.type "str") (.ref c_Line) = some false)
    (kit_tupLin : PySem.W.kitOne K (.type "tuple") (.ref c_Line) = some false)
    (kit_lstLin : PySem.W.kitOne K (.type "list") (.ref c_Line) = some false)
    (kit_dctLin : PySem.W.kitOne K (.type "dict") (.ref c_Line) = some false)
    (kit_NumLin : PySem.W.kitOne K (.ref c_Number) (.ref c_Line) = some false)
    (kit_StrLin : PySem.W.kitOne K (.ref c_Stretch) (.ref c_Line) = some false)
    (kit_nonStr : PySem.W.kitOne K (.type "NoneType") (.ref c_Stretch) = some false)
    (kit_blStr : PySem.W.kitOne K (.type "bool") (.ref c_Stretch) = some false)
    (kit_intStr : PySem.W.kitOne K (.type "int") (.ref c_Stretch) = some false)
    (kit_strStr : PySem.W.kitOne K (.type "str") (.ref c_Stretch) = some false)
    (kit_tupStr : PySem.W.kitOne K (.type "tuple") (.ref c_Stretch) = some false)
    (kit_lstStr : PySem.W.kitOne K (.type "list") (.ref c_Stretch) = some false)
    (kit_dctStr : PySem.W.kitOne K (.type "dict") (.ref c_Stretch) = some false)
    (kit_NumStr : PySem.W.kitOne K (.ref c_Number) (.ref c_Stretch) = some false)
    (kit_LinStr : PySem.W.kitOne K (.ref c_Line) (.ref c_Stretch) = some false)
    (ne_Number : PySem.W.findIn K (.ref c_Number) "__ne__" = some (some (.builtin "object.__ne__")))
    (ne_Stretch : PySem.W.findIn K (.ref c_Stretch) "__ne__" = some (some (.builtin "object.__ne__")))
    (sub_nonNum : PySem.W.subIn K (.type "NoneType") (.ref c_Number) = some false)
    (sub_blNum : PySem.W.subIn K (.type "bool") (.ref c_Number) = some false)
    (sub_intNum : PySem.W.subIn K (.type "int") (.ref c_Number) = some false)
    (sub_strNum : PySem.W.subIn K (.type "str") (.ref c_Number) = some false)
    (sub_tupNum : PySem.W.subIn K (.type "tuple") (.ref c_Number) = some false)
    (sub_lstNum : PySem.W.subIn K (.type "list") (.ref c_Number) = some false)
    (sub_dctNum : PySem.W.subIn K (.type "dict") (.ref c_Number) = some false)
    (sub_LinNum : PySem.W.subIn K (.ref c_Line) (.ref c_Number) = some false)
    (sub_StrNum : PySem.W.subIn K (.ref c_Stretch) (.ref c_Number) = some false)
    (sub_nonLin : PySem.W.subIn K (.type "NoneType") (.ref c_Line) = some false)
    (sub_blLin : PySem.W.subIn K (.type "bool") (.ref c_Line) = some false)
    (sub_intLin : PySem.W.subIn K (.type "int") (.ref c_Line) = some false)
    (sub_strLin : PySem.W.subIn K (.type "str") (.ref c_Line) = some false)
    (sub_tupLin : PySem.W.subIn K (.type "tuple") (.ref c_Line) = some false)
    (sub_lstLin : PySem.W.subIn K (.type "list") (.ref c_Line) = some false)
    (sub_dctLin : PySem.W.subIn K (.type "dict") (.ref c_Line) = some false)
    (sub_NumLin : PySem.W.subIn K (.ref c_Number) (.ref c_Line) = some false)
    (sub_StrLin : PySem.W.subIn K (.ref c_Stretch) (.ref c_Line) = some false)
    (sub_nonStr : PySem.W.subIn K (.type "NoneType") (.ref c_Stretch) = some false)
    (sub_blStr : PySem.W.subIn K (.type "bool") (.ref c_Stretch) = some false)
    (sub_intStr : PySem.W.subIn K (.type "int") (.ref c_Stretch) = some false)
    (sub_strStr : PySem.W.subIn K (.type "str") (.ref c_Stretch) = some false)
    (sub_tupStr : PySem.W.subIn K (.type "tuple") (.ref c_Stretch) = some false)
    (sub_lstStr : PySem.W.subIn K (.type "list") (.ref c_Stretch) = some false)
    (sub_dctStr : PySem.W.subIn K (.type "dict") (.ref c_Stretch) = some false)
    (sub_NumStr : PySem.W.subIn K (.ref c_Number) (.ref c_Stretch) = some false)
    (sub_LinStr : PySem.W.subIn K (.ref c_Line) (.ref c_Stretch) = some false)
    : ∃ fd : FuncData, (∀ (s : Shared) (v : Value), BindsTo s fd ⟨[v], []⟩ [("script", v)]) ∧ ∀ base : Heap, K.In base → base.Ns mainGlobals mg → FnG P w K mg base CX0 LV fa fd ["script"] (spLaw K) := by
  obtain ⟨A, eA, T⟩ := all_mk X G a_Number pg_Number hd_Number po_Number sa_Number mk_Number kc_Number sf_Number ca_Number cm_Number n_Number_own_top n_Number_own_bottom a_Line pg_Line hd_Line po_Line sa_Line mk_Line kc_Line sf_Line ca_Line cm_Line n_Line_own_base n_Line_own_slope a_Stretch pg_Stretch hd_Stretch po_Stretch sa_Stretch mk_Stretch kc_Stretch sf_Stretch ca_Stretch cm_Stretch n_Stretch_own_low n_Stretch_own_high n_Stretch_includes_low n_Stretch_includes_high n_Stretch_own_middle cn ct a_is_integer l_is_integer hc_is_integer k_is_integer a_shared_divisor l_shared_divisor hc_shared_divisor k_shared_divisor a_Number_init i_Number_init l_Number_init hc_Number_init k_Number_init lT_Number_init at_Number_top gt_Number_top tk_Number_top rc_Number_top l_Number_top hc_Number_top k_Number_top at_Number_bottom gt_Number_bottom tk_Number_bottom rc_Number_bottom l_Number_bottom hc_Number_bottom k_Number_bottom a_Number_eq i_Number_eq l_Number_eq hc_Number_eq k_Number_eq a_Number_is_less i_Number_is_less l_Number_is_less hc_Number_is_less k_Number_is_less a_Number_add i_Number_add l_Number_add hc_Number_add k_Number_add a_Number_divided_by i_Number_divided_by l_Number_divided_by hc_Number_divided_by k_Number_divided_by a_whole l_whole hc_whole k_whole a_Line_init i_Line_init l_Line_init hc_Line_init k_Line_init a_Line_eq i_Line_eq l_Line_eq hc_Line_eq k_Line_eq a_Stretch_init i_Stretch_init l_Stretch_init hc_Stretch_init k_Stretch_init kw_Stretch_init_has_low kw_Stretch_init_has_high at_Stretch_middle gt_Stretch_middle tk_Stretch_middle rc_Stretch_middle l_Stretch_middle hc_Stretch_middle k_Stretch_middle a_Stretch_contains i_Stretch_contains l_Stretch_contains hc_Stretch_contains k_Stretch_contains a_Stretch_eq i_Stretch_eq l_Stretch_eq hc_Stretch_eq k_Stretch_eq a_law_pot l_law_pot hc_law_pot k_law_pot a_law_take l_law_take hc_law_take k_law_take a_law_of l_law_of hc_law_of k_law_of a_law_ends l_law_ends hc_law_ends k_law_ends a_law_made l_law_made hc_law_made k_law_made a_law_lies l_law_lies hc_law_lies k_law_lies a_law_spots l_law_spots hc_law_spots k_law_spots a_law_is_right l_law_is_right hc_law_is_right k_law_is_right a_law_odd_right l_law_odd_right hc_law_odd_right k_law_odd_right a_law l_law hc_law k_law z_isinstance z_int z_bool z_abs z_len z_max z_min z_range z_repr z_all z_any kit_NumNum kit_StrStr kit_LinLin kit_blbl kit_nonNum kit_blNum kit_intNum kit_strNum kit_tupNum kit_lstNum kit_dctNum kit_LinNum kit_StrNum kit_nonLin kit_blLin kit_intLin kit_strLin kit_tupLin kit_lstLin kit_dctLin kit_NumLin kit_StrLin kit_nonStr kit_blStr kit_intStr kit_strStr kit_tupStr kit_lstStr kit_dctStr kit_NumStr kit_LinStr ne_Number ne_Stretch sub_nonNum sub_blNum sub_intNum sub_strNum sub_tupNum sub_lstNum sub_dctNum sub_LinNum sub_StrNum sub_nonLin sub_blLin sub_intLin sub_strLin sub_tupLin sub_lstLin sub_dctLin sub_NumLin sub_StrLin sub_nonStr sub_blStr sub_intStr sub_strStr sub_tupStr sub_lstStr sub_dctStr sub_NumStr sub_LinStr
  have e := hfa.symm.trans (PySem.W.mg_of X G a_law)
  cases e
  refine ⟨A.d_law, fun s v => ?_, fun base _ _ => eA ▸ (ok_law T).mono (by decide)⟩
  obtain ⟨oc, od, kV, doc, pm, an, cdv, ct, osl, hfd, _, _⟩ := T.F_law.ex
  rw [hfd]
  exact .of_eq rfl
end Q
open PySem PySem.W PyProof.Rows
set_option maxRecDepth 100000 in
set_option maxHeartbeats 0 in
theorem PySem.Challenge.cw_whatspeed_k08_whole_what_lies_in_a_stret_holds : PySem.Challenge.rw_whatspeed_k08_whole_what_lies_in_a_stret.Holds := by
  w_on; o_law; k_head; (case hw => w_witness2)
  k_fill
  refine Q.walk (l := PySem.Challenge.rw_whatspeed_k08_whole_what_lies_in_a_stret) rfl rfl (fun w h Y => PySem.W.kIn_of Y) ?F
  case F =>
    intro w mg fa h KX G hmg
    refine' Q.law_mk KX G hmg ?a_Number ?pg_Number ?hd_Number ?po_Number ?sa_Number ?mk_Number ?kc_Number ?sf_Number ?ca_Number ?cm_Number ?n_Number_own_top ?n_Number_own_bottom ?a_Line ?pg_Line ?hd_Line ?po_Line ?sa_Line ?mk_Line ?kc_Line ?sf_Line ?ca_Line ?cm_Line ?n_Line_own_base ?n_Line_own_slope ?a_Stretch ?pg_Stretch ?hd_Stretch ?po_Stretch ?sa_Stretch ?mk_Stretch ?kc_Stretch ?sf_Stretch ?ca_Stretch ?cm_Stretch ?n_Stretch_own_low ?n_Stretch_own_high ?n_Stretch_includes_low ?n_Stretch_includes_high ?n_Stretch_own_middle ?cn ?ct ?a_is_integer ?l_is_integer ?hc_is_integer ?k_is_integer ?a_shared_divisor ?l_shared_divisor ?hc_shared_divisor ?k_shared_divisor ?a_Number_init ?i_Number_init ?l_Number_init ?hc_Number_init ?k_Number_init ?lT_Number_init ?at_Number_top ?gt_Number_top ?tk_Number_top ?rc_Number_top ?l_Number_top ?hc_Number_top ?k_Number_top ?at_Number_bottom ?gt_Number_bottom ?tk_Number_bottom ?rc_Number_bottom ?l_Number_bottom ?hc_Number_bottom ?k_Number_bottom ?a_Number_eq ?i_Number_eq ?l_Number_eq ?hc_Number_eq ?k_Number_eq ?a_Number_is_less ?i_Number_is_less ?l_Number_is_less ?hc_Number_is_less ?k_Number_is_less ?a_Number_add ?i_Number_add ?l_Number_add ?hc_Number_add ?k_Number_add ?a_Number_divided_by ?i_Number_divided_by ?l_Number_divided_by ?hc_Number_divided_by ?k_Number_divided_by ?a_whole ?l_whole ?hc_whole ?k_whole ?a_Line_init ?i_Line_init ?l_Line_init ?hc_Line_init ?k_Line_init ?a_Line_eq ?i_Line_eq ?l_Line_eq ?hc_Line_eq ?k_Line_eq ?a_Stretch_init ?i_Stretch_init ?l_Stretch_init ?hc_Stretch_init ?k_Stretch_init ?kw_Stretch_init_has_low ?kw_Stretch_init_has_high ?at_Stretch_middle ?gt_Stretch_middle ?tk_Stretch_middle ?rc_Stretch_middle ?l_Stretch_middle ?hc_Stretch_middle ?k_Stretch_middle ?a_Stretch_contains ?i_Stretch_contains ?l_Stretch_contains ?hc_Stretch_contains ?k_Stretch_contains ?a_Stretch_eq ?i_Stretch_eq ?l_Stretch_eq ?hc_Stretch_eq ?k_Stretch_eq ?a_law_pot ?l_law_pot ?hc_law_pot ?k_law_pot ?a_law_take ?l_law_take ?hc_law_take ?k_law_take ?a_law_of ?l_law_of ?hc_law_of ?k_law_of ?a_law_ends ?l_law_ends ?hc_law_ends ?k_law_ends ?a_law_made ?l_law_made ?hc_law_made ?k_law_made ?a_law_lies ?l_law_lies ?hc_law_lies ?k_law_lies ?a_law_spots ?l_law_spots ?hc_law_spots ?k_law_spots ?a_law_is_right ?l_law_is_right ?hc_law_is_right ?k_law_is_right ?a_law_odd_right ?l_law_odd_right ?hc_law_odd_right ?k_law_odd_right ?a_law ?l_law ?hc_law ?k_law ?z_isinstance ?z_int ?z_bool ?z_abs ?z_len ?z_max ?z_min ?z_range ?z_repr ?z_all ?z_any ?kit_NumNum ?kit_StrStr ?kit_LinLin ?kit_blbl ?kit_nonNum ?kit_blNum ?kit_intNum ?kit_strNum ?kit_tupNum ?kit_lstNum ?kit_dctNum ?kit_LinNum ?kit_StrNum ?kit_nonLin ?kit_blLin ?kit_intLin ?kit_strLin ?kit_tupLin ?kit_lstLin ?kit_dctLin ?kit_NumLin ?kit_StrLin ?kit_nonStr ?kit_blStr ?kit_intStr ?kit_strStr ?kit_tupStr ?kit_lstStr ?kit_dctStr ?kit_NumStr ?kit_LinStr ?ne_Number ?ne_Stretch ?sub_nonNum ?sub_blNum ?sub_intNum ?sub_strNum ?sub_tupNum ?sub_lstNum ?sub_dctNum ?sub_LinNum ?sub_StrNum ?sub_nonLin ?sub_blLin ?sub_intLin ?sub_strLin ?sub_tupLin ?sub_lstLin ?sub_dctLin ?sub_NumLin ?sub_StrLin ?sub_nonStr ?sub_blStr ?sub_intStr ?sub_strStr ?sub_tupStr ?sub_lstStr ?sub_dctStr ?sub_NumStr ?sub_LinStr
    (case a_Number => k_is)
    (case pg_Number => k_is)
    (case hd_Number => k_is)
    (case po_Number => k_is)
    (case sa_Number => k_is)
    (case mk_Number => k_is)
    (case kc_Number => k_is)
    (case sf_Number => k_is)
    (case ca_Number => k_is)
    (case cm_Number => k_is)
    (case n_Number_own_top => k_is)
    (case n_Number_own_bottom => k_is)
    (case a_Line => k_is)
    (case pg_Line => k_is)
    (case hd_Line => k_is)
    (case po_Line => k_is)
    (case sa_Line => k_is)
    (case mk_Line => k_is)
    (case kc_Line => k_is)
    (case sf_Line => k_is)
    (case ca_Line => k_is)
    (case cm_Line => k_is)
    (case n_Line_own_base => k_is)
    (case n_Line_own_slope => k_is)
    (case a_Stretch => k_is)
    (case pg_Stretch => k_is)
    (case hd_Stretch => k_is)
    (case po_Stretch => k_is)
    (case sa_Stretch => k_is)
    (case mk_Stretch => k_is)
    (case kc_Stretch => k_is)
    (case sf_Stretch => k_is)
    (case ca_Stretch => k_is)
    (case cm_Stretch => k_is)
    (case n_Stretch_own_low => k_is)
    (case n_Stretch_own_high => k_is)
    (case n_Stretch_includes_low => k_is)
    (case n_Stretch_includes_high => k_is)
    (case n_Stretch_own_middle => k_is)
    (case cn => k_is)
    (case ct => k_is)
    (case a_is_integer => k_is)
    (case l_is_integer => k_is)
    (case hc_is_integer => k_is)
    (case k_is_integer => k_is)
    (case a_shared_divisor => k_is)
    (case l_shared_divisor => k_is)
    (case hc_shared_divisor => k_is)
    (case k_shared_divisor => k_is)
    (case a_Number_init => k_is)
    (case i_Number_init => k_is)
    (case l_Number_init => k_is)
    (case hc_Number_init => k_is)
    (case k_Number_init => k_is)
    (case lT_Number_init => k_is)
    (case at_Number_top => k_is)
    (case gt_Number_top => k_is)
    (case tk_Number_top => k_is)
    (case rc_Number_top => k_is)
    (case l_Number_top => k_is)
    (case hc_Number_top => k_is)
    (case k_Number_top => k_is)
    (case at_Number_bottom => k_is)
    (case gt_Number_bottom => k_is)
    (case tk_Number_bottom => k_is)
    (case rc_Number_bottom => k_is)
    (case l_Number_bottom => k_is)
    (case hc_Number_bottom => k_is)
    (case k_Number_bottom => k_is)
    (case a_Number_eq => k_is)
    (case i_Number_eq => k_is)
    (case l_Number_eq => k_is)
    (case hc_Number_eq => k_is)
    (case k_Number_eq => k_is)
    (case a_Number_is_less => k_is)
    (case i_Number_is_less => k_is)
    (case l_Number_is_less => k_is)
    (case hc_Number_is_less => k_is)
    (case k_Number_is_less => k_is)
    (case a_Number_add => k_is)
    (case i_Number_add => k_is)
    (case l_Number_add => k_is)
    (case hc_Number_add => k_is)
    (case k_Number_add => k_is)
    (case a_Number_divided_by => k_is)
    (case i_Number_divided_by => k_is)
    (case l_Number_divided_by => k_is)
    (case hc_Number_divided_by => k_is)
    (case k_Number_divided_by => k_is)
    (case a_whole => k_is)
    (case l_whole => k_is)
    (case hc_whole => k_is)
    (case k_whole => k_is)
    (case a_Line_init => k_is)
    (case i_Line_init => k_is)
    (case l_Line_init => k_is)
    (case hc_Line_init => k_is)
    (case k_Line_init => k_is)
    (case a_Line_eq => k_is)
    (case i_Line_eq => k_is)
    (case l_Line_eq => k_is)
    (case hc_Line_eq => k_is)
    (case k_Line_eq => k_is)
    (case a_Stretch_init => k_is)
    (case i_Stretch_init => k_is)
    (case l_Stretch_init => k_is)
    (case hc_Stretch_init => k_is)
    (case k_Stretch_init => k_is)
    (case kw_Stretch_init_has_low => k_is)
    (case kw_Stretch_init_has_high => k_is)
    (case at_Stretch_middle => k_is)
    (case gt_Stretch_middle => k_is)
    (case tk_Stretch_middle => k_is)
    (case rc_Stretch_middle => k_is)
    (case l_Stretch_middle => k_is)
    (case hc_Stretch_middle => k_is)
    (case k_Stretch_middle => k_is)
    (case a_Stretch_contains => k_is)
    (case i_Stretch_contains => k_is)
    (case l_Stretch_contains => k_is)
    (case hc_Stretch_contains => k_is)
    (case k_Stretch_contains => k_is)
    (case a_Stretch_eq => k_is)
    (case i_Stretch_eq => k_is)
    (case l_Stretch_eq => k_is)
    (case hc_Stretch_eq => k_is)
    (case k_Stretch_eq => k_is)
    (case a_law_pot => k_is)
    (case l_law_pot => k_is)
    (case hc_law_pot => k_is)
    (case k_law_pot => k_is)
    (case a_law_take => k_is)
    (case l_law_take => k_is)
    (case hc_law_take => k_is)
    (case k_law_take => k_is)
    (case a_law_of => k_is)
    (case l_law_of => k_is)
    (case hc_law_of => k_is)
    (case k_law_of => k_is)
    (case a_law_ends => k_is)
    (case l_law_ends => k_is)
    (case hc_law_ends => k_is)
    (case k_law_ends => k_is)
    (case a_law_made => k_is)
    (case l_law_made => k_is)
    (case hc_law_made => k_is)
    (case k_law_made => k_is)
    (case a_law_lies => k_is)
    (case l_law_lies => k_is)
    (case hc_law_lies => k_is)
    (case k_law_lies => k_is)
    (case a_law_spots => k_is)
    (case l_law_spots => k_is)
    (case hc_law_spots => k_is)
    (case k_law_spots => k_is)
    (case a_law_is_right => k_is)
    (case l_law_is_right => k_is)
    (case hc_law_is_right => k_is)
    (case k_law_is_right => k_is)
    (case a_law_odd_right => k_is)
    (case l_law_odd_right => k_is)
    (case hc_law_odd_right => k_is)
    (case k_law_odd_right => k_is)
    (case a_law => k_is)
    (case l_law => k_is)
    (case hc_law => k_is)
    (case k_law => k_is)
    (case z_isinstance => k_is)
    (case z_int => k_is)
    (case z_bool => k_is)
    (case z_abs => k_is)
    (case z_len => k_is)
    (case z_max => k_is)
    (case z_min => k_is)
    (case z_range => k_is)
    (case z_repr => k_is)
    (case z_all => k_is)
    (case z_any => k_is)
    (case kit_NumNum => kit_is)
    (case kit_StrStr => kit_is)
    (case kit_LinLin => kit_is)
    (case kit_blbl => kit_is)
    (case kit_nonNum => kit_is)
    (case kit_blNum => kit_is)
    (case kit_intNum => kit_is)
    (case kit_strNum => kit_is)
    (case kit_tupNum => kit_is)
    (case kit_lstNum => kit_is)
    (case kit_dctNum => kit_is)
    (case kit_LinNum => kit_is)
    (case kit_StrNum => kit_is)
    (case kit_nonLin => kit_is)
    (case kit_blLin => kit_is)
    (case kit_intLin => kit_is)
    (case kit_strLin => kit_is)
    (case kit_tupLin => kit_is)
    (case kit_lstLin => kit_is)
    (case kit_dctLin => kit_is)
    (case kit_NumLin => kit_is)
    (case kit_StrLin => kit_is)
    (case kit_nonStr => kit_is)
    (case kit_blStr => kit_is)
    (case kit_intStr => kit_is)
    (case kit_strStr => kit_is)
    (case kit_tupStr => kit_is)
    (case kit_lstStr => kit_is)
    (case kit_dctStr => kit_is)
    (case kit_NumStr => kit_is)
    (case kit_LinStr => kit_is)
    (case ne_Number => k_is)
    (case ne_Stretch => k_is)
    (case sub_nonNum => k_is)
    (case sub_blNum => k_is)
    (case sub_intNum => k_is)
    (case sub_strNum => k_is)
    (case sub_tupNum => k_is)
    (case sub_lstNum => k_is)
    (case sub_dctNum => k_is)
    (case sub_LinNum => k_is)
    (case sub_StrNum => k_is)
    (case sub_nonLin => k_is)
    (case sub_blLin => k_is)
    (case sub_intLin => k_is)
    (case sub_strLin => k_is)
    (case sub_tupLin => k_is)
    (case sub_lstLin => k_is)
    (case sub_dctLin => k_is)
    (case sub_NumLin => k_is)
    (case sub_StrLin => k_is)
    (case sub_nonStr => k_is)
    (case sub_blStr => k_is)
    (case sub_intStr => k_is)
    (case sub_strStr => k_is)
    (case sub_tupStr => k_is)
    (case sub_lstStr => k_is)
    (case sub_dctStr => k_is)
    (case sub_NumStr => k_is)
    (case sub_LinStr => k_is)
