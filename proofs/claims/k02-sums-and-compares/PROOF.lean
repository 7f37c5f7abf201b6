import PyProof.Rows.All
import Wide.All
import OpenK.AllK
import Wide.FinOn
import KE.KOpsOwn
import KE.RegKIsAll
import HandS.ForMost
import HandS.ForExc
import HandS.Wide
import HandS.IsInst
import HandS.Property
import HandS.Star
import HandS.SlotsOwn
import HandS.MakeKw
import HandS.Evl
import HandS.Style
import HandS.MakeKwOnly
import HandS.TupSets
import HandS.Small
import PyProof.MeetsIn
import PyProof.CallType
import PyProof.Conv_bool
import PyProof.ReprRoads
import HandS.Defaults
import PySem.Challenge.RW_whatspeed_k02_sums_and_compares
set_option Elab.async false
set_option linter.all false
set_option maxRecDepth 100000
set_option maxHeartbeats 2000000
namespace WL
open PySem PySem.Spec PyProof.Rows L2

/-! ### operators that the bundles lack -/
def CPowW (i j : Int) : Prop := 0 ≤ j ∧ (Builtin.Int.intBits i : Int) * j ≤ 2 ^ 27
def CDivG (i j : Int) : Prop := j ≠ 0 ∧ j.natAbs.log2 < 9000
section
variable {X : Cx}
theorem op_powW : OpR X (binaryOp .Pow) (rI CPowW fun i j => .int (i ^ j.toNat)) := opI fun _ _ _ _ _ _ _ hc q => pow_int hc.1 hc.2 q
theorem op_fdivG : OpR X (binaryOp .FloorDiv) (rI CDivG fun i j => .int (i.fdiv j)) := opI fun _ _ _ _ _ _ _ hc q =>
  floordiv_int hc.1 q (.inl (PyProof.noPylong_of_log2 hc.2))
end

/-! ### an own class's operators: x op y, both instances of the class at C -/
def rOwn2 (C : Addr) (sp : Sp) (E : XK) : R2 := fun x y H Q => ∃ a dx fs b dy gs, x = .ref a ∧ y = .ref b ∧ H a = some (.ins C dx fs) ∧ H b = some (.ins C dy gs) ∧ sp [x, y] H Q E
/-- x == y, x an instance of the class at C, y of a type that is not below it -/
def rOwnEq (K : PySem.W.Frag) (C : Addr) (sp : Sp) (E : XK) : R2 := fun x y H Q => ∃ a dx fs t, x = .ref a ∧ H a = some (.ins C dx fs) ∧ TyX K H y t ∧ PySem.W.notFirst K C t = true ∧ sp [x, y] H Q E
section
variable {X : Cx} {CX : CXT} {n : Nat} {C g : Addr} {fd : FuncData} {ps : List Str} {sp : Sp} {E : XK}
theorem op_own2 {op : Operator} (F : FnOk X.prog X.w X.K X.mg X.base CX n g fd ps sp) (hb : Binds X.K fd ps []) (hs : PySem.W.findIn X.K (.ref C) (PySem.dunder op.info.2) = some (some (.ref g)))
    (hf : PySem.W.isFn X.K (.ref g) = true) (hc : PySem.W.selfFirst X.K C = true) (hr : Room n X.A) (hx : Passes CX X E) : OpR X (binaryOp op) (rOwn2 C sp E) := by
  intro pins s σ H x y v u Q I rx ry h
  obtain ⟨a, dx, fs, b, dy, gs, rfl, rfl, ha, hb', q⟩ := h
  cases (show v = Value.ref a from rx)
  cases (show u = Value.ref b from ry)
  obtain ⟨mA, J, _⟩ := ins_get I.hok ha
  obtain ⟨mB, J', _⟩ := ins_get I.hok hb'
  obtain ⟨od, J, _⟩ := J.look
  obtain ⟨od', J', _⟩ := J'.look
  obtain ⟨m, hF⟩ := I.fr
  refine PySem.W.binop_K hF I.ok.mod.kin J J'.type hc hs hf ?_
  refine wpAny_mono (run_fn (us := [.ref a, .ref b]) (vs := [.ref a, .ref b]) (dvs := []) (ds := []) F hr hb .nil hx I (.cons rfl (.cons rfl .nil)) q) (fun w s' z => ?_) fun _ _ x => x
  obtain ⟨z', H', I', rz, qz⟩ := z
  exact SlX.cmpback rz ⟨z', H', I', rz, qz⟩
theorem op_ownEq (F : FnOk X.prog X.w X.K X.mg X.base CX n g fd ps sp) (hb : Binds X.K fd ps []) (hs : PySem.W.findIn X.K (.ref C) "__eq__" = some (some (.ref g)))
    (hf : PySem.W.isFn X.K (.ref g) = true) (hr : Room n X.A) (hx : Passes CX X E) : OpR X (compareOp .Eq) (rOwnEq X.K C sp E) := by
  intro pins s σ H x y v u Q I rx ry h
  obtain ⟨a, dx, fs, t, rfl, ha, ty, hn, q⟩ := h
  cases (show v = Value.ref a from rx)
  obtain ⟨mA, J, _⟩ := ins_get I.hok ha
  obtain ⟨od, J, _⟩ := J.look
  obtain ⟨m, hF⟩ := I.fr
  obtain ⟨P, Z, p, _⟩ := kit_of I ry ty
  show wpAny (model X.prog X.w) X.A (richCompare .Eq (.ref a) u) (EP X pins σ Q) X.xe s
  refine PySem.W.cmp_K (op := .Eq) hr.units0 hF I.ok.mod.kin J (Z.ty _ _ I.kIn p) hn hs hf ?_
  refine wpAny_mono (run_fn (us := [.ref a, u]) (vs := [.ref a, y]) (dvs := []) (ds := []) F hr hb .nil hx I (.cons rfl (.cons ry .nil)) q) (fun w s' z => ?_) fun _ _ x => x
  obtain ⟨z', H', I', rz, qz⟩ := z
  exact SlX.cmpback rz ⟨z', H', I', rz, qz⟩
/-- -x -/
def rOwn1 (C : Addr) (sp : Sp) (E : XK) : V → Hp → VK → Prop := fun x H Q => ∃ a dx fs, x = .ref a ∧ H a = some (.ins C dx fs) ∧ sp [x] H Q E
theorem un_ownNeg (F : FnOk X.prog X.w X.K X.mg X.base CX n g fd ps sp) (hb : Binds X.K fd ps []) (hs : PySem.W.findIn X.K (.ref C) "__neg__" = some (some (.ref g)))
    (hf : PySem.W.isFn X.K (.ref g) = true) (hr : Room n X.A) (hx : Passes CX X E) : UnR X (unaryOp .USub) (rOwn1 C sp E) := by
  intro pins s σ H x v Q I rx h
  obtain ⟨a, dx, fs, rfl, ha, q⟩ := h
  cases (show v = Value.ref a from rx)
  obtain ⟨mA, J, _⟩ := ins_get I.hok ha
  obtain ⟨od, J, _⟩ := J.look
  obtain ⟨m, hF⟩ := I.fr
  exact PySem.W.ksp_neg hF I.ok.mod.kin J hs hf (run_fn (us := [.ref a]) (vs := [.ref a]) (dvs := []) (ds := []) F hr hb .nil hx I (.cons rfl .nil) q)
end

/-! ### x != y by an own __eq__ and object's __ne__ -/
section
variable {prog : Program} {w : World} {A : Around} {E : Value → Shared → Prop} {s : Shared} {K : PySem.W.Frag} {x C f L : Addr} {h₀ : Heap} {m : Str → Option Value} {ox : Obj} {od : Option Obj} {b tb : Value}
theorem ne_entry (X : K.In s.heap) (I : PySem.W.InstAt s.heap x ox C od) (hu : A.units < cLine) (hs : PySem.W.findIn K (.ref C) "__eq__" = some (some (.ref f))) (hf : PySem.W.isFn K (.ref f) = true) {Q : Fin → Shared → Prop}
    (h : wpAny (model prog w) A (call (.ref f) [.ref x, b]) (fun v s' => ∃ r, v = .bool r ∧ Q (.done (.ret (.bool (!r)))) s') E s) :
    wpAny (model prog w) A (Builtin.«object.__ne__» ⟨[.ref x, b], []⟩) Q E s := by
  unfold Builtin.«object.__ne__»
  repeat (first
    | with_reducible refine wpAny_cRoomFor hu ?_
    | (refine wpAny_bind (m := callSpecialIfBound? (.ref x) (Str.ofString "__eq__") [b])
        (PySem.W.ifBound_K X I hs hf (wpAny_mono h (fun r s' hr => by
          obtain ⟨b, rfl, hq⟩ := hr
          repeat (first | exact hq | exact wpAny_pure hq | exact wpAny_truthy_bool hq | (refine wpAny_bind (m := truthy (.bool _)) (wpAny_truthy_bool ?_)) | wp_step)) fun _ _ e => e)))
    | wp_step)
theorem try_ne (X : K.In s.heap) (I : PySem.W.InstAt s.heap x ox C od) (hu : A.units + 1 < cLine) (hne : PySem.W.findIn K (.ref C) "__ne__" = some (some (.builtin "object.__ne__"))) (hm : PySem.W.mroIn K C (.type "object") = some true)
    (hs : PySem.W.findIn K (.ref C) "__eq__" = some (some (.ref f))) (hf : PySem.W.isFn K (.ref f) = true) {Q : Option Value → Shared → Prop}
    (h : wpAny (model prog w) A.in1 (call (.ref f) [.ref x, b]) (fun v s' => ∃ r, v = .bool r ∧ Q (some (.bool (!r))) s') E s) :
    wpAny (model prog w) A (tryCompare (.ref x) "__ne__" b) Q E s := by
  unfold tryCompare
  simp only [callSpecialIfBound?, bindSpecialIfBound?]
  refine wpAny_bind (wpAny_holding (wpAny_bind (wpAny_bind (wpAny_bind (I.type.here ((PySem.W.looks_findIn X hne).here ?_))))))
  have call_it : ∀ {Q' : Value → Shared → Prop}, (∀ r s', Q (some (.bool (!r))) s' → Q' (.bool (!r)) s') → wpAny (model prog w) A (call (.builtin "object.__ne__") [.ref x, b]) Q' E s := fun hq =>
    wpAny_call (codeAny_call_builtin F.cmp_object.ne.plain F.cmpEntry_ne (PySem.W.check_slot F.cmpKind_ne F.cmpSplit_ne (I.type.andThen (PySem.W.looks_mroIn X hm)) (F.cmpArgs_ne _ _)
      (ne_entry (A := A.in1) X I hu hs hf (wpAny_mono h (fun v s' hv => by
        obtain ⟨r, rfl, hq'⟩ := hv
        first | exact ⟨r, rfl, hq _ _ hq'⟩ | exact ⟨r, rfl, wpAny_pure (hq _ _ hq')⟩) fun _ _ e => e))))
  simp only [F.cmp_object.ne.bind]
  refine wpAny_bind (wpAny_askSetting (wpAny_ite ?_))
  have fin : wpAny (model prog w) A (call (.builtin "object.__ne__") ([.ref x] ++ [b]) >>= fun v => pure (some v)) (fun r s' => wpAny (model prog w) A (match r with | some .notImplemented => pure none | none => pure none | some v => pure (some v)) Q E s') E s :=
    wpAny_bind (call_it fun r s' q => wpAny_pure (wpAny_pure q))
  split
  · exact wpAny_bind (wpAny_pure (wpAny_pure (by first | exact fin | exact wpAny_mono fin (fun _ _ z => z) fun _ _ z => z)))
  · exact wpAny_tryCatch (wpAny_bind (wpAny_pure (wpAny_pure (by first | exact fin | exact wpAny_mono fin (fun _ _ z => z) fun _ _ z => z))))
theorem ne_K {Q : Value → Shared → Prop} (hu : A.units + 1 < cLine) (X : K.In s.heap) (I : PySem.W.InstAt s.heap x ox C od) (hb : PySem.W.Looks (model prog w) s.heap (typeOf b) tb) (hn : PySem.W.notFirst K C tb = true)
    (hne : PySem.W.findIn K (.ref C) "__ne__" = some (some (.builtin "object.__ne__"))) (hm : PySem.W.mroIn K C (.type "object") = some true) (hs : PySem.W.findIn K (.ref C) "__eq__" = some (some (.ref f))) (hf : PySem.W.isFn K (.ref f) = true)
    (h : wpAny (model prog w) A.in1 (call (.ref f) [.ref x, b]) (fun v s' => ∃ r, v = .bool r ∧ Q (.bool (!r)) s') E s) : wpAny (model prog w) A (richCompare .NotEq (.ref x) b) Q E s := by
  have one : wpAny (model prog w) A (tryCompare (.ref x) "__ne__" b) (fun r s' => ∃ v, r = some v ∧ Q v s') E s := try_ne X I hu hne hm hs hf (wpAny_mono h (fun v s' hv => by
    obtain ⟨r, rfl, q⟩ := hv
    exact ⟨r, rfl, _, rfl, q⟩) fun _ _ e => e)
  unfold richCompare
  simp only [oneThing_ref]
  refine wpAny_holding (wpAny_bind (wpAny_cRoomFor (by omega) ?_))
  refine wpAny_bind (I.type.here (wpAny_bind (hb.here ?_)))
  split
  · rename_i q
    have e : PySem.W.subIn K tb (.ref C) = some false := by
      rcases Bool.or_eq_true_iff.mp hn with e | e
      · rw [beq_iff_eq.mp e] at q; simp at q
      · exact beq_iff_eq.mp e
    refine wpAny_bind ((PySem.W.looks_subIn X e).here ?_)
    simp only [Bool.false_eq_true, if_false]
    refine wpAny_bind (wpAny_mono one (fun r s' z => ?_) fun _ _ e => e)
    obtain ⟨v, rfl, hq⟩ := z
    exact wpAny_pure hq
  · refine wpAny_bind (wpAny_pure ?_)
    simp only [Bool.false_eq_true, if_false]
    refine wpAny_bind (wpAny_mono one (fun r s' z => ?_) fun _ _ e => e)
    obtain ⟨v, rfl, hq⟩ := z
    exact wpAny_pure hq
end
/-- x != y -/
def rOwnNe (K : PySem.W.Frag) (C : Addr) (sp : Sp) (E : XK) : R2 := fun x y H Q => ∃ a dx fs t, x = .ref a ∧ H a = some (.ins C dx fs) ∧ TyX K H y t ∧ PySem.W.notFirst K C t = true ∧ sp [x, y] H (fun z H' => ∃ r, z = .bl r ∧ Q (.bl (!r)) H') E
theorem op_ownNe {X : Cx} (K : PySem.W.Frag) {CX : CXT} {n : Nat} {C g : Addr} {fd : FuncData} {ps : List Str} {sp : Sp} {E : XK} (F : FnOk X.prog X.w X.K X.mg X.base CX n g fd ps sp) (hb : Binds X.K fd ps []) (hne : PySem.W.findIn X.K (.ref C) "__ne__" = some (some (.builtin "object.__ne__"))) (hm : PySem.W.mroIn X.K C (.type "object") = some true)
    (hs : PySem.W.findIn X.K (.ref C) "__eq__" = some (some (.ref g))) (hf : PySem.W.isFn X.K (.ref g) = true) (hr : Room (n + 1) X.A) (hx : Passes CX X E) (hK : X.K = K := by rfl) : OpR X (compareOp .NotEq) (rOwnNe K C sp E) := by
  subst hK
  intro pins s σ H x y v u Q I rx ry h
  obtain ⟨a, dx, fs, t, rfl, ha, ty, hn, q⟩ := h
  cases (show v = Value.ref a from rx)
  obtain ⟨mA, J, _⟩ := ins_get I.hok ha
  obtain ⟨od, J, _⟩ := J.look
  obtain ⟨P, Z, p, _⟩ := kit_of I ry ty
  show wpAny (model X.prog X.w) X.A (richCompare .NotEq (.ref a) u) (EP X pins σ Q) X.xe s
  refine ne_K (by have := hr.un; omega) I.kIn J (Z.ty _ _ I.kIn p) hn hne hm hs hf ?_
  have hl := F.len _ _ _ _ q
  refine wpAny_call (codeAny_mono (F.run X.A.in1 X.stack s H ⟨[.ref a, u], []⟩ [.ref a, u] [.ref a, y] _ E hr.in1 I.env0.in1 (by
    have := hb s [.ref a, u] I.kIn (by simpa using hl)
    simpa using this) (.cons rfl (.cons ry .nil)) q) fun r s' hq => ?_)
  cases r with
  | error e => exact hx pins σ H s e s' I hq
  | ok fl =>
    cases fl with
    | ret u =>
      obtain ⟨z, H', I', rz, r, ez, q'⟩ := I.after hq
      subst ez
      cases (show u = Value.bool r from rz)
      exact ⟨r, rfl, .bl (!r), H', I', rfl, q'⟩
    | next => exact False.elim hq
    | brk => exact False.elim hq
    | cont => exact False.elim hq
/-! ### calls by keywords: f(e, .., k = v), o.m(e, .., k = v) -/
def tMethK (C : Addr) (m : Str) (n mm : Nat) (sp : Sp) (gV : List V → List V → List V) (E : XK) (ta : TE) (t tk : TA) : TE := fun σ H Q => ta σ H fun x H1 => ∃ a dx fs, x = .ref a ∧ H1 a = some (.ins C dx fs) ∧ fs.lookup m = none ∧
  t σ H1 fun vs H2 => tk σ H2 fun zs H3 => vs.length = n ∧ zs.length = mm ∧ sp (gV (x :: vs) zs) H3 Q E
def tCallKN (n mm : Nat) (sp : Sp) (gV : List V → List V → List V) (E : XK) (t tk : TA) : TE := fun σ H Q => t σ H fun vs H2 => tk σ H2 fun zs H3 => vs.length = n ∧ zs.length = mm ∧ sp (gV vs zs) H3 Q E
theorem kbn_of {K : PySem.W.Frag} {x qual : Str} {st : Stmt} {f : Addr} {fd : FuncData} {ps : List Str} (F : Fun K x qual st f fd) (n : Nat) (ks : List Str) (g : {α : Type} → List α → List α → List α)
    (hrel : ∀ {vs zs : List V} {us ws : List Value}, Vals vs us → Vals zs ws → Vals (g vs zs) (g us ws))
    (h : ∀ (kV doc pm : Value) (an : Option Addr) (cdv ct : Value) (us ws : List Value), us.length = n → ws.length = ks.length →
      bindArgs (PySem.W.fnOf x qual (defArgs st) (defBody st) (defScope st) .none kV doc pm an cdv ct) ⟨us, ks.zip ws⟩ = pure (ps.zip (g us ws))) : KBn K fd ps n ks (fun us ws => g us ws) (fun vs zs => g vs zs) := by
  obtain ⟨oc, od, kV, doc, pm, an, cdv, ct, osl, rfl, lk, hcd⟩ := F.ex
  exact ⟨fun s us ws X l1 l2 => .of_eq (h kV doc pm an cdv ct us ws l1 l2), fun r1 r2 => hrel r1 r2⟩
section
variable {X : Cx} {CX : CXT} {k n : Nat} {f C : Addr} {fd : FuncData} {ps ks : List Str} {sp : Sp} {E : XK} {x m : Str} {p pos apos : Pos} {o e : Expr} {es : List Expr} {kws : List Keyword} {ta : TE} {t tk : TA} {g : List Value → List Value → List Value} {gV : List V → List V → List V}
theorem run_fnN {pins : List (Addr × Obj)} {σ : L2.St} {H : Hp} {s : Shared} {Q : VK} {us ws : List Value} {vs zs : List V} (F : FnOk X.prog X.w X.K X.mg X.base CX k f fd ps sp) (hr : Room k X.A) (hb : KBn X.K fd ps n ks g gV) (hx : Passes CX X E)
    (I : Inv X pins σ H s) (r : Vals vs us) (rz : Vals zs ws) (l1 : vs.length = n) (l2 : zs.length = ks.length) (h : sp (gV vs zs) H Q E) : wpAny (model X.prog X.w) X.A (call (.ref f) us (ks.zip ws)) (EP X pins σ Q) X.xe s := by
  have r2 := hb.rel r rz
  refine wpAny_call (codeAny_mono (F.run X.A X.stack s H ⟨us, ks.zip ws⟩ (g us ws) (gV vs zs) Q E hr I.env0 (hb.to s us ws I.kIn (r.length.symm.trans l1) (rz.length.symm.trans l2)) r2 h) fun r s' hq => ?_)
  cases r with
  | error e => exact hx pins σ H s e s' I hq
  | ok fl =>
    cases fl with
    | ret u => exact I.after hq
    | next => exact False.elim hq
    | brk => exact False.elim hq
    | cont => exact False.elim hq
/-- f(k = v, ..) -/
theorem pe_callK0 (F : FnOk X.prog X.w X.K X.mg X.base CX k f fd ps sp) (hr : Room k X.A) (hg : Gl X x) (hm : X.mg x = some (.ref f)) (hk : PySem.W.keepIn X.K (.ref f) = true) (hb : KBn X.K fd ps 0 ks g gV) (hx : Passes CX X E) (hkw : PK X kws tk)
    (hall : (backToKw pos (keywordEach kws X.env)).all (·.1.isSome) = true := by rfl) (hks : (backToKw pos (keywordEach kws X.env)).filterMap (·.1) = ks := by rfl) (hdb : (x == ("__debug__" : Str)) = false := by decide)
    (hpl : ((backTo pos (starEach [] X.env)).any (·.1) || (backToKw pos (keywordEach kws X.env)).any (·.1.isNone)) = false := by rfl) :
    PE X (.Call (.Name x p) [] kws pos) (tCallKN 0 ks.length sp gV E tNil tk) := by
  refine ⟨fun pins s σ H Q I h => ?_⟩
  refine wpAny_Call_Name_kw (ld_glob I hg hm ?_ hdb)
  refine PySem.W.callWith_KW0 (h₀ := X.base) I.ok.mod.kin hk hall ?_ hpl
  refine thn (hkw.run pos pins s σ H _ I h) fun ws s2 ⟨zs, H2, I2, rz, l1, l2, q2⟩ => ⟨I2.kIn, ?_⟩
  rw [hks]
  exact run_fnN (us := []) (vs := []) F hr hb hx I2 .nil rz rfl l2 q2
/-- o.m(k = v, ..) -/
theorem pe_methK0 {pl : Sem Bool} (he : PE X o ta) (c : Cls X.K C) (hm : Meth X.K C m f) (F : FnOk X.prog X.w X.K X.mg X.base CX k f fd ps sp) (hr : Room k X.A) (hb : KBn X.K fd ps 1 ks g gV) (hx : Passes CX X E) (hkw : PK X kws tk)
    (hall : (backToKw pos (keywordEach kws X.env)).all (·.1.isSome) = true := by rfl) (hks : (backToKw pos (keywordEach kws X.env)).filterMap (·.1) = ks := by rfl)
    (hpl : ((backTo pos (starEach [] X.env)).any (·.1) || (backToKw pos (keywordEach kws X.env)).any (·.1.isNone)) = false := by rfl)
    (ht : eval (.Call (.Attribute o m apos) [] kws pos) X.env = (do
      let ov ← eval o X.env
      standAt apos.atName
      let (f, first) ← holding [ov] (getMethod ov m pl)
      callWith pos f first (backTo pos (starEach [] X.env)) (backToKw pos (keywordEach kws X.env))) := by rfl) :
    PE X (.Call (.Attribute o m apos) [] kws pos) (tMethK C m 0 ks.length sp gV E ta tNil tk) := by
  refine ⟨fun pins s σ H Q I h => ?_⟩
  refine PySem.W.methodCall_KW (pl := pl) (thn (he.run pins s σ H _ I h) fun u s1 ⟨x, H1, I1, rx, a, dx, fs, ex, ea, l, q⟩ => ?_) ht
  subst ex
  obtain rfl : u = Value.ref a := rx
  refine getmeth_ok I1 ea c hm l ?_
  refine PySem.W.callWith_KW0 (first := [.ref a]) (h₀ := X.base) I.ok.mod.kin hm.kp hall ?_ hpl
  refine thn (hkw.run pos pins s1 σ H1 _ I1 q) fun ws s2 ⟨zs, H2, I2, rz, l1, l2, q2⟩ => ⟨I2.kIn, ?_⟩
  rw [hks]
  exact run_fnN (us := [.ref a]) (vs := [.ref a]) F hr hb hx I2 (.cons rfl .nil) rz rfl l2 q2
/-- f(e, ..), f an instance of the class at C -/
def tCallI (C : Addr) (sp : Sp) (dvs : List V) (E : XK) (tf : TE) (t : TA) : TE := fun σ H Q => tf σ H fun y H1 => ∃ a, y = V.ref a ∧ t σ H1 fun vs H2 => ∃ dx fs, H2 a = some (.ins C dx fs) ∧ sp (V.ref a :: (vs ++ dvs)) H2 Q E
theorem pe_callI {fe : Expr} {tf : TE} {dvs : List V} {ds : List Value} (hf : PE X fe tf) (c : StX.CallO X.K C f) (F : FnOk X.prog X.w X.K X.mg X.base CX k f fd ps sp) (hr : Room k X.A) (hb : Binds X.K fd ps ds) (hd : Vals dvs ds) (hx : Passes CX X E) (ha : PA X (e :: es) t)
    (ht : eval (.Call fe (e :: es) [] pos) X.env = (do callWith pos (← eval fe X.env) [] (backTo pos (starEach (e :: es) X.env)) (backToKw pos (keywordEach [] X.env))) := by rfl)
    (he : starEach (e :: es) X.env = (false, eval e X.env) :: starEach es X.env := by rfl) (hpl : (backTo pos (starEach es X.env)).any (·.1) = false := by rfl) : PE X (.Call fe (e :: es) [] pos) (tCallI C sp dvs E tf t) := by
  refine ⟨fun pins s σ H Q I h => ?_⟩
  refine Call_ (thn (hf.run pins s σ H _ I h) fun u s1 ⟨y, H1, I1, ry, a, ey, q⟩ => ?_) ht
  subst ey
  obtain rfl : u = Value.ref a := ry
  refine StX.callO_with (thn (ha.run pos pins s1 σ H1 _ I1 q) fun us s2 ⟨vs, H2, I2, r, dx, fs, hi, q2⟩ => ?_) he hpl
  obtain ⟨ox, od, J, hdt⟩ := StX.insC_at I2 (.inr ⟨dx, fs, hi⟩)
  exact ⟨⟨C, ox, od, J, hdt⟩, StX.run_callO c (F.raw hb hd) hr hx I2 (.inr ⟨dx, fs, hi⟩) r q2⟩
end
/-! ### the rules whose readings name the written part, with it told (for a comprehension's block) -/
section
variable {X : Cx} (K : PySem.W.Frag)
theorem ixT (h : X.K = K := by rfl) : IxR X (rIxT K) := h ▸ ix_tup
theorem ixL (h : X.K = K := by rfl) : IxR X (rIxL K) := h ▸ ix_list
theorem cIsi (h : X.K = K := by rfl) : CallR X (.builtin "isinstance") (rIsi K) := h ▸ call_isi
theorem opEqD (hu : X.A.units + 64 < cLine) (h : X.K = K := by rfl) : OpR X (compareOp .Eq) (rEqD K) := h ▸ op_eqD hu
theorem opNeD (hu : X.A.units + 64 < cLine) (h : X.K = K := by rfl) : OpR X (compareOp .NotEq) (rNeD K) := h ▸ op_neD hu
theorem peFld {e : Expr} {f : Str} {pos : Pos} {ta : TE} (he : PE X e ta) (hb : attributeBase e f X.env (eval e X.env) = eval e X.env := by rfl) (h : X.K = K := by rfl) : PE X (.Attribute e f pos) (tFld K ta f) := h ▸ pe_fld he hb
theorem opOwnEq {CX : CXT} {n : Nat} {C g : Addr} {fd : FuncData} {ps : List Str} {sp : Sp} {E : XK} (F : FnOk X.prog X.w X.K X.mg X.base CX n g fd ps sp) (hb : Binds X.K fd ps []) (hs : PySem.W.findIn X.K (.ref C) "__eq__" = some (some (.ref g)))
    (hf : PySem.W.isFn X.K (.ref g) = true) (hr : Room n X.A) (hx : Passes CX X E) (h : X.K = K := by rfl) : OpR X (compareOp .Eq) (rOwnEq K C sp E) := h ▸ op_ownEq F hb hs hf hr hx
theorem piList {tg l : Expr} {tl : TE} (hl : PE X l tl) (h : X.K = K := by rfl) : PI X tg l (iList K tl) := h ▸ pi_list hl
theorem piTup {tg l : Expr} {tl : TE} (hl : PE X l tl) (h : X.K = K := by rfl) : PI X tg l (iTup K tl) := h ▸ pi_tup hl
theorem pgTup (n : Nat) {es : List Expr} {k : Nat} {t : TGs} {pos : Pos} (hc : X.calm = true) (hh : PGs X es t)
    (hn : (assignEach es X.env).length = n := by rfl) (hst : (assignEach es X.env).findIdx? (·.1) = none := by rfl) (h : X.K = K := by rfl) : PG X (.Tuple es k pos) (gTup K n t) := h ▸ pg_tup hc hh hn hst
end
theorem stT {σ σ' : L2.St} {ta tb : TS} {D : Ends} {H : Hp} (e : σ = σ') (h : tSeq ta tb D σ' H) : tSeq ta tb D σ H := e ▸ h
end WL
namespace WM
/-! ### fractions: core Rat -/
theorem gcd_pos {t b : Int} (hb : b ≠ 0) : 0 < b.gcd t := Int.gcd_pos_of_ne_zero_left _ hb
theorem fdiv_pos' {a : Int} {g : Nat} (hg : 0 < g) : a.fdiv (g : Int) = a / (g : Int) := Int.fdiv_eq_ediv_of_nonneg _ (by omega)
theorem fdiv_dvd {a k g : Int} (hg : g ≠ 0) (h : a = g * k) : a.fdiv g = k := by
  subst h
  rw [Int.mul_comm]
  exact Int.mul_fdiv_cancel _ hg
theorem ediv_dvd {a k g : Int} (hg : g ≠ 0) (h : a = g * k) : a / g = k := by
  subst h
  exact Int.mul_ediv_cancel_left _ hg
/-- what Number keeps above the stroke -/
theorem make_num {t b : Int} {g : Nat} (hb : b ≠ 0) (e : g = Nat.gcd t.natAbs b.natAbs) : t.fdiv (if b < 0 then -(g : Int) else (g : Int)) = (Rat.divInt t b).num := by
  have eg : b.gcd t = g := by rw [e, Int.gcd, Nat.gcd_comm]
  have hg : 0 < g := eg ▸ gcd_pos hb
  rw [Rat.num_divInt, eg]
  have hd : (g : Int) ∣ t := by rw [← eg]; exact Int.gcd_dvd_right ..
  obtain ⟨k, hk⟩ := hd
  have hg' : (g : Int) ≠ 0 := by omega
  by_cases hn : b < 0
  · rw [if_pos hn, Int.sign_eq_neg_one_of_neg hn, fdiv_dvd (k := -k) (by omega) (by rw [hk, Int.neg_mul_neg]), ediv_dvd (k := -k) hg' (by rw [hk, Int.neg_one_mul, Int.mul_neg])]
  · rw [if_neg hn, Int.sign_eq_one_of_pos (by omega), fdiv_dvd hg' hk, ediv_dvd (k := k) hg' (by rw [hk, Int.one_mul])]
theorem make_den {t b : Int} {g : Nat} (hb : b ≠ 0) (e : g = Nat.gcd t.natAbs b.natAbs) : b.fdiv (if b < 0 then -(g : Int) else (g : Int)) = ((Rat.divInt t b).den : Int) := by
  have eg : b.gcd t = g := by rw [e, Int.gcd, Nat.gcd_comm]
  have hg : 0 < g := eg ▸ gcd_pos hb
  rw [Rat.den_divInt, if_neg hb, eg]
  have hd : (g : Int) ∣ b := by rw [← eg]; exact Int.gcd_dvd_left ..
  obtain ⟨k, hk⟩ := hd
  have hg' : (g : Int) ≠ 0 := by omega
  have h2 : b.natAbs / g = k.natAbs := by
    rw [hk, Int.natAbs_mul, Int.natAbs_natCast]
    exact Nat.mul_div_cancel_left _ hg
  have hp : 0 < (g : Int) := by omega
  rw [h2]
  by_cases hn : b < 0
  · rw [if_pos hn, fdiv_dvd (k := -k) (by omega) (by rw [hk, Int.neg_mul_neg])]
    have : k < 0 := by
      rcases Int.lt_or_le k 0 with h | h
      · exact h
      · have := Int.mul_nonneg (Int.le_of_lt hp) h
        omega
    omega
  · rw [if_neg hn, fdiv_dvd hg' hk]
    have : 0 ≤ k := by
      rcases Int.lt_or_le k 0 with h | h
      · have := Int.mul_neg_of_pos_of_neg hp h
        omega
      · exact h
    omega
/-- what a law's own reduction gives: sign * t // g, |b| // g -/
theorem least_num {t b : Int} {g : Nat} (hb : b ≠ 0) (e : g = Nat.gcd t.natAbs b.natAbs) : ((if b < 0 then -1 else 1) * t).fdiv (g : Int) = (Rat.divInt t b).num := by
  have eg : b.gcd t = g := by rw [e, Int.gcd, Nat.gcd_comm]
  have hg : 0 < g := eg ▸ gcd_pos hb
  rw [Rat.num_divInt, eg, fdiv_pos' hg]
  by_cases hn : b < 0
  · rw [if_pos hn, Int.sign_eq_neg_one_of_neg hn]
  · rw [if_neg hn, Int.sign_eq_one_of_pos (by omega)]
theorem least_den {t b : Int} {g : Nat} (hb : b ≠ 0) (e : g = Nat.gcd t.natAbs b.natAbs) : (if b < 0 then -b else b).fdiv (g : Int) = ((Rat.divInt t b).den : Int) := by
  have eg : b.gcd t = g := by rw [e, Int.gcd, Nat.gcd_comm]
  have hg : 0 < g := eg ▸ gcd_pos hb
  rw [Rat.den_divInt, if_neg hb, eg, fdiv_pos' hg]
  have : (if b < 0 then -b else b) = (b.natAbs : Int) := by split <;> omega
  rw [this]
  rfl
theorem gcd_ne {t b : Int} {g : Nat} (hb : b ≠ 0) (e : g = Nat.gcd t.natAbs b.natAbs) : 0 < g := by
  have eg : b.gcd t = g := by rw [e, Int.gcd, Nat.gcd_comm]
  exact eg ▸ gcd_pos hb
theorem gcd_le {t b : Int} {g : Nat} (hb : b ≠ 0) (e : g = Nat.gcd t.natAbs b.natAbs) : g ≤ b.natAbs := by
  rw [e]
  exact Nat.gcd_le_right _ (by omega)
/-! ### sizes -/
def Bd (n : Nat) (q : Rat) : Prop := q.num.natAbs < 2 ^ n ∧ q.den < 2 ^ n
theorem two_le {m n : Nat} (h : m ≤ n) : 2 ^ m ≤ 2 ^ n := Nat.pow_le_pow_right (by decide) h
theorem Bd.mono {m n : Nat} {q : Rat} (h : Bd m q) (l : m ≤ n) : Bd n q := ⟨Nat.lt_of_lt_of_le h.1 (two_le l), Nat.lt_of_lt_of_le h.2 (two_le l)⟩
theorem den_ne (q : Rat) : (q.den : Int) ≠ 0 := by have := q.den_pos; omega
theorem den_pos' (q : Rat) : 0 < (q.den : Int) := by have := q.den_pos; omega
theorem Bd.mk' {n : Nat} {t b : Int} (hb : b ≠ 0) (h1 : t.natAbs < 2 ^ n) (h2 : b.natAbs < 2 ^ n) : Bd n (Rat.divInt t b) := by
  refine ⟨?_, ?_⟩
  · rw [Rat.num_divInt]
    refine Nat.lt_of_le_of_lt ?_ h1
    have hg : 0 < b.gcd t := gcd_pos hb
    have hd : ((b.gcd t : Nat) : Int) ∣ b.sign * t := Int.dvd_mul_of_dvd_right (Int.gcd_dvd_right ..)
    obtain ⟨k, hk⟩ := hd
    rw [ediv_dvd (k := k) (by omega) hk]
    have h3 : (b.sign * t).natAbs = t.natAbs := by
      rw [Int.natAbs_mul, Int.natAbs_sign_of_ne_zero hb, Nat.one_mul]
    have h4 : (b.sign * t).natAbs = b.gcd t * k.natAbs := by rw [hk, Int.natAbs_mul, Int.natAbs_natCast]
    rw [← h3, h4]
    exact Nat.le_mul_of_pos_left _ hg
  · rw [Rat.den_divInt, if_neg hb]
    exact Nat.lt_of_le_of_lt (Nat.div_le_self _ _) h2
theorem add_eq (p q : Rat) : Rat.divInt (p.num * q.den + q.num * p.den) (p.den * q.den) = p + q := by
  conv => rhs; rw [← Rat.num_divInt_den p, ← Rat.num_divInt_den q]
  rw [Rat.divInt_add_divInt _ _ (den_ne p) (den_ne q)]
theorem sub_eq (p q : Rat) : Rat.divInt (p.num * q.den - q.num * p.den) (p.den * q.den) = p - q := by
  conv => rhs; rw [← Rat.num_divInt_den p, ← Rat.num_divInt_den q]
  rw [Rat.divInt_sub_divInt _ _ (den_ne p) (den_ne q)]
theorem mul_eq (p q : Rat) : Rat.divInt (p.num * q.num) (p.den * q.den) = p * q := by
  conv => rhs; rw [← Rat.num_divInt_den p, ← Rat.num_divInt_den q]
  rw [Rat.divInt_mul_divInt]
theorem div_eq (p q : Rat) : Rat.divInt (p.num * q.den) (p.den * q.num) = p / q := by
  rw [Rat.div_def, Rat.inv_def]
  conv => rhs; rw [← Rat.num_divInt_den p]
  rw [Rat.divInt_mul_divInt]
theorem neg_eq (p : Rat) : Rat.divInt (-p.num) p.den = -p := by
  conv => rhs; rw [← Rat.num_divInt_den p]
  rw [Rat.neg_divInt]
theorem mul_lt {a b m n : Nat} (ha : a < 2 ^ m) (hb : b < 2 ^ n) : a * b < 2 ^ (m + n) := by
  rw [Nat.pow_add]
  exact Nat.mul_lt_mul'' ha hb
theorem imul_lt {a b : Int} {m n : Nat} (ha : a.natAbs < 2 ^ m) (hb : b.natAbs < 2 ^ n) : (a * b).natAbs < 2 ^ (m + n) := by
  rw [Int.natAbs_mul]
  exact mul_lt ha hb
theorem iadd_lt {a b : Int} {n : Nat} (ha : a.natAbs < 2 ^ n) (hb : b.natAbs < 2 ^ n) : (a + b).natAbs < 2 ^ (n + 1) := by
  have : (a + b).natAbs ≤ a.natAbs + b.natAbs := Int.natAbs_add_le a b
  rw [Nat.pow_succ]
  omega
theorem isub_lt {a b : Int} {n : Nat} (ha : a.natAbs < 2 ^ n) (hb : b.natAbs < 2 ^ n) : (a - b).natAbs < 2 ^ (n + 1) := by
  have : (a - b).natAbs ≤ a.natAbs + b.natAbs := by omega
  rw [Nat.pow_succ]
  omega
theorem up_lt {a m n : Nat} (h : a < 2 ^ m) (l : m ≤ n) : a < 2 ^ n := Nat.lt_of_lt_of_le h (two_le l)
theorem Bd.den' {n : Nat} {q : Rat} (h : Bd n q) : ((q.den : Int)).natAbs < 2 ^ n := by rw [Int.natAbs_natCast]; exact h.2
theorem Bd.add {m n : Nat} {p q : Rat} (h : Bd m p) (k : Bd n q) : Bd (m + n + 1) (p + q) := by
  rw [← add_eq]
  refine Bd.mk' (Int.mul_ne_zero (den_ne p) (den_ne q)) (iadd_lt (imul_lt h.1 k.den') (up_lt (imul_lt k.1 h.den') (by omega))) (up_lt (imul_lt h.den' k.den') (by omega))
theorem Bd.sub {m n : Nat} {p q : Rat} (h : Bd m p) (k : Bd n q) : Bd (m + n + 1) (p - q) := by
  rw [← sub_eq]
  refine Bd.mk' (Int.mul_ne_zero (den_ne p) (den_ne q)) (isub_lt (imul_lt h.1 k.den') (up_lt (imul_lt k.1 h.den') (by omega))) (up_lt (imul_lt h.den' k.den') (by omega))
theorem Bd.mul {m n : Nat} {p q : Rat} (h : Bd m p) (k : Bd n q) : Bd (m + n) (p * q) := by
  rw [← mul_eq]
  exact Bd.mk' (Int.mul_ne_zero (den_ne p) (den_ne q)) (imul_lt h.1 k.1) (imul_lt h.den' k.den')
theorem num_ne {q : Rat} (h : q ≠ 0) : q.num ≠ 0 := fun e => h (Rat.num_eq_zero.mp e)
theorem Bd.div {m n : Nat} {p q : Rat} (h : Bd m p) (k : Bd n q) (hq : q ≠ 0) : Bd (m + n) (p / q) := by
  rw [← div_eq]
  exact Bd.mk' (Int.mul_ne_zero (den_ne p) (num_ne hq)) (imul_lt h.1 k.den') (imul_lt h.den' k.1)
theorem Bd.neg {m : Nat} {p : Rat} (h : Bd m p) : Bd m (-p) := by
  refine ⟨?_, ?_⟩
  · rw [show (-p).num = -p.num from rfl, Int.natAbs_neg]; exact h.1
  · rw [show (-p).den = p.den from rfl]; exact h.2
theorem log2_lt {a n : Nat} (h0 : 0 < n) (h : a < 2 ^ n) : a.log2 < n := by
  by_cases ha : a = 0
  · subst ha; rw [Nat.log2_zero]; exact h0
  · exact (Nat.log2_lt ha).mpr h
/-- equal fractions: the same above and below -/
theorem eq_iff (p q : Rat) : p = q ↔ p.num = q.num ∧ p.den = q.den := ⟨fun e => by rw [e]; exact ⟨rfl, rfl⟩, fun ⟨a, b⟩ => Rat.ext a b⟩
end WM
namespace WO
open PySem PySem.Spec PyProof.Rows L2
open Sem (wp)
/-! ### a type's call, for one program -/
section
variable {prog : Program} {w : World} {A : Around} {E : Value → Shared → Prop} {s : Shared}
theorem typeCall_in {T newId initId : String} {Bn Bi : Builtin} {args : List Value} {S : PySem.Spec} {Q Q₁ : Value → Shared → Prop} (ft : TypeCalled T newId initId)
    (hct : checkTypeCall T ⟨args, []⟩ = pure ()) (hcn : checkBuiltinCall newId ⟨.type T :: args, []⟩ = pure ())
    (entryN : entryFor table newId = some Bn) (entryI : entryFor table initId = some Bi) (g : MeetsIn prog w (Bn ⟨.type T :: args, []⟩) S)
    (h : S A.in1 (wants Q₁ E) s)
    (hnext : ∀ obj s₁, Q₁ obj s₁ → s₁.TypeIs obj T ∧ argsOk initId ⟨obj :: args, []⟩ ∧ ∃ Si, Meets (Bi ⟨obj :: args, []⟩) Si ∧ Si A.in1 (wants (fun r s₂ => r = .none ∧ Q obj s₂) E) s₁) :
    wpAny (model prog w) A (call (.type T) args) Q E s := by
  obtain ⟨c, tl, hmro⟩ := ft.mro
  have hmade := ft.made
  have hsub := ft.sub
  refine wpAny_call (codeAny_of_tree ?_)
  show wpAny _ _ (callAny (.type T) _) _ _ _
  refine wpAny_pure ⟨Code.quiet_builtin _ (by decide +kernel), codeAny_builtin F.entry_type_call ?_⟩
  rw [Around.under_plain (weight_type_call_type T args []) (units_type_call_type T args [])]
  have h1 := ft.notType
  have h2 := ft.canCreate
  repeat (any_goals (first | assumption | wp_step))
  refine codeAny_mono (codeAny_call_builtin ft.plain entryN (wpAny_of_eq hcn (g A.in1 _ s h))) fun r s₁ hr => ?_
  cases r with
  | error e => exact hr
  | ok fl =>
    cases fl with
    | ret obj =>
      obtain ⟨hT, hok, Si, gi, hsi⟩ := hnext _ _ hr
      have hli := ft.init.lookup
      have hbi := ft.init.bind obj
      repeat (any_goals (first | assumption | wp_step))
      refine codeAny_mono (codeAny_call_builtin ft.init.plain entryI (ft.init.check _ _ _ _ _ _ _ _ hT hok (gi prog w A.in1 _ s₁ hsi))) fun r₂ s₂ hr₂ => ?_
      cases r₂ with
      | error e => exact hr₂
      | ok fl₂ =>
        cases fl₂ with
        | ret r =>
          obtain ⟨rfl, hq⟩ := hr₂
          repeat (any_goals (first | assumption | wp_step))
        | _ => exact hr₂.elim
    | _ => exact hr.elim
theorem bool_in {x : Value} {Q : Value → Shared → Prop} (h : wpAny (model prog w) A.in1.in1 (truthy x) (fun b s' => Q (.bool b) s') E s) : wpAny (model prog w) A (call (.type "bool") [x]) Q E s := by
  refine typeCall_in (S := fun A R s => wpAny (model prog w) A.in1 (truthy x) (fun b s' => R (.ok (.ret (.bool b))) s') (fun e s' => R (.error e) s') s) F.called_bool (F.typeCall_bool_1 x) (F.newCall_bool_1 x) F.entry_bool_new F.entry_object_init
    (MeetsIn.of_wp fun A R s hs => ?_) (Q₁ := fun obj s₁ => s₁.TypeIs obj "bool" ∧ Q obj s₁) (wpAny_mono h (fun b s' q => ⟨rfl, q⟩) fun _ _ z => z) fun obj _ hq =>
    ⟨hq.1, F.args_object_init_2 obj x, _, object_init_meets F.called_bool.init.lookup F.called_bool.made F.newNe_bool, hq.1, rfl, hq.2⟩
  have f1 := F.conv_sub_bool
  obtain ⟨hp, g, d, tk, os⟩ := s
  repeat (any_goals (first | assumption | (with_reducible refine wpAny_bind (wpAny_mono hs (fun b s' q => ?_) fun _ _ z => z)) | wp_step))
  all_goals first | exact ⟨_, rfl, q⟩ | skip
end

def sB (b : Bool) : Str := if b = true then "True" else "False"
/-! ### abs(x), bool(x) by an own class's methods; repr of a bool; len of a set of tuples -/
section
variable {X : Cx} {CX : CXT} {n : Nat} {C g : Addr} {fd : FuncData} {ps : List Str} {sp : Sp} {E : XK}
def rOwnCall1 (C : Addr) (sp : Sp) (E : XK) : List V → Hp → VK → Prop := fun xs H Q => ∃ a dx fs, xs = [.ref a] ∧ H a = some (.ins C dx fs) ∧ sp [.ref a] H Q E
theorem call_ownAbs (F : FnOk X.prog X.w X.K X.mg X.base CX n g fd ps sp) (hb : Binds X.K fd ps []) (hs : PySem.W.findIn X.K (.ref C) "__abs__" = some (some (.ref g)))
    (hf : PySem.W.isFn X.K (.ref g) = true) (hr : Room (n + 1) X.A) (hx : Passes CX X E) : CallR X (.builtin "abs") (rOwnCall1 C sp E) := by
  intro pins s σ H xs us Q I r h
  obtain ⟨a, dx, fs, rfl, ha, q⟩ := h
  obtain rfl := Vals.ref1 r
  obtain ⟨mA, J, _⟩ := ins_get I.hok ha
  obtain ⟨od, J, _⟩ := J.look
  obtain ⟨m, hF⟩ := I.fr
  refine Calls.call_function_entry kind_abs plain_abs entry_abs (args_abs _) ?_
  unfold Builtin.«abs»
  refine wpAny_bind (m := oneArg "abs" _) (wpAny_pure ?_)
  have hl := F.len _ _ _ _ q
  refine wpAny_bind (m := callSpecial? (.ref a) (Str.ofString "__abs__")) (PySem.W.special_fn I.kIn J hs (beq_iff_eq.mp hf) ?_)
  refine wpAny_call (codeAny_mono (F.run X.A.in1 X.stack s H ⟨[.ref a], []⟩ [.ref a] [.ref a] _ E hr.in1 I.env0.in1 (by
    have := hb s [.ref a] I.kIn (by simpa using hl)
    simpa using this) (.cons rfl .nil) q) fun r s' hq => ?_)
  cases r with
  | error e => exact hx pins σ H s e s' I hq
  | ok fl =>
    cases fl with
    | ret u => exact wpAny_pure ⟨_, rfl, I.after hq⟩
    | next => exact False.elim hq
    | brk => exact False.elim hq
    | cont => exact False.elim hq
/-- bool(x) -/
def rOwnBool (C : Addr) (sp : Sp) (E : XK) : List V → Hp → VK → Prop := fun xs H Q => ∃ a dx fs, xs = [.ref a] ∧ H a = some (.ins C dx fs) ∧ sp [.ref a] H (fun z H' => ∃ r, z = .bl r ∧ Q (.bl r) H') E
theorem call_ownBool (F : FnOk X.prog X.w X.K X.mg X.base CX n g fd ps sp) (hb : Binds X.K fd ps []) (hs : PySem.W.findIn X.K (.ref C) "__bool__" = some (some (.ref g)))
    (hf : PySem.W.isFn X.K (.ref g) = true) (hr : Room (n + 2) X.A) (hx : Passes CX X E) : CallR X (.type "bool") (rOwnBool C sp E) := by
  intro pins s σ H xs us Q I r h
  obtain ⟨a, dx, fs, rfl, ha, q⟩ := h
  obtain rfl := Vals.ref1 r
  obtain ⟨mA, J, _⟩ := ins_get I.hok ha
  obtain ⟨od, J, _⟩ := J.look
  obtain ⟨m, hF⟩ := I.fr
  refine bool_in (PySem.W.truthy_K hF I.ok.mod.kin J hs hf ?_)
  have hl := F.len _ _ _ _ q
  have hr2 : Room n X.A.in1.in1 := Room.in1 (Room.in1 hr)
  refine wpAny_call (codeAny_mono (F.run X.A.in1.in1 X.stack s H ⟨[.ref a], []⟩ [.ref a] [.ref a] _ E hr2 I.env0.in1.in1 (by
    have := hb s [.ref a] I.kIn (by simpa using hl)
    simpa using this) (.cons rfl .nil) q) fun r s' hq => ?_)
  cases r with
  | error e => exact hx pins σ H s e s' I hq
  | ok fl =>
    cases fl with
    | ret u =>
      obtain ⟨z, H', I', rz, r, ez, q'⟩ := I.after hq
      subst ez
      cases (show u = Value.bool r from rz)
      exact ⟨.bl r, H', I', rfl, q'⟩
    | next => exact False.elim hq
    | brk => exact False.elim hq
    | cont => exact False.elim hq
/-- repr(a bool) -/
theorem call_repr_bl : CallR X (.builtin "repr") (fun xs H Q => ∃ b, xs = [.bl b] ∧ Q (.str (sB b)) H) := by
  intro pins s σ H xs us Q I r h
  obtain ⟨b, rfl, q⟩ := h
  obtain ⟨u, rfl, ru⟩ := vals1 r
  cases (show u = Value.bool b from ru)
  exact PySem.P.repr_of_bool ⟨.str _, H, I.tok _, ⟨_, by cases b <;> rfl⟩, q⟩
/-- len(a set of tuples of ints) -/
def rLenT (K : PySem.W.Frag) (P : Program) (w : World) : List V → Hp → VK → Prop := fun vs H Q => ∃ (a : Addr) (L : List (Addr × List Int)), vs = [V.ref a] ∧ H a = some (SetTO P w a L) ∧ (∀ p ∈ L, SqT K H p.1 (p.2.map V.int)) ∧ ((L.map (·.2)).Nodup → Q (.int L.length) H)
theorem cr_lenT : CallR X (.builtin "len") (rLenT X.K X.prog X.w) := by
  intro pins s σ H vs us Q I r h
  obtain ⟨a, L, rfl, ha, hk, q⟩ := h
  have R0 : SetT0 X.prog X.w s.heap a L := (I.hok a _ ha).1
  obtain ⟨es, ep, t, R⟩ := R0.full fun p hp => I.isT (hk p hp)
  rw [Vals.ref1 r]
  obtain ⟨o, ho, hex, hd⟩ := R.ob
  have hn := R.size
  have hf := R.few
  refine call_len_set ho hex hd R.fits (by omega) ⟨.int L.length, H, I.tok _, ⟨_, by rw [hn]⟩, q R.nd⟩
end
end WO
namespace WG
open PySem PySem.Spec PyProof.Rows L2

/-! ### a def's promise where no repr is under way around it -/
abbrev NoG (A : Around) : Prop := A.guards = some []
structure FnG (P : Program) (w : World) (K : PySem.W.Frag) (mg : Str → Option Value) (base : Heap) (CX : CXT) (k : Nat) (f : Addr) (fd : FuncData) (ps : List Str) (sp : Sp) : Prop where
  ln : ∀ xs Hp0 Qv Ex, sp xs Hp0 Qv Ex → xs.length = ps.length
  go : ∀ (A : Around) (out : List Env) (s : Shared) (H : Hp) (args : Args) (us : List Value) (xs : List V) (Qv : VK) (Ex : XK), NoG A → Room k A → Env0 P w K mg base A out s H → BindsTo s fd args (ps.zip us) →
    Vals xs us → sp xs H Qv Ex → codeAny (model P w) A (.call (.ref f) args) (CR CX out P w H s Qv Ex) s
section
variable {P : Program} {w : World} {K : PySem.W.Frag} {mg : Str → Option Value} {base : Heap} {CX : CXT} {k : Nat} {f : Addr} {fd : FuncData} {ps : List Str} {sp : Sp}
theorem FnG.mono {j : Nat} (F : FnG P w K mg base CX j f fd ps sp) (h : j ≤ k) : FnG P w K mg base CX k f fd ps sp :=
  ⟨F.ln, fun A out s H args us xs Qv Ex g r => F.go A out s H args us xs Qv Ex g (r.mono h)⟩
end
/-- a def by its body -/
theorem fnG_of {CX : CXT} {P : Program} {w : World} {K : PySem.W.Frag} {mg : Str → Option Value} {base : Heap} {k : Nat} {f : Addr} {nm qual : Str} {pr : Arguments} {bd : List Stmt} {sc : Scope} {dV kV doc pm cdv ct oc : Value} {an od : Option Addr}
    {osl : Array (Option Value)} {N ps : List Str} {sp : Sp} (lk : K.lookup f = some ⟨oc, od, .func (PySem.W.fnOf nm qual pr bd sc dV kV doc pm an cdv ct), osl⟩) (hc : PySem.W.codeIn K cdv qual = true) (S : FnScope N ps sc)
    (ln : ∀ xs Hp0 Qv Ex, sp xs Hp0 Qv Ex → xs.length = ps.length)
    (hb : ∀ (A : Around) (out : List Env) (s : Shared) (H : Hp) (xs : List V) (Qv : VK) (Ex : XK), NoG A → Room k (A.deeper (envOfC qual sc s.heap.objs.size f cdv)) → sp xs H Qv Ex →
      ∃ t, PSs (cxOf CX P w K mg base N qual sc f cdv A out s H Ex) bd t ∧ t { nx := fun _ H1 => Qv .non H1, rt := Qv } (start N xs) H) :
    FnG P w K mg base CX (k + 1) f (PySem.W.fnOf nm qual pr bd sc dV kV doc pm an cdv ct) ps sp := by
  refine ⟨ln, fun A out s H args us xs Qv Ex g r e0 bnd rel hq => ?_⟩
  have hin : ∀ b o, base.get? b = some o → s.heap.get? b = some o := fun b o e => (e0.bs b o e).1
  have KX : K.In s.heap := e0.mod.kin.keeps hin
  have slots : ∀ y ∈ ps.zip us, sc.names.lookup y.1 = some .local ∨ (sc.names.lookup y.1 = some .cell ∧ ((cellsFrom (s.heap.objs.size + 1) sc.names []).lookup y.1).isSome = true) := by
    rintro ⟨n, v⟩ hy
    exact (S.par n (List.of_mem_zip hy).1).imp id fun q => ⟨q, PySem.W.cellsFrom_some _ _ _ (.inl q)⟩
  refine codeAny_call_function r.depth (KX _ _ lk) rfl S.co S.gen rfl (PySem.W.codeRec_of KX hc) (bnd _ _ _ _ (wpAny_newFunctionEnv_cells S.kind slots fun env he s1 x => ?_))
  subst he
  refine ⟨(e0.mod.nolimit.keeps hin).keeps x.toInCall.keep, codeAny_func ?_⟩
  obtain ⟨t, ht, q⟩ := hb A out s H xs Qv Ex g (r.deeper _) hq
  have I0 := inv_start (CX := CX) (P := P) (w := w) (E := Ex) S r.hd e0 (ln _ _ _ _ hq) rel x
  refine wpAny_mono (ht.run [] s1 (start N xs) H _ I0 q) (fun fl s2 z => ?_) fun _ _ z => z
  cases fl with
  | brk => exact (z.choose_spec.choose_spec.2 : False).elim
  | cont => exact (z.choose_spec.choose_spec.2 : False).elim
  | next =>
    obtain ⟨σ2, H2, J, q2⟩ := z
    exact ⟨V.non, H2, J.os, J.bare, J.base, J.hok, rfl, q2⟩
  | ret u =>
    obtain ⟨y, σ2, H2, J, ry, q2⟩ := z
    exact ⟨y, H2, J.os, J.bare, J.base, J.hok, ry, q2⟩
section
variable {P : Program} {w : World} {K : PySem.W.Frag} {mg : Str → Option Value} {base : Heap}
theorem okG {x qual : Str} {st : Stmt} {f : Addr} {fd : FuncData} {N ps : List Str} {k : Nat} {sp : Sp} (F : Fun K x qual st f fd) (S : FnScope N ps (defScope st)) (ln : ∀ xs Hp0 Qv Ex, sp xs Hp0 Qv Ex → xs.length = ps.length)
    (hb : ∀ (cdv : Value) (A : Around) (out : List Env) (s : Shared) (H : Hp) (xs : List V) (Qv : VK) (Ex : XK), NoG A → Room k (A.deeper (envOfC qual (defScope st) s.heap.objs.size f cdv)) → sp xs H Qv Ex →
      ∃ t, PSs (cxOf CX0 P w K mg base N qual (defScope st) f cdv A out s H Ex).nox (defBody st) t ∧ t { nx := fun _ H1 => Qv .non H1, rt := Qv } (start N xs) H) : FnG P w K mg base CX0 (k + 1) f fd ps sp := by
  obtain ⟨oc, od, kV, doc, pm, an, cdv, ct, osl, rfl, lk, hc⟩ := F.ex
  refine fnG_of lk hc S ln fun A out s H xs Qv Ex g r hq => ?_
  obtain ⟨t, h, q⟩ := hb cdv A out s H xs Qv Ex g r hq
  exact ⟨t, h.nox, q⟩
end
section
variable {X : Cx} {CX : CXT} {k : Nat} {f : Addr} {fd : FuncData} {ps : List Str} {sp : Sp} {E : XK} {x : Str} {p pos : Pos} {e : Expr} {es : List Expr} {t : TA}
/-- f(..) there -/
theorem pe_callG (F : FnG X.prog X.w X.K X.mg X.base CX k f fd ps sp) (g : NoG X.A) (hr : Room k X.A) (hg : Gl X x) (hm : X.mg x = some (.ref f)) (hk : PySem.W.keepIn X.K (.ref f) = true) (hb : Binds X.K fd ps []) (hx : Passes CX X E)
    (ha : PA X (e :: es) t) (hdb : (x == ("__debug__" : Str)) = false := by decide) (he : starEach (e :: es) X.env = (false, eval e X.env) :: starEach es X.env := by rfl) (hpl : (backTo pos (starEach es X.env)).any (·.1) = false := by rfl) :
    PE X (.Call (.Name x p) (e :: es) [] pos) (tCall sp [] E t) := by
  refine ⟨fun pins s σ H Q I h => wpAny_Call_Name_kw (ld_glob I hg hm (PySem.W.callWith_K (h₀ := X.base) I.ok.mod.kin hk (thn (ha.run pos pins s σ H _ I h) fun us s1 z => ?_) he hpl) hdb)⟩
  obtain ⟨vs, H1, I1, rel, q⟩ := z
  rw [List.append_nil] at q
  refine ⟨I1.kIn, wpAny_call (codeAny_mono (F.go X.A X.stack s1 H1 ⟨us, []⟩ us vs Q E g hr I1.env0 ?_ rel q) fun r s2 z => ?_)⟩
  · have := hb s1 us I1.kIn (by rw [List.append_nil, ← rel.length]; exact F.ln _ _ _ _ q)
    rwa [List.append_nil] at this
  · rcases r with e | fl
    · exact hx pins σ H1 s1 e s2 I1 z
    · cases fl with
      | ret u => exact I1.after z
      | next => exact z.elim
      | brk => exact z.elim
      | cont => exact z.elim
end
/-! ### repr of plain data that is no dict -/
structure Shows (d : PyData) (L k : Nat) : Prop where
  sh : d.showable = true
  nd : d.hasDict = false
  dp : d.depth ≤ k
  ln : d.shown.length ≤ L
theorem Shows.mono {d : PyData} {L k M l : Nat} (h : Shows d L k) (h1 : L ≤ M) (h2 : k ≤ l) : Shows d M l := ⟨h.sh, h.nd, Nat.le_trans h.dp h2, Nat.le_trans h.ln h1⟩
theorem Shows.non {k : Nat} : Shows .none 4 k := ⟨rfl, rfl, Nat.zero_le _, by decide⟩
theorem Shows.bool {b : Bool} {k : Nat} : Shows (.bool b) 5 k := ⟨rfl, rfl, Nat.zero_le _, by cases b <;> decide⟩
theorem Shows.int {i : Int} {k : Nat} (h : i.natAbs < 2 ^ 1900) : Shows (.int i) 1921 k := by
  have hl : i.natAbs.log2 < 1920 := by
    by_cases h0 : i.natAbs = 0
    · rw [h0, Nat.log2_zero]
      decide
    · exact Nat.lt_of_lt_of_le ((Nat.log2_lt h0).mpr h) (by decide)
  refine ⟨?_, rfl, Nat.zero_le _, ?_⟩
  · simp only [PyData.showable, decide_eq_true hl]
  · show (Str.ofString (toString i)).length ≤ 1921
    rw [PySem.ofString_length]
    exact int_text_length_le (k := 1920) (by decide) hl
theorem shows_all {L k : Nat} : ∀ {ds : List PyData}, (∀ d ∈ ds, Shows d L k) → PyData.showableAll ds = true ∧ PyData.hasDictAll ds = false ∧ PyData.depthAll ds ≤ k ∧ ((PyData.shownAll ds).map (·.length)).sum ≤ L * ds.length ∧ (PyData.shownAll ds).length = ds.length
  | [], _ => ⟨rfl, rfl, Nat.zero_le _, Nat.zero_le _, rfl⟩
  | d :: ds, h => by
    obtain ⟨h1, h2, h3, h4, h5⟩ := shows_all (fun x m => h x (List.mem_cons_of_mem _ m))
    have h0 := h d (List.mem_cons_self ..)
    refine ⟨?_, ?_, ?_, ?_, ?_⟩
    · simp only [PyData.showableAll, h0.sh, h1, Bool.and_self]
    · simp only [PyData.hasDictAll, h0.nd, h2, Bool.or_self]
    · simp only [PyData.depthAll]
      exact Nat.max_le.mpr ⟨h0.dp, h3⟩
    · have := h0.ln
      simp only [PyData.shownAll, List.map_cons, List.sum_cons, List.length_cons]
      rw [Nat.mul_succ]
      omega
    · simp only [PyData.shownAll, List.length_cons, h5]
theorem Shows.list {ds : List PyData} {L k : Nat} (h : ∀ d ∈ ds, Shows d L k) : Shows (.list ds) ((L + 2) * ds.length + 3) (k + 1) := by
  obtain ⟨h1, h2, h3, h4, h5⟩ := shows_all h
  refine ⟨by simpa only [PyData.showable] using h1, by simpa only [PyData.hasDict] using h2, by simpa only [PyData.depth] using Nat.succ_le_succ h3, ?_⟩
  have := listText_len_le (PyData.shownAll ds)
  rw [h5] at this
  simp only [PyData.shown, Nat.add_mul]
  omega
theorem Shows.tup {ds : List PyData} {L k : Nat} (h : ∀ d ∈ ds, Shows d L k) : Shows (.tuple ds) ((L + 2) * ds.length + 3) (k + 1) := by
  obtain ⟨h1, h2, h3, h4, h5⟩ := shows_all h
  refine ⟨by simpa only [PyData.showable] using h1, by simpa only [PyData.hasDict] using h2, by simpa only [PyData.depth] using Nat.succ_le_succ h3, ?_⟩
  have := tupleText_len_le (PyData.shownAll ds)
  rw [h5] at this
  simp only [PyData.shown, Nat.add_mul]
  omega
def rReprD (K : PySem.W.Frag) : List V → Hp → VK → Prop := fun xs H Q => ∃ (a : Addr) (d : PyData) (L k : Nat), xs = [.ref a] ∧ Dp K H (.ref a) d ∧ Shows d L k ∧ L ≤ 16000000 ∧ k ≤ 60 ∧ Q (.str d.shown) H
theorem call_reprD {X : Cx} (g : NoG X.A) (hu : X.A.units + 64 < cLine) : CallR X (.builtin "repr") (rReprD X.K) := by
  intro pins s σ H xs us Q I r h
  obtain ⟨a, d, L, k, rfl, hd, S, hL, hk, q⟩ := h
  rw [Vals.ref1 r]
  obtain ⟨as, rd⟩ := Dp.reads I d _ _ hd rfl
  have h60 := S.dp
  exact repr_of_reads' rd S.sh (PyData.noDict_hsm S.nd) g (by omega) (fun _ _ e => e) (fun h' u tk hk => ⟨.str _, H, I.kept hk, ⟨_, rfl⟩, q⟩) (by
    have := S.ln
    rw [sizeLine_eq]
    omega)
/-! ### the head -/
theorem law_callG {P : Program} {w : World} {K : PySem.W.Frag} {mg mb : Str → Option Value} {k : Nat} {fa a : Addr} {fd : FuncData} {x : Str} {sp : Sp} {s₁ : Shared} {vs : List Value} {ns : List Int}
    (KX : K.In s₁.heap) (hns : s₁.heap.Ns mainGlobals mg) (hb : s₁.heap.Ns builtinsNs mb) (hbb : ∀ x : Str, x ≠ "__name__" → mb x = bootBuiltins x) (hlim : s₁.heap.NoLimit) (hg : s₁.gens = #[])
    (ha : s₁.heap.get? a = some { cls := .type "list", data := .seq vs.toArray }) (hi : IntsAre vs ns) (hl : ns.length ≤ sizeLine) (hr : Room k callerA)
    (F : ∀ base : Heap, K.In base → base.Ns mainGlobals mg → FnG P w K mg base CX0 k fa fd [x] sp) (hbind : ∀ (s : Shared) (u : Value), BindsTo s fd ⟨[u], []⟩ [(x, u)])
    (hsp : ∀ H : Hp, Only H → SqL K H a (ns.map V.int) → sp [.ref a] H (fun v _ => v = .bl true) fun _ _ _ => False) :
    codeAny (model P w) callerA (.call (.ref fa) ⟨[.ref a], []⟩) (fun r s' => r = .ok (.ret (.bool true)) ∧ OldK s₁.heap s'.heap ∧ s'.os = s₁.os ∧ AllBare s'.gens) s₁ := by
  have rv := vals_ints hi
  have from_ : ∀ H : Hp, Only H → SqL K H a (ns.map V.int) → HOk P w H s₁.heap → (∀ b, H b ≠ none → b = a) → (H a ≠ none → K.lookup a = none) →
      codeAny (model P w) callerA (.call (.ref fa) ⟨[.ref a], []⟩) (fun r s' => r = .ok (.ret (.bool true)) ∧ OldK s₁.heap s'.heap ∧ s'.os = s₁.os ∧ AllBare s'.gens) s₁ := by
    intro H only seq ok alone noK
    -- what else lies in the heap, lies in the base
    have keepB : ∀ {b : Addr} {o : Obj}, s₁.heap.get? b = some o → (b = a → H a = none) → (hidT s₁.heap H).get? b = some o := fun {b o} e n => hidT_get e (by
      cases q : H b with
      | none => rfl
      | some u =>
        have ea : b = a := alone b (by rw [q]; simp)
        rw [ea, n ea] at q
        cases q)
    have noDict : ∀ {b : Addr} {o : Obj} {es : Array DictEntry} {ep : Nat}, s₁.heap.get? b = some o → o.data = .dict es ep → b ≠ a := fun {b o es ep} e d ea => by
      rw [ea, ha] at e
      cases e
      cases (show Data.seq vs.toArray _ = Data.dict es ep from d)
    have nsB : ∀ {b : Addr} {m : Str → Option Value}, s₁.heap.Ns b m → (hidT s₁.heap H).Ns b m := fun ⟨o, es, ep, e, d, r⟩ => ⟨o, es, ep, keepB e fun ea => absurd ea (noDict e d), d, r⟩
    have KB : K.In (hidT s₁.heap H) := fun b o e => keepB (KX b o e) fun ea => by
      cases q : H a with
      | none => rfl
      | some u =>
        have n := noK (by rw [q]; simp)
        rw [ea, n] at e
        cases e
    have md : Mod K mg (hidT s₁.heap H) := by
      obtain ⟨mc, h1, h2⟩ := hlim
      exact ⟨KB, nsB hns, ⟨mb, nsB hb, hbb⟩, mc, nsB h1, h2⟩
    have en : Env0 P w K mg (hidT s₁.heap H) callerA [] s₁ H := ⟨rfl, md, fun b o e => of_hidT e, Nat.le_of_eq (hidT_size _ _), trivial, fun b z => (List.not_mem_nil z).elim, ok, .of_eq hg⟩
    refine codeAny_mono ((F _ KB (nsB hns)).go callerA [] s₁ H ⟨[.ref a], []⟩ [.ref a] [.ref a] _ _ rfl hr en (hbind s₁ (.ref a)) (.cons rfl .nil) (hsp H only seq)) fun r s2 z => ?_
    rcases r with e | fl
    · exact z.elim
    cases fl with
    | next => exact z.elim
    | brk => exact z.elim
    | cont => exact z.elim
    | ret u =>
      obtain ⟨v, H2, os, bare, un, ok2, ru, ev⟩ := z
      rw [show v = V.bl true from ev] at ru
      cases (show u = Value.bool true from ru)
      refine ⟨rfl, OldK.of_keep fun b o e => ?_, os, bare⟩
      rcases only b with z | ⟨ob, xs, z⟩
      · exact un.keep b o e z List.not_mem_nil List.not_mem_nil
      · have e1 := (ok b _ z).1
        rw [e] at e1
        cases e1
        exact (ok2 b _ (un.frzs b _ _ z)).1
  cases hk : K.lookup a with
  | some o =>
    have e := KX a o hk
    rw [ha] at e
    cases e
    exact from_ (fun _ => none) (fun _ => .inl rfl) (.inr ⟨_, vs.toArray, _, hk, rfl, rfl, rfl, by rw [List.size_toArray, hi.length]; exact hl, by simpa using rv⟩) (fun b u z => by cases (show (none : Option HO) = some u from z)) (fun b z => absurd rfl z) fun z => absurd rfl z
  | none =>
    have one : ∀ b u, (fun b => if b = a then some (HO.frz { cls := .type "list", data := .seq vs.toArray } (.lst (ns.map V.int))) else none : Hp) b = some u → b = a ∧ u = .frz { cls := .type "list", data := .seq vs.toArray } (.lst (ns.map V.int)) := fun b u z => by
      by_cases eb : b = a
      · exact ⟨eb, (Option.some.inj ((if_pos eb).symm.trans z)).symm⟩
      · cases (if_neg eb).symm.trans z
    refine from_ (fun b => if b = a then some (.frz { cls := .type "list", data := .seq vs.toArray } (.lst (ns.map V.int))) else none) (fun b => ?_) (.inl (.inr ⟨_, if_pos rfl⟩)) (fun b u z => ?_) (fun b z => ?_) fun _ => hk
    · by_cases eb : b = a
      · exact .inr ⟨_, _, if_pos eb⟩
      · exact .inl (if_neg eb)
    · obtain ⟨rfl, rfl⟩ := one b u z
      exact ⟨ha, by rw [List.length_map]; exact hl, vs, _, rv, ha⟩
    · by_cases eb : b = a
      · exact eb
      · exact absurd (if_neg eb) z
theorem walk_G {l : PySem.W.OpenLaw} {n k : Nat} {q : Program} {loose : List Str} {XP : (Str → Option Value) → Heap → Prop} {YP : World → Heap → Prop} {d : DefRec} {K : Params → PySem.W.Frag} {sp : World → Sp} {x : Str}
    (hn : l.most = some n) (hn2 : n ≤ sizeLine) (hdf : d.params.defaults = []) (hr : Room k callerA) (hY : ∀ (w : World) (h : Heap), YP w h → (K w.params).In h)
    (F : ∀ (w : World) (mg : Str → Option Value) (fa : Addr) (h : Heap), (K w.params).In h → h.Ns mainGlobals mg → mg d.name = some (.ref fa) →
      ∃ fd : FuncData, (∀ (s : Shared) (u : Value), BindsTo s fd ⟨[u], []⟩ [(x, u)]) ∧ ∀ base : Heap, (K w.params).In base → base.Ns mainGlobals mg → FnG l.prog w (K w.params) mg base CX0 k fa fd [x] (sp w))
    (hsp : ∀ (w : World) (H : Hp) (a : Addr) (ns : List Int), ns.length ≤ n → Only H → SqL (K w.params) H a (ns.map V.int) → sp w [.ref a] H (fun v _ => v = .bl true) fun _ _ _ => False) :
    PySem.W.WalkO q loose XP YP l.row.toRowW d [] (fun f vs => PySem.call f vs) :=
  Att.attach_call hn hdf fun w s₀ s₁ mg mb fa o pm cd doc a vs ns G Y ho hd hcd hmg hobj hints hlen hg => by
    obtain ⟨fd, hb, hF⟩ := F w mg fa _ (hY w _ Y) G.T.g hmg
    exact law_callG (hY w _ Y) G.T.g G.T.b G.T.builtins G.T.nolimit hg hobj hints (Nat.le_trans hlen hn2) hr hF hb fun H hO hS => hsp w H a ns hlen hO hS
end WG
namespace Q
open PySem PySem.Spec PyProof.Rows L2 WL WM WO WG
def top (i : Nat) : Stmt := PySem.Challenge.pw_whatspeed_k02_sums_and_compares.main.body.getD i (.Pass ⟨0, 0, 0, 0⟩)
abbrev s_is_integer : Stmt := top 5
abbrev N_is_integer : List Str := ["value"]
theorem sc_is_integer : FnScope ["value"] ["value"] (defScope s_is_integer) := ⟨rfl, rfl, rfl, by decide +kernel, rfl, by decide +kernel, by decide +kernel⟩
abbrev s_shared_divisor : Stmt := top 7
abbrev N_shared_divisor : List Str := ["one", "other"]
theorem sc_shared_divisor : FnScope ["one", "other"] ["one", "other"] (defScope s_shared_divisor) := ⟨rfl, rfl, rfl, by decide +kernel, rfl, by decide +kernel, by decide +kernel⟩
abbrev s_Number_init : Stmt := inClass (top 8) 0
abbrev N_Number_init : List Str := ["self", "top", "bottom", "shared"]
theorem sc_Number_init : FnScope ["self", "top", "bottom", "shared"] ["self", "top", "bottom"] (defScope s_Number_init) := ⟨rfl, rfl, rfl, by decide +kernel, rfl, by decide +kernel, by decide +kernel⟩
abbrev s_Number_top : Stmt := inClass (top 8) 1
abbrev N_Number_top : List Str := ["self"]
theorem sc_Number_top : FnScope ["self"] ["self"] (defScope s_Number_top) := ⟨rfl, rfl, rfl, by decide +kernel, rfl, by decide +kernel, by decide +kernel⟩
abbrev s_Number_bottom : Stmt := inClass (top 8) 2
abbrev N_Number_bottom : List Str := ["self"]
theorem sc_Number_bottom : FnScope ["self"] ["self"] (defScope s_Number_bottom) := ⟨rfl, rfl, rfl, by decide +kernel, rfl, by decide +kernel, by decide +kernel⟩
abbrev s_Number_eq : Stmt := inClass (top 8) 3
abbrev N_Number_eq : List Str := ["self", "other"]
theorem sc_Number_eq : FnScope ["self", "other"] ["self", "other"] (defScope s_Number_eq) := ⟨rfl, rfl, rfl, by decide +kernel, rfl, by decide +kernel, by decide +kernel⟩
abbrev s_Number_is_less : Stmt := inClass (top 8) 4
abbrev N_Number_is_less : List Str := ["self", "other"]
theorem sc_Number_is_less : FnScope ["self", "other"] ["self", "other"] (defScope s_Number_is_less) := ⟨rfl, rfl, rfl, by decide +kernel, rfl, by decide +kernel, by decide +kernel⟩
abbrev s_Number_add : Stmt := inClass (top 8) 5
abbrev N_Number_add : List Str := ["self", "other", "top"]
theorem sc_Number_add : FnScope ["self", "other", "top"] ["self", "other"] (defScope s_Number_add) := ⟨rfl, rfl, rfl, by decide +kernel, rfl, by decide +kernel, by decide +kernel⟩
abbrev s_Number_sub : Stmt := inClass (top 8) 6
abbrev N_Number_sub : List Str := ["self", "other", "top"]
theorem sc_Number_sub : FnScope ["self", "other", "top"] ["self", "other"] (defScope s_Number_sub) := ⟨rfl, rfl, rfl, by decide +kernel, rfl, by decide +kernel, by decide +kernel⟩
abbrev s_Number_mul : Stmt := inClass (top 8) 7
abbrev N_Number_mul : List Str := ["self", "other"]
theorem sc_Number_mul : FnScope ["self", "other"] ["self", "other"] (defScope s_Number_mul) := ⟨rfl, rfl, rfl, by decide +kernel, rfl, by decide +kernel, by decide +kernel⟩
abbrev s_Number_neg : Stmt := inClass (top 8) 9
abbrev N_Number_neg : List Str := ["self"]
theorem sc_Number_neg : FnScope ["self"] ["self"] (defScope s_Number_neg) := ⟨rfl, rfl, rfl, by decide +kernel, rfl, by decide +kernel, by decide +kernel⟩
abbrev s_Number_abs : Stmt := inClass (top 8) 10
abbrev N_Number_abs : List Str := ["self"]
theorem sc_Number_abs : FnScope ["self"] ["self"] (defScope s_Number_abs) := ⟨rfl, rfl, rfl, by decide +kernel, rfl, by decide +kernel, by decide +kernel⟩
abbrev s_Number_bool : Stmt := inClass (top 8) 11
abbrev N_Number_bool : List Str := ["self"]
theorem sc_Number_bool : FnScope ["self"] ["self"] (defScope s_Number_bool) := ⟨rfl, rfl, rfl, by decide +kernel, rfl, by decide +kernel, by decide +kernel⟩
abbrev s_law_pot : Stmt := top 10
abbrev N_law_pot : List Str := ["script", "k", "cell", "own"]
theorem sc_law_pot : FnScope ["script", "k", "cell", "own"] ["script", "k"] (defScope s_law_pot) := ⟨rfl, rfl, rfl, by decide +kernel, rfl, by decide +kernel, by decide +kernel⟩
abbrev s_law_take : Stmt := top 11
abbrev N_law_take : List Str := ["pot", "upto", "digit", "prime", "mixed"]
theorem sc_law_take : FnScope ["pot", "upto", "digit", "prime", "mixed"] ["pot", "upto"] (defScope s_law_take) := ⟨rfl, rfl, rfl, by decide +kernel, rfl, by decide +kernel, by decide +kernel⟩
abbrev s_law_of : Stmt := top 12
abbrev N_law_of : List Str := ["pot", "some"]
theorem sc_law_of : FnScope ["pot", "some"] ["pot", "some"] (defScope s_law_of) := ⟨rfl, rfl, rfl, by decide +kernel, rfl, by decide +kernel, by decide +kernel⟩
abbrev s_law_least : Stmt := top 13
abbrev N_law_least : List Str := ["top", "bottom", "one", "other", "sign"]
theorem sc_law_least : FnScope ["top", "bottom", "one", "other", "sign"] ["top", "bottom"] (defScope s_law_least) := ⟨rfl, rfl, rfl, by decide +kernel, rfl, by decide +kernel, by decide +kernel⟩
abbrev s_law_drawn : Stmt := top 14
abbrev N_law_drawn : List Str := ["pot", "top"]
theorem sc_law_drawn : FnScope ["pot", "top"] ["pot"] (defScope s_law_drawn) := ⟨rfl, rfl, rfl, by decide +kernel, rfl, by decide +kernel, by decide +kernel⟩
abbrev s_law_pair : Stmt := top 15
abbrev N_law_pair : List Str := ["thing"]
theorem sc_law_pair : FnScope ["thing"] ["thing"] (defScope s_law_pair) := ⟨rfl, rfl, rfl, by decide +kernel, rfl, by decide +kernel, by decide +kernel⟩
abbrev s_law_near : Stmt := top 16
abbrev N_law_near : List Str := ["pot", "one", "way", "many"]
theorem sc_law_near : FnScope ["pot", "one", "way", "many"] ["pot", "one"] (defScope s_law_near) := ⟨rfl, rfl, rfl, by decide +kernel, rfl, by decide +kernel, by decide +kernel⟩
abbrev s_law_is_right : Stmt := top 17
abbrev N_law_is_right : List Str := ["first", "second", "one", "other", "a", "b", "c", "d", "told", "due", "sign", "left", "right"]
theorem sc_law_is_right : FnScope ["first", "second", "one", "other", "a", "b", "c", "d", "told", "due", "sign", "left", "right"] ["first", "second"] (defScope s_law_is_right) := ⟨rfl, rfl, rfl, by decide +kernel, rfl, by decide +kernel, by decide +kernel⟩
abbrev s_law : Stmt := top 18
abbrev N_law : List Str := ["script", "k", "pot", "turn", "first"]
theorem sc_law : FnScope ["script", "k", "pot", "turn", "first"] ["script"] (defScope s_law) := ⟨rfl, rfl, rfl, by decide +kernel, rfl, by decide +kernel, by decide +kernel⟩
structure Ad where
  c_Number : Addr
  f_is_integer : Addr
  d_is_integer : FuncData
  f_shared_divisor : Addr
  d_shared_divisor : FuncData
  f_Number_init : Addr
  d_Number_init : FuncData
  f_Number_top : Addr
  d_Number_top : FuncData
  p_Number_top : Addr
  f_Number_bottom : Addr
  d_Number_bottom : FuncData
  p_Number_bottom : Addr
  f_Number_eq : Addr
  d_Number_eq : FuncData
  f_Number_is_less : Addr
  d_Number_is_less : FuncData
  f_Number_add : Addr
  d_Number_add : FuncData
  f_Number_sub : Addr
  d_Number_sub : FuncData
  f_Number_mul : Addr
  d_Number_mul : FuncData
  f_Number_neg : Addr
  d_Number_neg : FuncData
  f_Number_abs : Addr
  d_Number_abs : FuncData
  f_Number_bool : Addr
  d_Number_bool : FuncData
  f_law_pot : Addr
  d_law_pot : FuncData
  f_law_take : Addr
  d_law_take : FuncData
  f_law_of : Addr
  d_law_of : FuncData
  f_law_least : Addr
  d_law_least : FuncData
  f_law_drawn : Addr
  d_law_drawn : FuncData
  f_law_pair : Addr
  d_law_pair : FuncData
  f_law_near : Addr
  d_law_near : FuncData
  f_law_is_right : Addr
  d_law_is_right : FuncData
  f_law : Addr
  d_law : FuncData
structure Txt (K : PySem.W.Frag) (mg : Str → Option Value) (A : Ad) : Prop where
  g_Number : mg "Number" = some (.ref A.c_Number)
  cl_Number : Cls K A.c_Number
  M_Number : Mk K A.c_Number A.f_Number_init
  sf_Number : PySem.W.selfFirst K A.c_Number = true
  ca_Number : PySem.W.findIn K (.ref A.c_Number) "__class__" = some (some (.builtin "object.__class__"))
  cm_Number : PySem.W.mroIn K A.c_Number (.type "object") = some true
  n_Number_own_top : NoAttr K A.c_Number "own_top"
  n_Number_own_bottom : NoAttr K A.c_Number "own_bottom"
  cn : PySem.W.specialIn K (.builtin "object.__class__") "__get__" = some (some (.builtin "getset_descriptor.__get__"))
  ct : PySem.W.takesIn K (.builtin "object.__class__") = some true
  g_is_integer : mg "is_integer" = some (.ref A.f_is_integer)
  F_is_integer : Fun K "is_integer" "is_integer" s_is_integer A.f_is_integer A.d_is_integer
  b_is_integer : Binds K A.d_is_integer ["value"] []
  g_shared_divisor : mg "shared_divisor" = some (.ref A.f_shared_divisor)
  F_shared_divisor : Fun K "shared_divisor" "shared_divisor" s_shared_divisor A.f_shared_divisor A.d_shared_divisor
  b_shared_divisor : Binds K A.d_shared_divisor ["one", "other"] []
  m_Number_init : Meth K A.c_Number "__init__" A.f_Number_init
  F_Number_init : FunD K "__init__" "Number.__init__" (defArgs s_Number_init) (defBody s_Number_init) (defScope s_Number_init) [.int 1] [] A.f_Number_init A.d_Number_init
  P_Number_top : PropOf K A.c_Number "top" A.p_Number_top A.f_Number_top
  F_Number_top : Fun K "top" "Number.top" s_Number_top A.f_Number_top A.d_Number_top
  b_Number_top : Binds K A.d_Number_top ["self"] []
  P_Number_bottom : PropOf K A.c_Number "bottom" A.p_Number_bottom A.f_Number_bottom
  F_Number_bottom : Fun K "bottom" "Number.bottom" s_Number_bottom A.f_Number_bottom A.d_Number_bottom
  b_Number_bottom : Binds K A.d_Number_bottom ["self"] []
  m_Number_eq : Meth K A.c_Number "__eq__" A.f_Number_eq
  F_Number_eq : Fun K "__eq__" "Number.__eq__" s_Number_eq A.f_Number_eq A.d_Number_eq
  b_Number_eq : Binds K A.d_Number_eq ["self", "other"] []
  m_Number_is_less : Meth K A.c_Number "is_less" A.f_Number_is_less
  F_Number_is_less : Fun K "is_less" "Number.is_less" s_Number_is_less A.f_Number_is_less A.d_Number_is_less
  b_Number_is_less : Binds K A.d_Number_is_less ["self", "other"] []
  m_Number_add : Meth K A.c_Number "__add__" A.f_Number_add
  F_Number_add : Fun K "__add__" "Number.__add__" s_Number_add A.f_Number_add A.d_Number_add
  b_Number_add : Binds K A.d_Number_add ["self", "other"] []
  m_Number_sub : Meth K A.c_Number "__sub__" A.f_Number_sub
  F_Number_sub : Fun K "__sub__" "Number.__sub__" s_Number_sub A.f_Number_sub A.d_Number_sub
  b_Number_sub : Binds K A.d_Number_sub ["self", "other"] []
  m_Number_mul : Meth K A.c_Number "__mul__" A.f_Number_mul
  F_Number_mul : Fun K "__mul__" "Number.__mul__" s_Number_mul A.f_Number_mul A.d_Number_mul
  b_Number_mul : Binds K A.d_Number_mul ["self", "other"] []
  m_Number_neg : Meth K A.c_Number "__neg__" A.f_Number_neg
  F_Number_neg : Fun K "__neg__" "Number.__neg__" s_Number_neg A.f_Number_neg A.d_Number_neg
  b_Number_neg : Binds K A.d_Number_neg ["self"] []
  m_Number_abs : Meth K A.c_Number "__abs__" A.f_Number_abs
  F_Number_abs : Fun K "__abs__" "Number.__abs__" s_Number_abs A.f_Number_abs A.d_Number_abs
  b_Number_abs : Binds K A.d_Number_abs ["self"] []
  m_Number_bool : Meth K A.c_Number "__bool__" A.f_Number_bool
  F_Number_bool : Fun K "__bool__" "Number.__bool__" s_Number_bool A.f_Number_bool A.d_Number_bool
  b_Number_bool : Binds K A.d_Number_bool ["self"] []
  g_law_pot : mg "_law_pot" = some (.ref A.f_law_pot)
  F_law_pot : Fun K "_law_pot" "_law_pot" s_law_pot A.f_law_pot A.d_law_pot
  b_law_pot : Binds K A.d_law_pot ["script", "k"] []
  g_law_take : mg "_law_take" = some (.ref A.f_law_take)
  F_law_take : Fun K "_law_take" "_law_take" s_law_take A.f_law_take A.d_law_take
  b_law_take : Binds K A.d_law_take ["pot", "upto"] []
  g_law_of : mg "_law_of" = some (.ref A.f_law_of)
  F_law_of : Fun K "_law_of" "_law_of" s_law_of A.f_law_of A.d_law_of
  b_law_of : Binds K A.d_law_of ["pot", "some"] []
  g_law_least : mg "_law_least" = some (.ref A.f_law_least)
  F_law_least : Fun K "_law_least" "_law_least" s_law_least A.f_law_least A.d_law_least
  b_law_least : Binds K A.d_law_least ["top", "bottom"] []
  g_law_drawn : mg "_law_drawn" = some (.ref A.f_law_drawn)
  F_law_drawn : Fun K "_law_drawn" "_law_drawn" s_law_drawn A.f_law_drawn A.d_law_drawn
  b_law_drawn : Binds K A.d_law_drawn ["pot"] []
  g_law_pair : mg "_law_pair" = some (.ref A.f_law_pair)
  F_law_pair : Fun K "_law_pair" "_law_pair" s_law_pair A.f_law_pair A.d_law_pair
  b_law_pair : Binds K A.d_law_pair ["thing"] []
  g_law_near : mg "_law_near" = some (.ref A.f_law_near)
  F_law_near : Fun K "_law_near" "_law_near" s_law_near A.f_law_near A.d_law_near
  b_law_near : Binds K A.d_law_near ["pot", "one"] []
  g_law_is_right : mg "_law_is_right" = some (.ref A.f_law_is_right)
  F_law_is_right : Fun K "_law_is_right" "_law_is_right" s_law_is_right A.f_law_is_right A.d_law_is_right
  b_law_is_right : Binds K A.d_law_is_right ["first", "second"] []
  F_law : Fun K "law" "law" s_law A.f_law A.d_law
  b_law : Binds K A.d_law ["script"] []
  z_isinstance : mg "isinstance" = none
  z_int : mg "int" = none
  z_bool : mg "bool" = none
  z_abs : mg "abs" = none
  z_len : mg "len" = none
  z_max : mg "max" = none
  z_min : mg "min" = none
  z_range : mg "range" = none
  z_repr : mg "repr" = none
  kit_NumNum : PySem.W.kitOne K (.ref A.c_Number) (.ref A.c_Number) = some true
  ne_Number : PySem.W.findIn K (.ref A.c_Number) "__ne__" = some (some (.builtin "object.__ne__"))
section
variable {P : Program} {w : World} {K : PySem.W.Frag} {mg : Str → Option Value} {base : Heap} {A : Ad}
/-- an int is an integer -/
def spIsInt : Sp := fun vs H Q _ => ∃ i : Int, vs = [.int i] ∧ Q (.bl true) H
theorem ok_is_integer (T : Txt K mg A) : FnOk P w K mg base CX0 1 A.f_is_integer A.d_is_integer ["value"] spIsInt := by
  refine T.F_is_integer.ok sc_is_integer (fun vs H Q E h => ?_) (fun cdv B outer s H vs Q E hr h => ?_)
  · obtain ⟨i, rfl, _⟩ := h
    rfl
  · obtain ⟨i, rfl, k⟩ := h
    refine ⟨_, pss_one (ps_ret (pe_and (pe_callB call_isi (by rfl) T.z_isinstance (by decide +kernel) (pa_cons (pv 0) (pa_cons (pe_bltn (v := .ty "int") (by rfl) T.z_int (by decide +kernel) rfl) pa_nil)))
      (pe_one (pe_not (pe_callB call_isi (by rfl) T.z_isinstance (by decide +kernel) (pa_cons (pv 0) (pa_cons (pe_bltn (v := .ty "bool") (by rfl) T.z_bool (by decide +kernel) rfl) pa_nil))))))), ?_⟩
    refine ⟨_, rfl, _, _, _, _, true, rfl, .ty "int", .base (.int i), kit_ty (by decide +kernel), true, rfl, ?_⟩
    refine iteT ?_
    refine ⟨_, rfl, _, _, _, _, false, rfl, .ty "bool", .base (.int i), kit_ty (by decide +kernel), false, rfl, ?_⟩
    exact k
end
section
variable {P : Program} {w : World} {K : PySem.W.Frag} {mg : Str → Option Value} {base : Heap} {A : Ad}
def spGcd : Sp := fun vs H Q _ => ∃ a b : Nat, vs = [.int a, .int b] ∧ Q (.int (Nat.gcd a b : Nat)) H
def natAt (σ : L2.St) (i : Nat) : Nat := match σ[i]? with
  | some (some (.int k)) => k.toNat
  | _ => 0
theorem ok_shared_divisor (T : Txt K mg A) : FnOk P w K mg base CX0 1 A.f_shared_divisor A.d_shared_divisor ["one", "other"] spGcd := by
  refine T.F_shared_divisor.ok sc_shared_divisor (fun vs H Q E h => ?_) (fun cdv B outer s H vs Q E hr h => ?_)
  · obtain ⟨a, b, rfl, _⟩ := h
    rfl
  · obtain ⟨a, b, rfl, k⟩ := h
    refine ⟨_, pss_cons (ps_while PassesOwn.never (pt_cmpR op_ne (pv 1) pe_int (nomark _))
      (pss_one (ps_par (i := 0) (j := 1) rfl sc_shared_divisor.nd rfl rfl (by decide) rfl rfl (pa_cons (pv 1) (pa_cons (pe_op op_mod (pv 0) (pv 1)) pa_nil)) (by rfl))))
      (pss_one (ps_ret (pv 0))), ?_⟩
    refine while_by (fun σ H' => ∃ c d : Nat, σ = [some (.int c), some (.int d)] ∧ Nat.gcd c d = Nat.gcd a b ∧ H' = H) (fun σ _ => natAt σ 1) ⟨a, b, rfl, rfl, rfl⟩ ?_ ?_
    · rintro σ H' ⟨c, d, rfl, hg, rfl⟩
      refine ⟨_, rfl, rfl, _, rfl, ?_⟩
      by_cases hd : d = 0
      · subst hd
        refine iteF ?_
        rw [Nat.gcd_zero_right] at hg
        refine ⟨_, rfl, ?_⟩
        rw [hg]
        exact k
      · have hne : (!decide (V.int (d : Int) = V.int 0)) = true := by
          have : ¬ (V.int (d : Int) = V.int 0) := fun e => hd (by injection e with e; omega)
          rw [decide_eq_false this]
          rfl
        rw [hne]
        refine iteT ?_
        refine ⟨_, rfl, _, rfl, _, rfl, _, _, rfl, rfl, (by show (0 : Int) < d; omega), _, _, rfl, ⟨d, c % d, ?_, ?_, rfl⟩, ?_⟩
        · rfl
        · rw [← hg, Nat.gcd_comm c d, Nat.gcd_rec d c, Nat.gcd_comm]
        · show ((c : Int) % (d : Int)).toNat < (d : Int).toNat
          have := Int.emod_lt_of_pos (c : Int) (show (0 : Int) < d by omega)
          have := Int.emod_nonneg (c : Int) (show (d : Int) ≠ 0 by omega)
          omega
    · intro σ H Q Q' m h
      obtain ⟨v, e, q⟩ := h
      obtain ⟨z, b, e2, q2⟩ := q
      exact ⟨v, e, z, b, e2, m _ _ q2⟩
end
/-! ### Number -/
def nf (q : Rat) : List (Str × V) := [("own_top", .int q.num), ("own_bottom", .int (q.den : Int))]
def Num (C : Addr) (H : Hp) (a : Addr) (q : Rat) : Prop := ∃ dx, H a = some (.ins C dx (nf q))
theorem Num.mono {C : Addr} {H H' : Hp} {a : Addr} {q : Rat} (h : Num C H a q) (s : Same H H') : Num C H' a q := by
  obtain ⟨dx, e⟩ := h
  exact ⟨dx, s _ _ e⟩
theorem nf_put (q : Rat) : putF "own_bottom" (.int (q.den : Int)) (putF "own_top" (.int q.num) []) = nf q := by
  show (if ("own_top" : Str) = "own_bottom" then [(("own_bottom" : Str), V.int (q.den : Int))] else (("own_top" : Str), V.int q.num) :: putF "own_bottom" (.int (q.den : Int)) []) = nf q
  rw [if_neg (by decide +kernel)]
  rfl
theorem nf_top (q : Rat) : (nf q).lookup ("own_top" : Str) = some (.int q.num) := by simp [nf, List.lookup]
theorem nf_bot (q : Rat) : (nf q).lookup ("own_bottom" : Str) = some (.int (q.den : Int)) := by
  have : (("own_bottom" : Str) == ("own_top" : Str)) = false := by decide +kernel
  simp [nf, List.lookup, this]
theorem nf_no (q : Rat) {m : Str} (h1 : (m == ("own_top" : Str)) = false) (h2 : (m == ("own_bottom" : Str)) = false) : (nf q).lookup m = none := by simp [nf, List.lookup, h1, h2]
/-- a new instance and its dict, then its fields -/
theorem same_made {C : Addr} {H : Hp} {x dx : Addr} {fs gs : List (Str × V)} (nx : H x = none) (ndx : H dx = none) : Same H (upd (upd (upd H dx (.own x)) x (.ins C dx fs)) x (.ins C dx gs)) := fun b o e => by
  rw [upd_upd, upd_ne (ne_of_none e nx), upd_ne (ne_of_none e ndx)]
  exact e
theorem same_new {H : Hp} {x : Addr} {o : HO} (nx : H x = none) : Same H (upd H x o) := fun b u e => by
  rw [upd_ne (ne_of_none e nx)]
  exact e
theorem abs_nat (t : Int) : (if t < 0 then -t else t) = (t.natAbs : Int) := by split <;> omega
theorem dint_ne {b c : Int} (h : b ≠ c) : decide (V.int b = V.int c) = false := decide_eq_false fun e => h (by injection e)
theorem dint_eq {b c : Int} (h : b = c) : decide (V.int b = V.int c) = true := decide_eq_true (by rw [h])
section
variable {P : Program} {w : World} {K : PySem.W.Frag} {mg : Str → Option Value} {base : Heap} {A : Ad}
def spNumI (C : Addr) : Sp := fun vs H Q _ => ∃ (p dx : Addr) (t b : Int), vs = [.ref p, .int t, .int b] ∧ b ≠ 0 ∧ b.natAbs < 2 ^ 9000 ∧ H p = some (.ins C dx []) ∧ Q .non (upd H p (.ins C dx (nf (Rat.divInt t b))))
theorem ok_Number_init (T : Txt K mg A) : FnOk P w K mg base CX0 2 A.f_Number_init A.d_Number_init ["self", "top", "bottom"] (spNumI A.c_Number) := by
  refine T.F_Number_init.ok sc_Number_init (fun vs H Q E h => ?_) (fun cdv B outer s H vs Q E hr h => ?_)
  · obtain ⟨p, dx, t, b, rfl, _⟩ := h
    rfl
  · obtain ⟨p, dx, t, b, rfl, hb, hbd, hp, k⟩ := h
    refine ⟨_, pss_cons (ps_if (PW.pt (pw_or (pt_not (pt_val (pe_call (ok_is_integer T) hr rfl T.g_is_integer T.F_is_integer.kp T.b_is_integer .nil pass0 (pa_cons (pv 1) pa_nil))))
        (pw_or (pt_not (pt_val (pe_call (ok_is_integer T) hr rfl T.g_is_integer T.F_is_integer.kp T.b_is_integer .nil pass0 (pa_cons (pv 2) pa_nil))))
        (pw_or1 (pt_cmpR op_eq (pv 2) pe_int (nomark _)))))) pss_never pss_nil)
      (pss_cons (ps_set (i := 3) sc_Number_init.nd rfl (Or.inl rfl) (pe_call (ok_shared_divisor T) hr rfl T.g_shared_divisor T.F_shared_divisor.kp T.b_shared_divisor .nil pass0
        (pa_cons (pe_callB call_abs (by rfl) T.z_abs (by decide +kernel) (pa_cons (pv 1) pa_nil)) (pa_cons (pe_callB call_abs (by rfl) T.z_abs (by decide +kernel) (pa_cons (pv 2) pa_nil)) pa_nil))))
      (pss_cons (ps_if (pt_cmpR op_lt (pv 2) pe_int (nomark _)) (pss_one (ps_set (i := 3) sc_Number_init.nd rfl (Or.inl rfl) (pe_un un_neg (pv 3)))) pss_nil)
      (pss_cons (ps_fld (pv 0) (pe_op op_fdivG (pv 1) (pv 3)) rfl)
      (pss_one (ps_fld (pv 0) (pe_op op_fdivG (pv 2) (pv 3)) rfl))))), ?_⟩
    refine ⟨_, rfl, t, rfl, true, rfl, ?_⟩
    refine iteF ?_
    refine ⟨_, rfl, b, rfl, true, rfl, ?_⟩
    refine iteF ?_
    refine ⟨_, rfl, rfl, _, rfl, ?_⟩
    rw [dint_ne hb]
    refine iteF ?_
    refine ⟨_, rfl, t, rfl, _, rfl, b, rfl, t.natAbs, b.natAbs, by rw [abs_nat, abs_nat]; rfl, ?_⟩
    have hg0 : 0 < Nat.gcd t.natAbs b.natAbs := gcd_ne hb rfl
    have hgl : Nat.gcd t.natAbs b.natAbs ≤ b.natAbs := gcd_le hb rfl
    have hn : ∀ s : Int, s = (if b < 0 then -((Nat.gcd t.natAbs b.natAbs : Nat) : Int) else ((Nat.gcd t.natAbs b.natAbs : Nat) : Int)) → CDivG t s ∧ CDivG b s ∧ t.fdiv s = (Rat.divInt t b).num ∧ b.fdiv s = ((Rat.divInt t b).den : Int) := fun s e => by
      have h1 : s ≠ 0 := by rw [e]; split <;> omega
      have h2 : s.natAbs = Nat.gcd t.natAbs b.natAbs := by rw [e]; split <;> omega
      have h3 : s.natAbs.log2 < 9000 := log2_lt (by decide) (by rw [h2]; exact Nat.lt_of_le_of_lt hgl hbd)
      exact ⟨⟨h1, h3⟩, ⟨h1, h3⟩, by rw [e]; exact make_num hb rfl, by rw [e]; exact make_den hb rfl⟩
    refine ⟨_, rfl, _, _, rfl, rfl, _, rfl, ?_⟩
    have fin : ∀ s : Int, s = (if b < 0 then -((Nat.gcd t.natAbs b.natAbs : Nat) : Int) else ((Nat.gcd t.natAbs b.natAbs : Nat) : Int)) →
        (tSeq (sFld K (tVar 0) (tOp (rI CDivG fun i j => .int (i.fdiv j)) (tVar 1) (tVar 3)) "own_top") (sFld K (tVar 0) (tOp (rI CDivG fun i j => .int (i.fdiv j)) (tVar 2) (tVar 3)) "own_bottom")) { nx := fun _ H' => Q .non H', rt := Q }
          [some (.ref p), some (.int t), some (.int b), some (.int s)] H := fun s e => by
      obtain ⟨c1, c2, e1, e2⟩ := hn s e
      refine ⟨_, rfl, _, rfl, _, _, rfl, rfl, c1, _, rfl, p, A.c_Number, dx, [], rfl, hp, T.cl_Number, T.n_Number_own_top, (by decide), ?_⟩
      refine ⟨_, rfl, _, rfl, _, _, rfl, rfl, c2, _, rfl, p, A.c_Number, dx, _, rfl, upd_same, T.cl_Number, T.n_Number_own_bottom, (by show 1 < 1000; decide), ?_⟩
      dsimp only
      rw [upd_upd, e1, e2, nf_put]
      exact k
    refine ite2 (fun hlt => ?_) (fun hlt => ?_)
    · refine ⟨_, rfl, _, rfl, ?_⟩
      exact fin _ (by rw [if_pos (of_decide_eq_true hlt)])
    · exact fin _ (by rw [if_neg fun z => hlt (decide_eq_true z)])
/-- Number(t, b), both written -/
theorem b_Number (T : Txt K mg A) : Binds K A.d_Number_init ["self", "top", "bottom"] [] := by
  obtain ⟨ds, r, b⟩ := T.F_Number_init.binds1 (ps := ["self", "top", "bottom"]) 3 1 (by simp) rfl (fun T' kV dc pm an cd ct us its hu hi => by
    match us, hu, its, hi with
    | [u1, u2, u3], _, [i1], _ => exact ⟨_, rfl, rfl⟩)
  cases r
  exact b
end
/-! ### Number's methods -/
/-- Number(t, b) gives a new number -/
theorem made_num {C : Addr} {H : Hp} {x dx : Addr} (q : Rat) (nx : H x = none) (ndx : H dx = none) :
    Same H (upd (upd (upd H dx (.own x)) x (.ins C dx [])) x (.ins C dx (nf q))) ∧ Num C (upd (upd (upd H dx (.own x)) x (.ins C dx [])) x (.ins C dx (nf q))) x q :=
  ⟨same_made nx ndx, dx, upd_same⟩
section
variable {P : Program} {w : World} {K : PySem.W.Frag} {mg : Str → Option Value} {base : Heap} {A : Ad}
theorem ok_Number_top (T : Txt K mg A) : FnOk P w K mg base CX0 1 A.f_Number_top A.d_Number_top ["self"] (getSp A.c_Number "own_top") := by
  refine T.F_Number_top.ok sc_Number_top (fun vs H Q E h => ?_) (fun cdv B outer s H vs Q E hr h => ?_)
  · obtain ⟨a, dx, fs, v, rfl, _⟩ := h
    rfl
  · obtain ⟨a, dx, fs, v, rfl, e, l, k⟩ := h
    exact ⟨_, pss_one (ps_ret (pe_fld (pv 0) rfl)), _, rfl, a, _, dx, fs, v, rfl, e, T.cl_Number, T.n_Number_own_top, l, k⟩
end
section
variable {P : Program} {w : World} {K : PySem.W.Frag} {mg : Str → Option Value} {base : Heap} {A : Ad}
theorem ok_Number_bottom (T : Txt K mg A) : FnOk P w K mg base CX0 1 A.f_Number_bottom A.d_Number_bottom ["self"] (getSp A.c_Number "own_bottom") := by
  refine T.F_Number_bottom.ok sc_Number_bottom (fun vs H Q E h => ?_) (fun cdv B outer s H vs Q E hr h => ?_)
  · obtain ⟨a, dx, fs, v, rfl, _⟩ := h
    rfl
  · obtain ⟨a, dx, fs, v, rfl, e, l, k⟩ := h
    exact ⟨_, pss_one (ps_ret (pe_fld (pv 0) rfl)), _, rfl, a, _, dx, fs, v, rfl, e, T.cl_Number, T.n_Number_own_bottom, l, k⟩
end
section
variable {P : Program} {w : World} {K : PySem.W.Frag} {mg : Str → Option Value} {base : Heap} {A : Ad}
/-- == of two numbers -/
def spNumEq (C : Addr) : Sp := fun vs H Q _ => ∃ (a b : Addr) (p q : Rat), vs = [.ref a, .ref b] ∧ Num C H a p ∧ Num C H b q ∧ Q (.bl (decide (p = q))) H
theorem rat_eq_dec (p q : Rat) : decide (p = q) = (decide (V.int p.num = V.int q.num) && decide (V.int (p.den : Int) = V.int (q.den : Int))) := by
  by_cases h : p = q
  · subst h
    simp
  · rw [decide_eq_false h]
    by_cases h1 : p.num = q.num
    · have h2 : ¬ ((p.den : Int) = (q.den : Int)) := fun e => h (Rat.ext h1 (by omega))
      rw [dint_ne h2, Bool.and_false]
    · rw [dint_ne h1, Bool.false_and]
theorem ok_Number_eq (T : Txt K mg A) : FnOk P w K mg base CX0 1 A.f_Number_eq A.d_Number_eq ["self", "other"] (spNumEq A.c_Number) := by
  refine T.F_Number_eq.ok sc_Number_eq (fun vs H Q E h => ?_) (fun cdv B outer s H vs Q E hr h => ?_)
  · obtain ⟨a, b, p, q, rfl, _⟩ := h
    rfl
  · obtain ⟨a, b, p, q, rfl, ⟨dx, ha⟩, ⟨dy, hb⟩, k⟩ := h
    refine ⟨_, pss_one (ps_ret (pe_and (pe_callB call_isi (by rfl) T.z_isinstance (by decide +kernel) (pa_cons (pv 1) (pa_cons (pe_glob (v := .ref A.c_Number) (by rfl) T.g_Number rfl) pa_nil)))
      (pe_and (pe_cmpR op_eq (pe_fld (pv 0) rfl) (pe_fld (pv 1) rfl) (nomark _)) (pe_one (pe_cmpR op_eq (pe_fld (pv 0) rfl) (pe_fld (pv 1) rfl) (nomark _)))))), ?_⟩
    refine ⟨_, rfl, _, _, _, _, true, rfl, .own _, .base (.ins hb T.cl_Number T.ca_Number T.cn T.ct T.cm_Number), T.kit_NumNum, true, rfl, ?_⟩
    refine iteT ?_
    refine ⟨_, rfl, a, _, dx, _, _, rfl, ha, T.cl_Number, T.n_Number_own_top, nf_top p, _, rfl, b, _, dy, _, _, rfl, hb, T.cl_Number, T.n_Number_own_top, nf_top q, rfl, _, rfl, ?_⟩
    rw [rat_eq_dec] at k
    refine ite2 (fun h1 => ?_) (fun h1 => ?_)
    · rw [h1, Bool.true_and] at k
      exact ⟨_, rfl, a, _, dx, _, _, rfl, ha, T.cl_Number, T.n_Number_own_bottom, nf_bot p, _, rfl, b, _, dy, _, _, rfl, hb, T.cl_Number, T.n_Number_own_bottom, nf_bot q, rfl, k⟩
    · have h2 := Bool.eq_false_iff.mpr h1
      rw [h2, Bool.false_and] at k
      exact k
end
section
variable {P : Program} {w : World} {K : PySem.W.Frag} {mg : Str → Option Value} {base : Heap} {A : Ad}
/-- an operation of two numbers -/
def spNum2 (C : Addr) (f : Rat → Rat → Rat) : Sp := fun vs H Q _ => ∃ (a b : Addr) (p q : Rat), vs = [.ref a, .ref b] ∧ Num C H a p ∧ Num C H b q ∧ Bd 4000 p ∧ Bd 4000 q ∧
  ∀ x H', Same H H' → H x = none → Num C H' x (f p q) → Q (.ref x) H'
theorem bdw {m n : Nat} {i j : Int} (ha : i.natAbs < 2 ^ m) (hb : j.natAbs < 2 ^ n) (h0 : 0 < m := by decide) (h1 : 0 < n := by decide) (h : m + n ≤ 1000000 := by decide) : CMulW i j := wide_mul ha hb h0 h1 h
end
section
variable {P : Program} {w : World} {K : PySem.W.Frag} {mg : Str → Option Value} {base : Heap} {A : Ad}
theorem ok_Number_add (T : Txt K mg A) : FnOk P w K mg base CX0 4 A.f_Number_add A.d_Number_add ["self", "other"] (spNum2 A.c_Number (· + ·)) := by
  refine T.F_Number_add.ok sc_Number_add (fun vs H Q E h => ?_) (fun cdv B outer s H vs Q E hr h => ?_)
  · obtain ⟨a, b, p, q, rfl, _⟩ := h
    rfl
  · obtain ⟨a, b, p, q, rfl, ⟨dx, ha⟩, ⟨dy, hb⟩, bp, bq, k⟩ := h
    refine ⟨_, pss_cons (ps_set (i := 2) sc_Number_add.nd rfl (Or.inl rfl) (pe_op op_add (pe_op op_mulW (pe_fld (pv 0) rfl) (pe_fld (pv 1) rfl)) (pe_op op_mulW (pe_fld (pv 1) rfl) (pe_fld (pv 0) rfl))))
      (pss_one (ps_ret (pe_make T.M_Number (ok_Number_init T) hr rfl T.g_Number (b_Number T) .nil pass0 (pa_cons (pv 2) (pa_cons (pe_op op_mulW (pe_fld (pv 0) rfl) (pe_fld (pv 1) rfl)) pa_nil))))), ?_⟩
    refine ⟨_, rfl, a, _, dx, _, _, rfl, ha, T.cl_Number, T.n_Number_own_top, nf_top p, _, rfl, b, _, dy, _, _, rfl, hb, T.cl_Number, T.n_Number_own_bottom, nf_bot q, _, _, rfl, rfl, bdw bp.1 bq.den', ?_⟩
    refine ⟨_, rfl, b, _, dy, _, _, rfl, hb, T.cl_Number, T.n_Number_own_top, nf_top q, _, rfl, a, _, dx, _, _, rfl, ha, T.cl_Number, T.n_Number_own_bottom, nf_bot p, _, _, rfl, rfl, bdw bq.1 bp.den', _, _, rfl, rfl, ?_⟩
    refine ⟨_, rfl, _, rfl, a, _, dx, _, _, rfl, ha, T.cl_Number, T.n_Number_own_bottom, nf_bot p, _, rfl, b, _, dy, _, _, rfl, hb, T.cl_Number, T.n_Number_own_bottom, nf_bot q, _, _, rfl, rfl, bdw bp.den' bq.den', ?_⟩
    intro x dz nx ndz nex
    refine ⟨x, dz, _, _, rfl, Int.mul_ne_zero (den_ne p) (den_ne q), up_lt (imul_lt bp.den' bq.den') (by decide), upd_same, rfl, ?_⟩
    have e := made_num (C := A.c_Number) (p + q) nx ndz
    rw [← add_eq] at e
    exact k _ _ e.1 nx (by show Num _ _ _ (p + q); rw [← add_eq]; exact e.2)
end
section
variable {P : Program} {w : World} {K : PySem.W.Frag} {mg : Str → Option Value} {base : Heap} {A : Ad}
theorem ok_Number_sub (T : Txt K mg A) : FnOk P w K mg base CX0 4 A.f_Number_sub A.d_Number_sub ["self", "other"] (spNum2 A.c_Number (· - ·)) := by
  refine T.F_Number_sub.ok sc_Number_sub (fun vs H Q E h => ?_) (fun cdv B outer s H vs Q E hr h => ?_)
  · obtain ⟨a, b, p, q, rfl, _⟩ := h
    rfl
  · obtain ⟨a, b, p, q, rfl, ⟨dx, ha⟩, ⟨dy, hb⟩, bp, bq, k⟩ := h
    refine ⟨_, pss_cons (ps_set (i := 2) sc_Number_sub.nd rfl (Or.inl rfl) (pe_op op_sub (pe_op op_mulW (pe_fld (pv 0) rfl) (pe_fld (pv 1) rfl)) (pe_op op_mulW (pe_fld (pv 1) rfl) (pe_fld (pv 0) rfl))))
      (pss_one (ps_ret (pe_make T.M_Number (ok_Number_init T) hr rfl T.g_Number (b_Number T) .nil pass0 (pa_cons (pv 2) (pa_cons (pe_op op_mulW (pe_fld (pv 0) rfl) (pe_fld (pv 1) rfl)) pa_nil))))), ?_⟩
    refine ⟨_, rfl, a, _, dx, _, _, rfl, ha, T.cl_Number, T.n_Number_own_top, nf_top p, _, rfl, b, _, dy, _, _, rfl, hb, T.cl_Number, T.n_Number_own_bottom, nf_bot q, _, _, rfl, rfl, bdw bp.1 bq.den', ?_⟩
    refine ⟨_, rfl, b, _, dy, _, _, rfl, hb, T.cl_Number, T.n_Number_own_top, nf_top q, _, rfl, a, _, dx, _, _, rfl, ha, T.cl_Number, T.n_Number_own_bottom, nf_bot p, _, _, rfl, rfl, bdw bq.1 bp.den', _, _, rfl, rfl, ?_⟩
    refine ⟨_, rfl, _, rfl, a, _, dx, _, _, rfl, ha, T.cl_Number, T.n_Number_own_bottom, nf_bot p, _, rfl, b, _, dy, _, _, rfl, hb, T.cl_Number, T.n_Number_own_bottom, nf_bot q, _, _, rfl, rfl, bdw bp.den' bq.den', ?_⟩
    intro x dz nx ndz nex
    refine ⟨x, dz, _, _, rfl, Int.mul_ne_zero (den_ne p) (den_ne q), up_lt (imul_lt bp.den' bq.den') (by decide), upd_same, rfl, ?_⟩
    have e := made_num (C := A.c_Number) (p - q) nx ndz
    rw [← sub_eq] at e
    exact k _ _ e.1 nx (by show Num _ _ _ (p - q); rw [← sub_eq]; exact e.2)
end
section
variable {P : Program} {w : World} {K : PySem.W.Frag} {mg : Str → Option Value} {base : Heap} {A : Ad}
theorem ok_Number_mul (T : Txt K mg A) : FnOk P w K mg base CX0 4 A.f_Number_mul A.d_Number_mul ["self", "other"] (spNum2 A.c_Number (· * ·)) := by
  refine T.F_Number_mul.ok sc_Number_mul (fun vs H Q E h => ?_) (fun cdv B outer s H vs Q E hr h => ?_)
  · obtain ⟨a, b, p, q, rfl, _⟩ := h
    rfl
  · obtain ⟨a, b, p, q, rfl, ⟨dx, ha⟩, ⟨dy, hb⟩, bp, bq, k⟩ := h
    refine ⟨_, pss_one (ps_ret (pe_make T.M_Number (ok_Number_init T) hr rfl T.g_Number (b_Number T) .nil pass0 (pa_cons (pe_op op_mulW (pe_fld (pv 0) rfl) (pe_fld (pv 1) rfl)) (pa_cons (pe_op op_mulW (pe_fld (pv 0) rfl) (pe_fld (pv 1) rfl)) pa_nil)))), ?_⟩
    refine ⟨_, rfl, a, _, dx, _, _, rfl, ha, T.cl_Number, T.n_Number_own_top, nf_top p, _, rfl, b, _, dy, _, _, rfl, hb, T.cl_Number, T.n_Number_own_top, nf_top q, _, _, rfl, rfl, bdw bp.1 bq.1, ?_⟩
    refine ⟨_, rfl, a, _, dx, _, _, rfl, ha, T.cl_Number, T.n_Number_own_bottom, nf_bot p, _, rfl, b, _, dy, _, _, rfl, hb, T.cl_Number, T.n_Number_own_bottom, nf_bot q, _, _, rfl, rfl, bdw bp.den' bq.den', ?_⟩
    intro x dz nx ndz nex
    refine ⟨x, dz, _, _, rfl, Int.mul_ne_zero (den_ne p) (den_ne q), up_lt (imul_lt bp.den' bq.den') (by decide), upd_same, rfl, ?_⟩
    have e := made_num (C := A.c_Number) (p * q) nx ndz
    rw [← mul_eq] at e
    exact k _ _ e.1 nx (by show Num _ _ _ (p * q); rw [← mul_eq]; exact e.2)
end
/-! ### Number: -x, abs, bool, is_less; Number(t) -/
def rabs (q : Rat) : Rat := if q < 0 then -q else q
theorem Bd.rabs {n : Nat} {q : Rat} (h : Bd n q) : Bd n (rabs q) := by
  unfold Q.rabs
  split
  · exact h.neg
  · exact h
theorem num_neg_iff (q : Rat) : q.num < 0 ↔ q < 0 := by
  have h := Rat.num_nonneg (q := q)
  have h2 : q < 0 ↔ ¬ 0 ≤ q := (Rat.not_le).symm
  rw [h2, ← h]
  omega
theorem abs_eq (q : Rat) : Rat.divInt (if q.num < 0 then -q.num else q.num) q.den = rabs q := by
  unfold rabs
  by_cases h : q < 0
  · rw [if_pos h, if_pos ((num_neg_iff q).mpr h), neg_eq]
  · rw [if_neg h, if_neg fun z => h ((num_neg_iff q).mp z), Rat.num_divInt_den]
theorem rabs_neg (q : Rat) : rabs (-q) = rabs q := by
  unfold rabs
  split <;> split <;> grind
theorem less_eq (p q : Rat) : decide (p.num * (q.den : Int) < q.num * (p.den : Int)) = decide (p < q) := decide_eq_decide.mpr (Rat.lt_iff p q).symm
theorem truth_eq (q : Rat) : (q.num != 0) = !decide (q = 0) := by
  by_cases h : q = 0
  · subst h
    rfl
  · rw [decide_eq_false h]
    simpa using num_ne h
section
variable {P : Program} {w : World} {K : PySem.W.Frag} {mg : Str → Option Value} {base : Heap} {A : Ad}
/-- an operation of one number -/
def spNum1 (C : Addr) (f : Rat → Rat) : Sp := fun vs H Q _ => ∃ (a : Addr) (p : Rat), vs = [.ref a] ∧ Num C H a p ∧ Bd 8000 p ∧ ∀ x H', Same H H' → H x = none → Num C H' x (f p) → Q (.ref x) H'
theorem ok_Number_neg (T : Txt K mg A) : FnOk P w K mg base CX0 4 A.f_Number_neg A.d_Number_neg ["self"] (spNum1 A.c_Number (- ·)) := by
  refine T.F_Number_neg.ok sc_Number_neg (fun vs H Q E h => ?_) (fun cdv B outer s H vs Q E hr h => ?_)
  · obtain ⟨a, p, rfl, _⟩ := h
    rfl
  · obtain ⟨a, p, rfl, ⟨dx, ha⟩, bp, k⟩ := h
    refine ⟨_, pss_one (ps_ret (pe_make T.M_Number (ok_Number_init T) hr rfl T.g_Number (b_Number T) .nil pass0 (pa_cons (pe_un un_neg (pe_fld (pv 0) rfl)) (pa_cons (pe_fld (pv 0) rfl) pa_nil)))), ?_⟩
    refine ⟨_, rfl, a, _, dx, _, _, rfl, ha, T.cl_Number, T.n_Number_own_top, nf_top p, _, rfl, _, rfl, a, _, dx, _, _, rfl, ha, T.cl_Number, T.n_Number_own_bottom, nf_bot p, ?_⟩
    intro x dz nx ndz nex
    refine ⟨x, dz, _, _, rfl, den_ne p, up_lt bp.den' (by decide), upd_same, rfl, ?_⟩
    have e := made_num (C := A.c_Number) (-p) nx ndz
    rw [← neg_eq] at e
    exact k _ _ e.1 nx (by show Num _ _ _ (-p); rw [← neg_eq]; exact e.2)
theorem ok_Number_abs (T : Txt K mg A) : FnOk P w K mg base CX0 4 A.f_Number_abs A.d_Number_abs ["self"] (spNum1 A.c_Number rabs) := by
  refine T.F_Number_abs.ok sc_Number_abs (fun vs H Q E h => ?_) (fun cdv B outer s H vs Q E hr h => ?_)
  · obtain ⟨a, p, rfl, _⟩ := h
    rfl
  · obtain ⟨a, p, rfl, ⟨dx, ha⟩, bp, k⟩ := h
    refine ⟨_, pss_one (ps_ret (pe_make T.M_Number (ok_Number_init T) hr rfl T.g_Number (b_Number T) .nil pass0 (pa_cons (pe_callB call_abs (by rfl) T.z_abs (by decide +kernel) (pa_cons (pe_fld (pv 0) rfl) pa_nil)) (pa_cons (pe_fld (pv 0) rfl) pa_nil)))), ?_⟩
    refine ⟨_, rfl, a, _, dx, _, _, rfl, ha, T.cl_Number, T.n_Number_own_top, nf_top p, _, rfl, _, rfl, a, _, dx, _, _, rfl, ha, T.cl_Number, T.n_Number_own_bottom, nf_bot p, ?_⟩
    intro x dz nx ndz nex
    refine ⟨x, dz, _, _, rfl, den_ne p, up_lt bp.den' (by decide), upd_same, rfl, ?_⟩
    have e := made_num (C := A.c_Number) (rabs p) nx ndz
    rw [← abs_eq] at e
    exact k _ _ e.1 nx (by rw [← abs_eq]; exact e.2)
def spNumBool (C : Addr) : Sp := fun vs H Q _ => ∃ (a : Addr) (p : Rat), vs = [.ref a] ∧ Num C H a p ∧ Q (.bl (!decide (p = 0))) H
theorem ok_Number_bool (T : Txt K mg A) : FnOk P w K mg base CX0 1 A.f_Number_bool A.d_Number_bool ["self"] (spNumBool A.c_Number) := by
  refine T.F_Number_bool.ok sc_Number_bool (fun vs H Q E h => ?_) (fun cdv B outer s H vs Q E hr h => ?_)
  · obtain ⟨a, p, rfl, _⟩ := h
    rfl
  · obtain ⟨a, p, rfl, ⟨dx, ha⟩, k⟩ := h
    refine ⟨_, pss_one (ps_ret (pe_callTy call_bool1 (by rfl) T.z_bool (by decide +kernel) (pa_cons (pe_fld (pv 0) rfl) pa_nil))), ?_⟩
    refine ⟨_, rfl, a, _, dx, _, _, rfl, ha, T.cl_Number, T.n_Number_own_top, nf_top p, Or.inl ⟨_, rfl, ?_⟩⟩
    rw [truth_eq]
    exact k
def spNumLess (C : Addr) : Sp := fun vs H Q _ => ∃ (a b : Addr) (p q : Rat), vs = [.ref a, .ref b] ∧ Num C H a p ∧ Num C H b q ∧ Bd 8000 p ∧ Bd 8000 q ∧ Q (.bl (decide (p < q))) H
theorem ok_Number_is_less (T : Txt K mg A) : FnOk P w K mg base CX0 1 A.f_Number_is_less A.d_Number_is_less ["self", "other"] (spNumLess A.c_Number) := by
  refine T.F_Number_is_less.ok sc_Number_is_less (fun vs H Q E h => ?_) (fun cdv B outer s H vs Q E hr h => ?_)
  · obtain ⟨a, b, p, q, rfl, _⟩ := h
    rfl
  · obtain ⟨a, b, p, q, rfl, ⟨dx, ha⟩, ⟨dy, hb⟩, bp, bq, k⟩ := h
    refine ⟨_, pss_one (ps_ret (pe_cmpR op_lt (pe_op op_mulW (pe_fld (pv 0) rfl) (pe_fld (pv 1) rfl)) (pe_op op_mulW (pe_fld (pv 1) rfl) (pe_fld (pv 0) rfl)) (nomark _))), ?_⟩
    refine ⟨_, rfl, a, _, dx, _, _, rfl, ha, T.cl_Number, T.n_Number_own_top, nf_top p, _, rfl, b, _, dy, _, _, rfl, hb, T.cl_Number, T.n_Number_own_bottom, nf_bot q, _, _, rfl, rfl, bdw bp.1 bq.den', ?_⟩
    refine ⟨_, rfl, b, _, dy, _, _, rfl, hb, T.cl_Number, T.n_Number_own_top, nf_top q, _, rfl, a, _, dx, _, _, rfl, ha, T.cl_Number, T.n_Number_own_bottom, nf_bot p, _, _, rfl, rfl, bdw bq.1 bp.den', _, _, rfl, rfl, ?_⟩
    show Q (.bl (decide (_ < _))) H
    rw [less_eq]
    exact k
/-- Number(t) -/
theorem b1_Number (T : Txt K mg A) : ∃ ds, Vals [V.int 1] ds ∧ Binds K A.d_Number_init ["self", "top", "bottom"] ds := by
  obtain ⟨ds, r, b⟩ := T.F_Number_init.binds1 (ps := ["self", "top", "bottom"]) 2 0 (by simp) rfl (fun T' kV dc pm an cd ct us its hu hi => by
    match us, hu, its, hi with
    | [u1, u2], _, [i1], _ => exact ⟨_, rfl, rfl⟩)
  exact ⟨ds, r, b⟩
end
/-! ### draws -/
/-- a pot at p, of which n numbers at most were drawn behind its own digits -/
def Pot (H : Hp) (p : Addr) (n : Nat) : Prop := ∃ own mix c : Int, H p = some (.lst [.int own, .int mix, .int c]) ∧ 0 ≤ own ∧ 0 ≤ mix ∧ mix < 2305843009213693921 ∧ 0 ≤ c ∧ c ≤ n
theorem Pot.mono {H : Hp} {p : Addr} {m n : Nat} (h : Pot H p m) (l : m ≤ n) : Pot H p n := by
  obtain ⟨own, mix, c, e, h1, h2, h3, h4, h5⟩ := h
  exact ⟨own, mix, c, e, h1, h2, h3, h4, by omega⟩
theorem Pot.same {H H' : Hp} {p : Addr} {n : Nat} (h : Pot H p n) (s : Same H H') : Pot H' p n := by
  obtain ⟨own, mix, c, e, h⟩ := h
  exact ⟨own, mix, c, s _ _ e, h⟩
/-- all but what stands at p is as it was -/
def SameBut (p : Addr) (H H' : Hp) : Prop := ∀ b o, H b = some o → b ≠ p → H' b = some o
theorem SameBut.refl (p : Addr) (H : Hp) : SameBut p H H := fun _ _ e _ => e
theorem SameBut.trans {p : Addr} {H H1 H2 : Hp} (a : SameBut p H H1) (b : SameBut p H1 H2) : SameBut p H H2 := fun c o e n => b c o (a c o e n) n
theorem SameBut.same {p : Addr} {H H1 H2 : Hp} (a : SameBut p H H1) (b : Same H1 H2) : SameBut p H H2 := fun c o e n => b c o (a c o e n)
theorem Same.but {H H1 : Hp} (p : Addr) (b : Same H H1) : SameBut p H H1 := fun c o e _ => b c o e
theorem but_upd {p : Addr} {H : Hp} {o : HO} : SameBut p H (upd H p o) := fun c u e n => by rw [upd_ne n]; exact e
theorem Num.but {C p : Addr} {H H' : Hp} {a : Addr} {q : Rat} (h : Num C H a q) (s : SameBut p H H') (hp : ∃ xs, H p = some (.lst xs)) : Num C H' a q := by
  obtain ⟨dx, e⟩ := h
  obtain ⟨xs, ep⟩ := hp
  exact ⟨dx, s _ _ e (ne_of e ep (by intro z; cases z))⟩
theorem tup_but {p a : Addr} {H H' : Hp} {ys : List V} (h : H a = some (.tup ys)) (s : SameBut p H H') (hp : ∃ xs, H p = some (.lst xs)) : H' a = some (.tup ys) := by
  obtain ⟨xs, ep⟩ := hp
  exact s _ _ h (ne_of h ep (by intro z; cases z))
theorem Pot.lst {H : Hp} {p : Addr} {n : Nat} (h : Pot H p n) : ∃ xs, H p = some (.lst xs) := by
  obtain ⟨own, mix, c, e, _⟩ := h
  exact ⟨_, e⟩
theorem prime_at (c : Int) (h : 0 ≤ c) : ∃ q : Int, atI [V.int 2147483647, V.int 2147483629, V.int 2147483587, V.int 2147483579, V.int 2147483563] (c % 5) = some (.int q) ∧ 0 < q ∧ q < 2 ^ 32 := by
  have h1 := Int.emod_nonneg c (show (5 : Int) ≠ 0 by decide)
  have h2 := Int.emod_lt_of_pos c (show (0 : Int) < 5 by decide)
  have h3 : c % 5 = 0 ∨ c % 5 = 1 ∨ c % 5 = 2 ∨ c % 5 = 3 ∨ c % 5 = 4 := by omega
  rcases h3 with e | e | e | e | e <;> rw [e]
  · exact ⟨_, rfl, by decide, by decide⟩
  · exact ⟨_, rfl, by decide, by decide⟩
  · exact ⟨_, rfl, by decide, by decide⟩
  · exact ⟨_, rfl, by decide, by decide⟩
  · exact ⟨_, rfl, by decide, by decide⟩
theorem at_mem {α : Type} {xs : List α} {i : Int} (h0 : 0 ≤ i) (h1 : i < xs.length) : ∃ v, atI xs i = some v ∧ v ∈ xs := by
  have hl : i.toNat < xs.length := by omega
  have e : ((i.toNat : Nat) : Int) = i := by omega
  have h := atI_nat (xs := xs) (j := i.toNat) (v := xs[i.toNat]) (by simp [hl])
  rw [e] at h
  exact ⟨_, h, List.getElem_mem hl⟩
theorem bit_lt (c : Bool) : -(2 ^ 64) < (if c = true then (1 : Int) else 0) ∧ (if c = true then (1 : Int) else 0) < 2 ^ 64 := by cases c <;> decide
theorem bit_nn (c : Bool) : 0 ≤ (if c = true then (1 : Int) else 0) := by cases c <;> decide
/-- the answer is an int, whichever way -/
theorem with_int {Q : VK} {te : TE} {σ : L2.St} {H : Hp} (h : (∀ i : Int, Q (.int i) H) → te σ H Q) (hq : ∀ i : Int, Q (.int i) H) : te σ H Q := h hq
theorem SameBut.free {p x : Addr} {H H' : Hp} (a : SameBut p H H') (hp : ∃ xs, H p = some (.lst xs)) (hq : ∃ xs, H' p = some (.lst xs)) (h : H' x = none) : H x = none := by
  cases e : H x with
  | none => rfl
  | some o =>
    by_cases n : x = p
    · obtain ⟨xs, ex⟩ := hq
      rw [n, ex] at h
      cases h
    · rw [a x o e n] at h
      cases h
section
variable {P : Program} {w : World} {K : PySem.W.Frag} {mg : Str → Option Value} {base : Heap} {A : Ad}
/-- _law_pot(script, k) -/
def spPot (K : PySem.W.Frag) : Sp := fun vs H Q _ => ∃ (a : Addr) (ns : List Int) (k : Int), vs = [.ref a, .int k] ∧ SqL K H a (ns.map V.int) ∧ 0 ≤ k ∧ k ≤ 100 ∧ ∀ p H', Same H H' → H p = none → Pot H' p 0 → Q (.ref p) H'
theorem ok_law_pot (T : Txt K mg A) : FnOk P w K mg base CX0 1 A.f_law_pot A.d_law_pot ["script", "k"] (spPot K) := by
  refine T.F_law_pot.ok sc_law_pot (fun vs H Q E h => ?_) (fun cdv B outer s H vs Q E hr h => ?_)
  · obtain ⟨a, ns, k, rfl, _⟩ := h
    rfl
  · obtain ⟨a, ns, k, rfl, hS, k0, k1, kq⟩ := h
    refine ⟨_, pss_cons (ps_set (i := 2) sc_law_pot.nd rfl (Or.inl rfl) (pe_ifExp (pt_cmpR op_lt (pv 1) (pe_callB call_len_seq (by rfl) T.z_len (by decide +kernel) (pa_cons (pv 0) pa_nil)) (nomark _))
        (pe_callTy call_int1 (by rfl) T.z_int (by decide +kernel) (pa_cons (pe_ix ix_list (pv 0) (pv 1) (fun _ _ => rfl)) pa_nil)) (pe_op op_add (pe_op op_mul pe_int (pv 1)) pe_int)))
      (pss_cons (ps_set (i := 3) sc_law_pot.nd rfl (Or.inl rfl) (pe_op op_mul (pe_op op_mod (pe_callTy call_int1 (by rfl) T.z_int (by decide +kernel) (pa_cons (pe_callB call_abs (by rfl) T.z_abs (by decide +kernel) (pa_cons (pv 2) pa_nil)) pa_nil))
          (pe_op op_powW (pe_op op_powW pe_int pe_int) pe_int)) (pe_callTy call_int1 (by rfl) T.z_int (by decide +kernel) (pa_cons (pe_cmpR op_ge (pe_callB call_abs (by rfl) T.z_abs (by decide +kernel) (pa_cons (pv 2) pa_nil)) (pe_op op_powW pe_int pe_int) (nomark _)) pa_nil))))
      (pss_one (ps_ret (pe_lst (pa_cons (pv 3) (pa_cons (pe_op op_mod (pe_callTy call_int1 (by rfl) T.z_int (by decide +kernel) (pa_cons (pe_op op_add (pe_op op_add (pe_op op_mul (pe_op op_mod (pe_callTy call_int1 (by rfl) T.z_int (by decide +kernel) (pa_cons (pv 2) pa_nil)) pe_int) pe_int)
          (pe_op op_mul (pe_op op_mul pe_int (pv 1)) (pv 1))) pe_int) pa_nil)) pe_int) (pa_cons pe_int pa_nil))))))), ?_⟩
    refine with_int (fun rest => ?_) (fun cell => ?_)
    · refine ⟨_, rfl, _, rfl, a, _, rfl, Or.inl hS, _, _, rfl, rfl, _, rfl, ?_⟩
      refine ite2 (fun e => ?_) (fun e => ?_)
      · have hk := of_decide_eq_true e
        have hk' : k < (ns.map V.int).length := hk
        obtain ⟨v, hv, hm⟩ := at_mem (xs := ns.map V.int) k0 hk'
        obtain ⟨n, _, rfl⟩ := List.mem_map.mp hm
        exact ⟨_, rfl, _, rfl, a, _, _, _, rfl, rfl, hS, hv, Or.inl ⟨n, rfl, rest n⟩⟩
      · exact ⟨_, rfl, _, _, rfl, rfl, Or.inl (by decide), _, _, rfl, rfl, rest _⟩
    · refine ⟨_, rfl, _, rfl, Or.inl ⟨_, rfl, _, _, rfl, rfl, ⟨by decide, by decide⟩, _, _, rfl, rfl, ⟨by decide, by decide +kernel⟩, _, _, rfl, rfl, Int.pow_pos (Int.pow_pos (by decide)), ?_⟩⟩
      refine ⟨_, rfl, _, rfl, _, _, rfl, rfl, ⟨by decide, by decide⟩, _, _, rfl, rfl, Or.inr ⟨_, rfl, _, _, rfl, rfl, Or.inr (bit_lt _), ?_⟩⟩
      refine ⟨_, rfl, _, rfl, Or.inl ⟨_, rfl, _, _, rfl, rfl, (by show (0 : Int) < 2305843009213693951; decide), _, _, rfl, rfl, Or.inr (by decide), _, rfl, _, _, rfl, rfl, Or.inl (by decide), _, rfl, _, _, rfl, rfl, Or.inr ⟨by omega, by omega⟩, _, _, rfl, rfl, _, _, rfl, rfl, Or.inl ⟨_, rfl, _, _, rfl, rfl, (by show (0 : Int) < 2305843009213693921; decide), ?_⟩⟩⟩
      refine ⟨by show 3 ≤ sizeLine; decide, fun p hp => ?_⟩
      refine kq p _ (same_new hp) hp ⟨_, _, _, upd_same, ?_, Int.emod_nonneg _ (by decide), Int.emod_lt_of_pos _ (by decide), Int.le_refl _, by decide⟩
      exact Int.mul_nonneg (Int.emod_nonneg _ (Int.ne_of_gt (Int.pow_pos (Int.pow_pos (by decide))))) (bit_nn _)
end
section
variable {P : Program} {w : World} {K : PySem.W.Frag} {mg : Str → Option Value} {base : Heap} {A : Ad}
/-- _law_take(pot, upto): some number from 0 to upto - 1 -/
def spTake : Sp := fun vs H Q _ => ∃ (p : Addr) (u : Int) (n : Nat), vs = [.ref p, .int u] ∧ 0 < u ∧ u.natAbs < 2 ^ 9000 ∧ Pot H p n ∧ n ≤ 100000 ∧ ∀ r H', 0 ≤ r → r < u → Pot H' p (n + 1) → SameBut p H H' → Q (.int r) H'
theorem ok_law_take (T : Txt K mg A) : FnOk P w K mg base CX0 1 A.f_law_take A.d_law_take ["pot", "upto"] spTake := by
  refine T.F_law_take.ok sc_law_take (fun vs H Q E h => ?_) (fun cdv B outer s H vs Q E hr h => ?_)
  · obtain ⟨p, u, n, rfl, _⟩ := h
    rfl
  · obtain ⟨p, u, n, rfl, u0, u1, ⟨own, mix, c, hp, o0, m0, m1, c0, c1⟩, hn, k⟩ := h
    refine ⟨_, pss_cons (ps_if (pt_cmpR op_gt (pe_ix ix_list (pv 0) pe_int (fun _ _ => rfl)) pe_int (nomark _))
        (pss_cons (ps_set (i := 2) sc_law_take.nd rfl (Or.inl rfl) (pe_op op_mod (pe_callTy call_int1 (by rfl) T.z_int (by decide +kernel) (pa_cons (pe_ix ix_list (pv 0) pe_int (fun _ _ => rfl)) pa_nil)) (pv 1)))
        (pss_cons (ps_asg (pe_op op_fdivG (pe_ix ix_list (pv 0) pe_int (fun _ _ => rfl)) (pv 1)) (pg_sub (pv 0) pe_int set_list))
        (pss_one (ps_ret (pv 2))))) pss_nil)
      (pss_cons (ps_asg (pe_op op_add (pe_ix ix_list (pv 0) pe_int (fun _ _ => rfl)) pe_int) (pg_sub (pv 0) pe_int set_list))
      (pss_cons (ps_set (i := 3) sc_law_take.nd rfl (Or.inl rfl) (pe_ix ix_list (pe_lst (pa_cons pe_int (pa_cons pe_int (pa_cons pe_int (pa_cons pe_int (pa_cons pe_int pa_nil))))))
          (pe_op op_mod (pe_callTy call_int1 (by rfl) T.z_int (by decide +kernel) (pa_cons (pe_ix ix_list (pv 0) pe_int (fun _ _ => rfl)) pa_nil)) pe_int) (fun _ _ => rfl)))
      (pss_cons (ps_set (i := 4) sc_law_take.nd rfl (Or.inl rfl) (pe_op op_mod (pe_callTy call_int1 (by rfl) T.z_int (by decide +kernel) (pa_cons (pe_op op_pow (pe_op op_add (pe_op op_add (pe_ix ix_list (pv 0) pe_int (fun _ _ => rfl))
          (pe_op op_mul (pe_op op_mul pe_int (pe_ix ix_list (pv 0) pe_int (fun _ _ => rfl))) (pe_ix ix_list (pv 0) pe_int (fun _ _ => rfl)))) pe_int) pe_int) pa_nil)) (pv 3)))
      (pss_one (ps_ret (pe_op op_mod (pe_callTy call_int1 (by rfl) T.z_int (by decide +kernel) (pa_cons (pe_op op_fdiv (pe_op op_mul (pv 4) (pe_op op_add (pe_op op_mod (pe_callTy call_int1 (by rfl) T.z_int (by decide +kernel) (pa_cons (pv 4) pa_nil)) pe_int)
          (pe_op op_mul pe_int (pe_ix ix_list (pv 0) pe_int (fun _ _ => rfl))))) pe_int) pa_nil)) (pv 1))))))), ?_⟩
    refine ⟨_, rfl, p, _, _, _, rfl, rfl, SqL.of hp, rfl, _, _, rfl, rfl, _, rfl, ?_⟩
    refine ite2 (fun e => ?_) (fun e => ?_)
    · have ho : 0 < own := of_decide_eq_true e
      refine ⟨_, rfl, p, _, _, _, rfl, rfl, SqL.of hp, rfl, Or.inl ⟨_, rfl, _, rfl, _, _, rfl, rfl, u0, ?_⟩⟩
      refine ⟨_, rfl, p, _, _, _, rfl, rfl, SqL.of hp, rfl, _, rfl, _, _, rfl, rfl, ⟨by omega, log2_lt (by decide) u1⟩, _, rfl, ?_⟩
      refine ⟨p, _, _, 0, rfl, rfl, hp, rfl, _, rfl, ?_⟩
      refine k _ _ (Int.emod_nonneg _ (by omega)) (Int.emod_lt_of_pos _ u0) ⟨_, _, _, upd_same, ?_, m0, m1, c0, by omega⟩ but_upd
      rw [Int.fdiv_eq_ediv_of_nonneg _ (by omega)]
      exact Int.ediv_nonneg o0 (by omega)
    · refine ⟨_, rfl, p, _, _, _, rfl, rfl, SqL.of hp, rfl, _, _, rfl, rfl, _, rfl, p, _, _, 2, rfl, rfl, hp, rfl, ?_⟩
      refine ⟨by show 5 ≤ sizeLine; decide, fun l hl => ?_⟩
      have npl : p ≠ l := ne_of_none upd_same hl
      have hp1 : ∀ {o : HO}, (upd (upd H p (.lst [.int own, .int mix, .int (c + 1)])) l o) p = some (.lst [.int own, .int mix, .int (c + 1)]) := by
        intro o
        rw [upd_ne npl]
        exact upd_same
      obtain ⟨pr, e1, e2, e3⟩ := prime_at (c + 1) (by omega)
      refine ⟨_, rfl, p, _, _, _, rfl, rfl, SqL.of hp1, rfl, Or.inl ⟨_, rfl, _, _, rfl, rfl, (by show (0 : Int) < 5; decide), l, _, _, _, rfl, rfl, SqL.of upd_same, e1, ?_⟩⟩
      have hc : (c + 1) * (c + 1) ≤ 100001 * 100001 := Int.mul_le_mul (by omega) (by omega) (by omega) (by decide)
      have hc' : 0 ≤ (c + 1) * (c + 1) := Int.mul_nonneg (by omega) (by omega)
      have hcc : 99961 * (c + 1) * (c + 1) = 99961 * ((c + 1) * (c + 1)) := Int.mul_assoc _ _ _
      refine ⟨_, rfl, p, _, _, _, rfl, rfl, SqL.of hp1, rfl, _, rfl, p, _, _, _, rfl, rfl, SqL.of hp1, rfl, _, _, rfl, rfl, Or.inl (by decide), _, rfl, p, _, _, _, rfl, rfl, SqL.of hp1, rfl, _, _, rfl, rfl, Or.inr ⟨by omega, by omega⟩, _, _, rfl, rfl, _, _, rfl, rfl,
        _, _, rfl, rfl, ⟨by decide, by decide, by omega⟩, Or.inl ⟨_, rfl, _, rfl, _, _, rfl, rfl, e2, ?_⟩⟩
      have n0 := Int.emod_nonneg (((mix + 99961 * (c + 1) * (c + 1) + 47) ^ (3 : Int).toNat)) (show pr ≠ 0 by omega)
      have n1 := Int.emod_lt_of_pos (((mix + 99961 * (c + 1) * (c + 1) + 47) ^ (3 : Int).toNat)) e2
      refine ⟨_, rfl, _, rfl, Or.inl ⟨_, rfl, _, _, rfl, rfl, (by show (0 : Int) < 10009; decide), _, rfl, p, _, _, _, rfl, rfl, SqL.of hp1, rfl, _, _, rfl, rfl, Or.inl (by decide), _, _, rfl, rfl, _, _, rfl, rfl, Or.inl ⟨by omega, by omega⟩, _, _, rfl, rfl, ⟨by decide, by decide⟩,
        Or.inl ⟨_, rfl, _, rfl, _, _, rfl, rfl, u0, ?_⟩⟩⟩
      refine k _ _ (Int.emod_nonneg _ (by omega)) (Int.emod_lt_of_pos _ u0) ⟨_, _, _, hp1, o0, m0, m1, by omega, by omega⟩ fun b o eb nb => ?_
      have hb2 : (upd H p (.lst [.int own, .int mix, .int (c + 1)])) b = some o := by rw [upd_ne nb]; exact eb
      rw [upd_ne (ne_of_none hb2 hl)]
      exact hb2
end
section
variable {P : Program} {w : World} {K : PySem.W.Frag} {mg : Str → Option Value} {base : Heap} {A : Ad}
/-- _law_of(pot, some): one of a list's items -/
def spOf : Sp := fun vs H Q _ => ∃ (p l : Addr) (xs : List V) (n : Nat), vs = [.ref p, .ref l] ∧ H l = some (.lst xs) ∧ l ≠ p ∧ xs ≠ [] ∧ xs.length ≤ 1000 ∧ Pot H p n ∧ n ≤ 100000 ∧ ∀ v H', v ∈ xs → Pot H' p (n + 1) → SameBut p H H' → Q v H'
theorem ok_law_of (T : Txt K mg A) : FnOk P w K mg base CX0 2 A.f_law_of A.d_law_of ["pot", "some"] spOf := by
  refine T.F_law_of.ok sc_law_of (fun vs H Q E h => ?_) (fun cdv B outer s H vs Q E hr h => ?_)
  · obtain ⟨p, l, xs, n, rfl, _⟩ := h
    rfl
  · obtain ⟨p, l, xs, n, rfl, hl, nlp, ne, hlen, hP, hn, k⟩ := h
    refine ⟨_, pss_one (ps_ret (pe_ix ix_list (pv 1) (pe_call (ok_law_take T) hr rfl T.g_law_take T.F_law_take.kp T.b_law_take .nil pass0 (pa_cons (pv 0) (pa_cons (pe_callB call_len_seq (by rfl) T.z_len (by decide +kernel) (pa_cons (pv 1) pa_nil)) pa_nil))) (fun _ _ => rfl))), ?_⟩
    have h0 : 0 < xs.length := List.length_pos_iff.mpr ne
    refine ⟨_, rfl, _, rfl, _, rfl, l, _, rfl, Or.inl (SqL.of hl), p, _, n, rfl, (by omega), ?_, hP, hn, fun r H' r0 r1 hP' sb => ?_⟩
    · have : ((xs.length : Int)).natAbs < 2 ^ 10 := by omega
      exact up_lt this (by decide)
    · obtain ⟨v, hv, hm⟩ := at_mem r0 r1
      exact ⟨l, _, _, _, rfl, rfl, SqL.of (sb _ _ hl nlp), hv, k v H' hm hP' sb⟩
end
/-! ### the law's own fractions -/
/-- a pair of ints at r -/
structure Pr (H : Hp) (r : Addr) (t b : Int) (n : Nat) : Prop where
  at_ : H r = some (.tup [.int t, .int b])
  lt : t.natAbs < 2 ^ n
  pos : 0 < b
  lb : b.natAbs < 2 ^ n
theorem Pr.but {p r : Addr} {H H' : Hp} {t b : Int} {n : Nat} (h : Pr H r t b n) (s : SameBut p H H') (hp : ∃ xs, H p = some (.lst xs)) : Pr H' r t b n := ⟨tup_but h.at_ s hp, h.lt, h.pos, h.lb⟩
theorem Pr.same {r : Addr} {H H' : Hp} {t b : Int} {n : Nat} (h : Pr H r t b n) (s : Same H H') : Pr H' r t b n := ⟨s _ _ h.at_, h.lt, h.pos, h.lb⟩
theorem Pr.bd {r : Addr} {H : Hp} {t b : Int} {n : Nat} (h : Pr H r t b n) : Bd n (Rat.divInt t b) := Bd.mk' (Int.ne_of_gt h.pos) h.lt h.lb
def BI (n : Nat) (v : V) : Prop := ∃ t : Int, v = .int t ∧ t.natAbs < 2 ^ n
def BP (n : Nat) (v : V) : Prop := ∃ t : Int, v = .int t ∧ 0 < t ∧ t.natAbs < 2 ^ n
/-! ### one turn of the law -/
theorem same_mut {H0 H : Hp} {D : Addr} {o : HO} (s : Same H0 H) (h : H0 D = none) : Same H0 (upd H D o) := fun b u e => by
  rw [upd_ne (ne_of_none e h)]
  exact s b u e
theorem Num.upl {C D a : Addr} {H : Hp} {q : Rat} {xs : List V} {o : HO} (h : Num C H a q) (hD : H D = some (.lst xs)) : Num C (upd H D o) a q := h.but but_upd ⟨_, hD⟩
theorem memq {α : Type} {xs : List α} {i : Nat} {v : α} {R : α → Prop} (h : xs[i]? = some v) (hR : ∀ x ∈ xs, R x) : R v := hR v (List.mem_of_getElem? h)
theorem yes_of {σ : L2.St} {H : Hp} {Q : Bool → Hp → Prop} (h : Q true H) : tYes σ H Q := h
theorem get_nil {R : Prop} {j : Nat} {a : Addr} (h : ([] : List Addr)[j]? = some a) : R := by simp at h
theorem get_snoc {α : Type} {xs : List α} {y v : α} {j : Nat} (h : (xs ++ [y])[j]? = some v) : xs[j]? = some v ∨ (j = xs.length ∧ v = y) := by
  by_cases hj : j < xs.length
  · rw [List.getElem?_append_left hj] at h
    exact .inl h
  · rw [List.getElem?_append_right (by omega)] at h
    have : j - xs.length = 0 := by
      rcases Nat.eq_zero_or_pos (j - xs.length) with e | e
      · exact e
      · rw [List.getElem?_eq_none (by simpa using (show 1 ≤ j - xs.length from e))] at h
        cases h
    rw [this] at h
    exact .inr ⟨by omega, (Option.some.inj h).symm⟩
theorem get_map {xs : List Addr} {i : Nat} {v : V} (h : (xs.map V.ref)[i]? = some v) : ∃ a, xs[i]? = some a ∧ v = .ref a := by
  rw [List.getElem?_map] at h
  cases e : xs[i]? with
  | none => rw [e] at h; cases h
  | some a => rw [e] at h; exact ⟨a, rfl, (Option.some.inj h).symm⟩
theorem iteT' {c : Bool} {A B : Prop} (hc : c = true) (h : A) : if c = true then A else B := by
  rw [if_pos hc]
  exact h
theorem iteF' {c : Bool} {A B : Prop} (hc : c = false) (h : B) : if c = true then A else B := by
  rw [hc, if_neg Bool.false_ne_true]
  exact h
/-! ### fractions as pairs, in lowest terms -/
structure PQ (H : Hp) (r : Addr) (q : Rat) (n : Nat) : Prop where
  at_ : H r = some (.tup [.int q.num, .int (q.den : Int)])
  bd : Bd n q
theorem PQ.but {p r : Addr} {H H' : Hp} {q : Rat} {n : Nat} (h : PQ H r q n) (s : SameBut p H H') (hp : ∃ xs, H p = some (.lst xs)) : PQ H' r q n := ⟨tup_but h.at_ s hp, h.bd⟩
theorem PQ.same {r : Addr} {H H' : Hp} {q : Rat} {n : Nat} (h : PQ H r q n) (s : Same H H') : PQ H' r q n := ⟨s _ _ h.at_, h.bd⟩
theorem PQ.mono {r : Addr} {H : Hp} {q : Rat} {m n : Nat} (h : PQ H r q m) (l : m ≤ n) : PQ H r q n := ⟨h.at_, h.bd.mono l⟩
def BN (n : Nat) (v : V) : Prop := ∃ t : Int, v = .int t ∧ t ≠ 0 ∧ t.natAbs < 2 ^ n
/-- the pair of a fraction, as data -/
def pqD (q : Rat) : PyData := .tuple [.int q.num, .int (q.den : Int)]
theorem pq_eqv (p q : Rat) : PyData.eqv (pqD p) (pqD q) = decide (p = q) := by
  show ((p.num == q.num) && (((p.den : Int) == (q.den : Int)) && true)) = decide (p = q)
  rw [Bool.and_true]
  by_cases h : p = q
  · subst h
    simp
  · rw [decide_eq_false h]
    by_cases h1 : p.num = q.num
    · have h2 : ¬ ((p.den : Int) = (q.den : Int)) := fun e => h (Rat.ext h1 (by omega))
      rw [beq_eq_false_iff_ne.mpr h2, Bool.and_false]
    · rw [beq_eq_false_iff_ne.mpr h1, Bool.false_and]
theorem PQ.dp {K : PySem.W.Frag} {H : Hp} {r : Addr} {q : Rat} {n : Nat} (h : PQ H r q n) : Dp K H (.ref r) (pqD q) := .tup (SqT.of h.at_) (.cons (.int _) (.cons (.int _) .nil))
theorem value_eq (a b s : Rat) : Rat.divInt (a.num * (b.den : Int) * (s.den : Int) + b.num * s.num * (a.den : Int)) ((a.den : Int) * (b.den : Int) * (s.den : Int)) = a + b * s := by
  rw [← mul_eq b s]
  conv => rhs; rw [← Rat.num_divInt_den a]
  rw [Rat.divInt_add_divInt _ _ (den_ne a) (Int.mul_ne_zero (den_ne b) (den_ne s))]
  have e1 : a.num * (b.den : Int) * (s.den : Int) + b.num * s.num * (a.den : Int) = a.num * ((b.den : Int) * (s.den : Int)) + b.num * s.num * (a.den : Int) := by grind
  have e2 : (a.den : Int) * (b.den : Int) * (s.den : Int) = (a.den : Int) * ((b.den : Int) * (s.den : Int)) := by grind
  rw [e1, e2]
theorem joint_add (a b : Rat) : Rat.divInt (a.num * (b.den : Int) + 1 * b.num * (a.den : Int)) ((a.den : Int) * (b.den : Int)) = a + b := by
  rw [Int.one_mul]
  exact add_eq a b
theorem joint_sub (a b : Rat) : Rat.divInt (a.num * (b.den : Int) + -1 * b.num * (a.den : Int)) ((a.den : Int) * (b.den : Int)) = a - b := by
  rw [← sub_eq a b, Int.neg_one_mul, Int.neg_mul, ← Int.sub_eq_add_neg]
section
variable {P : Program} {w : World} {K : PySem.W.Frag} {mg : Str → Option Value} {base : Heap} {A : Ad}
def spLeast : Sp := fun vs H Q _ => ∃ t b : Int, vs = [.int t, .int b] ∧ b ≠ 0 ∧ b.natAbs < 2 ^ 9000 ∧ ∀ r H', Same H H' → H r = none → H' r = some (.tup [.int (Rat.divInt t b).num, .int ((Rat.divInt t b).den : Int)]) → Q (.ref r) H'
theorem ok_law_least (T : Txt K mg A) : FnOk P w K mg base CX0 1 A.f_law_least A.d_law_least ["top", "bottom"] spLeast := by
  refine T.F_law_least.ok sc_law_least (fun vs H Q E h => ?_) (fun cdv B outer s H vs Q E hr h => ?_)
  · obtain ⟨a, b, rfl, _⟩ := h
    rfl
  · obtain ⟨t, b, rfl, hb, hbd, k⟩ := h
    refine ⟨_, pss_cons (ps_par (i := 2) (j := 3) rfl sc_law_least.nd rfl rfl (by decide) rfl rfl (pa_cons (pe_callB call_abs (by rfl) T.z_abs (by decide +kernel) (pa_cons (pv 0) pa_nil)) (pa_cons (pe_callB call_abs (by rfl) T.z_abs (by decide +kernel) (pa_cons (pv 1) pa_nil)) pa_nil)) (by rfl))
      (pss_cons (ps_while PassesOwn.never (pt_cmpR op_ne (pv 3) pe_int (nomark _))
        (pss_one (ps_par (i := 2) (j := 3) rfl sc_law_least.nd rfl rfl (by decide) rfl rfl (pa_cons (pv 3) (pa_cons (pe_op op_mod (pe_callTy call_int1 (by rfl) T.z_int (by decide +kernel) (pa_cons (pv 2) pa_nil)) (pv 3)) pa_nil)) (by rfl))))
      (pss_cons (ps_set (i := 4) sc_law_least.nd rfl (Or.inl rfl) (pe_ifExp (pt_cmpR op_lt (pv 1) pe_int (nomark _)) (pe_un un_neg pe_int) pe_int))
      (pss_one (ps_ret (pe_tup (pa_cons (pe_op op_fdivG (pe_op op_mul (pv 4) (pv 0)) (pv 2)) (pa_cons (pe_op op_fdivG (pe_callB call_abs (by rfl) T.z_abs (by decide +kernel) (pa_cons (pv 1) pa_nil)) (pv 2)) pa_nil))))))), ?_⟩
    refine ⟨_, rfl, _, rfl, _, rfl, _, rfl, _, _, rfl, ?_⟩
    refine while_by (fun σ H' => ∃ c d : Nat, σ = [some (.int t), some (.int b), some (.int c), some (.int d), none] ∧ Nat.gcd c d = Nat.gcd t.natAbs b.natAbs ∧ H' = H) (fun σ _ => natAt σ 3)
      ⟨t.natAbs, b.natAbs, by rw [abs_nat, abs_nat]; rfl, rfl, rfl⟩ ?_ ?_
    · rintro σ H' ⟨c, d, rfl, hg, rfl⟩
      refine ⟨_, rfl, rfl, _, rfl, ?_⟩
      by_cases hd : d = 0
      · subst hd
        refine iteF ?_
        rw [Nat.gcd_zero_right] at hg
        have hc0 : 0 < c := by rw [hg]; exact gcd_ne hb rfl
        have hcl : c ≤ b.natAbs := by rw [hg]; exact gcd_le hb rfl
        have hc2 : ((c : Int)).natAbs.log2 < 9000 := log2_lt (by decide) (Nat.lt_of_le_of_lt (by omega) hbd)
        have e1 := least_num (t := t) hb hg
        have e2 := least_den (t := t) hb hg
        refine ⟨_, rfl, _, _, rfl, rfl, _, rfl, ?_⟩
        have fin : ∀ sg : Int, sg = (if b < 0 then -1 else 1) → (tRet (tTup (tCons (tOp (rI CDivG fun i j => .int (i.fdiv j)) (tOp (rI CMul fun i j => .int (i * j)) (tVar 4) (tVar 0)) (tVar 2)) (tCons (tOp (rI CDivG fun i j => .int (i.fdiv j))
            (tCB (fun xs H Q => ∃ i, xs = [.int i] ∧ Q (.int (if i < 0 then -i else i)) H) (tCons (tVar 1) tNil)) (tVar 2)) tNil)))) { nx := fun _ H' => Q .non H', rt := Q } [some (.int t), some (.int b), some (.int c), some (.int 0), some (.int sg)] H' := fun sg hs => by
          refine ⟨_, rfl, _, rfl, _, _, rfl, rfl, Or.inl (by rw [hs]; split <;> decide), _, rfl, _, _, rfl, rfl, ⟨by omega, hc2⟩, ?_⟩
          refine ⟨_, rfl, _, rfl, _, rfl, _, _, rfl, rfl, ⟨by omega, hc2⟩, (by show 2 ≤ sizeLine; decide), fun r nr => ?_⟩
          refine k r _ (same_new nr) nr ?_
          rw [← e1, ← e2, hs]
          exact upd_same
        refine ite2 (fun hlt => ?_) (fun hlt => ?_)
        · refine ⟨_, rfl, fin _ ?_⟩
          rw [if_pos (of_decide_eq_true hlt)]
        · exact fin _ (by rw [if_neg fun z => hlt (decide_eq_true z)])
      · have hne : (!decide (V.int (d : Int) = V.int 0)) = true := by
          rw [dint_ne (show (d : Int) ≠ 0 by omega)]
          rfl
        rw [hne]
        refine iteT ?_
        refine ⟨_, rfl, _, rfl, Or.inl ⟨_, rfl, _, rfl, _, _, rfl, rfl, (by show (0 : Int) < d; omega), _, _, rfl, ⟨d, c % d, ?_, ?_, rfl⟩, ?_⟩⟩
        · rfl
        · rw [← hg, Nat.gcd_comm c d, Nat.gcd_rec d c, Nat.gcd_comm]
        · show ((c : Int) % (d : Int)).toNat < (d : Int).toNat
          have := Int.emod_lt_of_pos (c : Int) (show (0 : Int) < d by omega)
          have := Int.emod_nonneg (c : Int) (show (d : Int) ≠ 0 by omega)
          omega
    · intro σ H Q Q' m h
      obtain ⟨v, e, q⟩ := h
      obtain ⟨z, b, e2, q2⟩ := q
      exact ⟨v, e, z, b, e2, m _ _ q2⟩
end
/-! ### drawn fractions, as pairs -/
structure Fr (H : Hp) (r : Addr) (t b : Int) (n : Nat) : Prop where
  at_ : H r = some (.tup [.int t, .int b])
  lt : t.natAbs < 2 ^ n
  ne : b ≠ 0
  lb : b.natAbs < 2 ^ n
theorem Fr.but {p r : Addr} {H H' : Hp} {t b : Int} {n : Nat} (h : Fr H r t b n) (s : SameBut p H H') (hp : ∃ xs, H p = some (.lst xs)) : Fr H' r t b n := ⟨tup_but h.at_ s hp, h.lt, h.ne, h.lb⟩
theorem Fr.mono {r : Addr} {H H' : Hp} {t b : Int} {n : Nat} (h : Fr H r t b n) (s : Same H H') : Fr H' r t b n := ⟨s _ _ h.at_, h.lt, h.ne, h.lb⟩
theorem Fr.up {r : Addr} {H : Hp} {t b : Int} {m n : Nat} (h : Fr H r t b m) (l : m ≤ n) : Fr H r t b n := ⟨h.at_, up_lt h.lt l, h.ne, up_lt h.lb l⟩
theorem Fr.bd {r : Addr} {H : Hp} {t b : Int} {n : Nat} (h : Fr H r t b n) : Bd n (Rat.divInt t b) := Bd.mk' h.ne h.lt h.lb
section
variable {P : Program} {w : World} {K : PySem.W.Frag} {mg : Str → Option Value} {base : Heap} {A : Ad}
def spDrawnF (m n : Nat) : Sp := fun vs H Q _ => ∃ (p : Addr) (c : Nat), vs = [.ref p] ∧ Pot H p c ∧ c ≤ 90000 ∧ ∀ t b r H', Fr H' r t b n → H r = none → Pot H' p (c + m) → SameBut p H H' → Q (.ref r) H'
theorem ok_law_drawn (T : Txt K mg A) : FnOk P w K mg base CX0 4 A.f_law_drawn A.d_law_drawn ["pot"] (spDrawnF 4 90) := by
  refine T.F_law_drawn.ok sc_law_drawn (fun vs H Q E h => ?_) (fun cdv B outer s H vs Q E hr h => ?_)
  · obtain ⟨p, n, rfl, _⟩ := h
    rfl
  · obtain ⟨p, n, rfl, hP, hn, k⟩ := h
    have hr1 : Room 1 _ := hr.mono (by decide)
    have hr2 : Room 2 _ := hr.mono (by decide)
    refine ⟨_, (pss_cons (ps_set (i := 1) sc_law_drawn.nd rfl (Or.inl rfl) (pe_call (ok_law_of T) hr2 rfl T.g_law_of T.F_law_of.kp T.b_law_of .nil pass0 (pa_cons (pv 0) (pa_cons (pe_lst (pa_cons pe_int (pa_cons pe_int (pa_cons (pe_un un_neg pe_int) (pa_cons pe_int (pa_cons pe_int (pa_cons (pe_un un_neg pe_int) (pa_cons pe_int (pa_cons pe_int (pa_cons (pe_op op_powW pe_int pe_int) (pa_cons (pe_op op_sub (pe_call (ok_law_take T) hr1 rfl T.g_law_take T.F_law_take.kp T.b_law_take .nil pass0 (pa_cons (pv 0) (pa_cons pe_int pa_nil))) pe_int) (pa_cons (pe_op op_sub (pe_un un_neg (pe_op op_powW pe_int pe_int)) pe_int) pa_nil)))))))))))) pa_nil))))
      (pss_one (ps_ret (pe_tup (pa_cons (pv 1) (pa_cons (pe_call (ok_law_of T) hr2 rfl T.g_law_of T.F_law_of.kp T.b_law_of .nil pass0 (pa_cons (pv 0) (pa_cons (pe_lst (pa_cons pe_int (pa_cons pe_int (pa_cons pe_int (pa_cons pe_int (pa_cons (pe_un un_neg pe_int) (pa_cons pe_int (pa_cons pe_int (pa_cons (pe_op op_powW pe_int pe_int) (pa_cons (pe_op op_add pe_int (pe_call (ok_law_take T) hr1 rfl T.g_law_take T.F_law_take.kp T.b_law_take .nil pass0 (pa_cons (pv 0) (pa_cons pe_int pa_nil)))) (pa_cons (pe_un un_neg pe_int) pa_nil))))))))))) pa_nil))) pa_nil)))))), ?_⟩
    refine ⟨_, rfl, _, rfl, _, rfl, _, _, rfl, rfl, ⟨by decide, by decide +kernel⟩, _, rfl, p, 200, n, rfl, (by decide), up_lt (n := 9000) (show (200 : Int).natAbs < 2 ^ 8 by decide) (by decide), hP, (by omega), fun r H1 r0 r1 hP1 s1 => ?_⟩
    refine ⟨_, _, rfl, rfl, _, _, rfl, rfl, ⟨by decide, by decide +kernel⟩, _, rfl, _, _, rfl, rfl, (by show 11 ≤ sizeLine; decide), fun l hl => ?_⟩
    obtain ⟨xs1, e1⟩ := hP1.lst
    refine ⟨p, l, _, n + 1, rfl, upd_same, (ne_of_none e1 hl).symm, by simp, by show 11 ≤ 1000; decide, hP1.same (same_new hl), (by omega), fun v H2 hv hP2 s2 => ?_⟩
    have h1 : ∀ v ∈ ([V.int 0, V.int 1, V.int (-1), V.int 2, V.int 3, V.int (-5), V.int 12, V.int 60, V.int (10 ^ (12 : Int).toNat), V.int (r - 100), V.int (-(10 ^ (25 : Int).toNat) - 7)] : List V), BI 90 v := by
      repeat (first | exact List.forall_mem_nil _ | refine List.forall_mem_cons.mpr ⟨⟨_, rfl, by first | decide | omega⟩, ?_⟩)
    obtain ⟨t, rfl, ht⟩ := h1 v hv
    refine ⟨_, rfl, _, rfl, _, rfl, _, _, rfl, rfl, ⟨by decide, by decide +kernel⟩, _, rfl, p, 40, n + 1 + 1, rfl, (by decide), up_lt (n := 9000) (show (40 : Int).natAbs < 2 ^ 8 by decide) (by decide), hP2, (by omega), fun r' H3 r0' r1' hP3 s3 => ?_⟩
    refine ⟨_, _, rfl, rfl, _, rfl, (by show 10 ≤ sizeLine; decide), fun l' hl' => ?_⟩
    obtain ⟨xs3, e3⟩ := hP3.lst
    refine ⟨p, l', _, n + 1 + 1 + 1, rfl, upd_same, (ne_of_none e3 hl').symm, by simp, by show 10 ≤ 1000; decide, hP3.same (same_new hl'), (by omega), fun v' H4 hv' hP4 s4 => ?_⟩
    have h2 : ∀ v ∈ ([V.int 1, V.int 1, V.int 2, V.int 3, V.int (-4), V.int 12, V.int 60, V.int (10 ^ (13 : Int).toNat), V.int (1 + r'), V.int (-7)] : List V), BN 90 v := by
      repeat (first | exact List.forall_mem_nil _ | refine List.forall_mem_cons.mpr ⟨⟨_, rfl, by first | decide | omega, by first | decide | omega⟩, ?_⟩)
    obtain ⟨b, rfl, hb0, hb⟩ := h2 v' hv'
    refine ⟨by show 2 ≤ sizeLine; decide, fun q hq => ?_⟩
    have sa := ((s1.same (same_new hl)).trans s2).trans ((s3.same (same_new hl')).trans s4)
    exact k t b q _ ⟨upd_same, ht, hb0, hb⟩ (sa.free hP.lst hP4.lst hq) (hP4.same (same_new hq)) (sa.same (same_new hq))
/-- the pair of a Number -/
def spPair (A : Ad) : Sp := fun vs H Q _ => ∃ (a : Addr) (q : Rat), vs = [.ref a] ∧ Num A.c_Number H a q ∧ ∀ r H', Same H H' → H r = none → H' r = some (.tup [.int q.num, .int (q.den : Int)]) → Q (.ref r) H'
theorem ok_law_pair (T : Txt K mg A) : FnOk P w K mg base CX0 3 A.f_law_pair A.d_law_pair ["thing"] (spPair A) := by
  refine T.F_law_pair.ok sc_law_pair (fun vs H Q E h => ?_) (fun cdv B outer s H vs Q E hr h => ?_)
  · obtain ⟨a, q, rfl, _⟩ := h
    rfl
  · obtain ⟨a, q, rfl, ⟨dx, ex⟩, k⟩ := h
    have hr2 : Room 2 _ := hr.mono (by decide)
    refine ⟨_, (pss_one (ps_ret (pe_ifExp (pt_val (pe_callB call_isi (by rfl) T.z_isinstance (by decide +kernel) (pa_cons (pv 0) (pa_cons (pe_glob (v := .ref A.c_Number) (by rfl) T.g_Number rfl) pa_nil)))) (pe_tup (pa_cons (pe_prop (pv 0) T.cl_Number T.P_Number_top (ok_Number_top T) hr2 T.b_Number_top .nil pass0 rfl) (pa_cons (pe_prop (pv 0) T.cl_Number T.P_Number_bottom (ok_Number_bottom T) hr2 T.b_Number_bottom .nil pass0 rfl) pa_nil))) pe_non))), ?_⟩
    refine ⟨_, rfl, _, _, _, _, true, rfl, .own _, .base (.ins ex T.cl_Number T.ca_Number T.cn T.ct T.cm_Number), T.kit_NumNum, true, rfl, ?_⟩
    refine iteT ?_
    exact ⟨_, rfl, a, dx, _, rfl, ex, a, dx, _, _, rfl, ex, nf_top q, _, rfl, a, dx, _, rfl, ex, a, dx, _, _, rfl, ex, nf_bot q, (by show 2 ≤ sizeLine; decide), fun t nt => k t _ (same_new nt) nt upd_same⟩
end
/-! ### k02: another fraction -/
theorem mulB {i j : Int} {m : Nat} (_ : i.natAbs < 2 ^ m) (h : j.natAbs < 2 ^ 3) : CMul i j := Or.inr (by omega)
section
variable {P : Program} {w : World} {K : PySem.W.Frag} {mg : Str → Option Value} {base : Heap} {A : Ad}
def spNear (m n : Nat) : Sp := fun vs H Q _ => ∃ (p r0 : Addr) (c : Nat) (t0 b0 : Int), vs = [.ref p, .ref r0] ∧ Pot H p c ∧ c ≤ 80000 ∧ Fr H r0 t0 b0 90 ∧ ∀ t b r H', Fr H' r t b n → Pot H' p (c + m) → SameBut p H H' → Q (.ref r) H'
theorem ok_law_near (T : Txt K mg A) : FnOk P w K mg base CX0 5 A.f_law_near A.d_law_near ["pot", "one"] (spNear 6 100) := by
  refine T.F_law_near.ok sc_law_near (fun vs H Q E h => ?_) (fun cdv B outer s H vs Q E hr h => ?_)
  · obtain ⟨p, r0, n, t0, b0, rfl, _⟩ := h
    rfl
  · obtain ⟨p, r0, n, t0, b0, rfl, hP, hn, hF, k⟩ := h
    have hr1 : Room 1 _ := hr.mono (by decide)
    have hr2 : Room 2 _ := hr.mono (by decide)
    have hr4 : Room 4 _ := hr.mono (by decide)
    refine ⟨_, (pss_cons (ps_par (i := 2) (j := 3) rfl sc_law_near.nd rfl rfl (by decide) rfl rfl (pa_cons (pe_call (ok_law_take T) hr1 rfl T.g_law_take T.F_law_take.kp T.b_law_take .nil pass0 (pa_cons (pv 0) (pa_cons pe_int pa_nil))) (pa_cons (pe_call (ok_law_of T) hr2 rfl T.g_law_of T.F_law_of.kp T.b_law_of .nil pass0 (pa_cons (pv 0) (pa_cons (pe_lst (pa_cons pe_int (pa_cons (pe_un un_neg pe_int) (pa_cons pe_int (pa_cons (pe_un un_neg pe_int) pa_nil))))) pa_nil))) pa_nil)) (by rfl))
      (pss_cons (ps_if (pt_cmpR op_lt (pv 2) pe_int (nomark _)) (pss_one (ps_ret (pe_call (ok_law_drawn T) hr4 rfl T.g_law_drawn T.F_law_drawn.kp T.b_law_drawn .nil pass0 (pa_cons (pv 0) pa_nil)))) pss_nil)
      (pss_one (ps_ret (pe_ifExp (pt_cmpR op_eq (pv 2) pe_int (nomark _)) (pe_tup (pa_cons (pe_op op_mul (pe_ix ix_tup (pv 1) pe_int (fun _ _ => rfl)) (pv 3)) (pa_cons (pe_op op_mul (pe_ix ix_tup (pv 1) pe_int (fun _ _ => rfl)) (pv 3)) pa_nil))) (pe_tup (pa_cons (pe_op op_add (pe_op op_mul (pe_ix ix_tup (pv 1) pe_int (fun _ _ => rfl)) pe_int) (pv 3)) (pa_cons (pe_op op_mul (pe_ix ix_tup (pv 1) pe_int (fun _ _ => rfl)) pe_int) pa_nil)))))))), ?_⟩
    refine ⟨_, rfl, p, 4, n, rfl, (by decide), up_lt (n := 9000) (show (4 : Int).natAbs < 2 ^ 8 by decide) (by decide), hP, (by omega), fun way H1 w0 w1 hP1 s1 => ?_⟩
    refine ⟨_, rfl, _, rfl, _, rfl, (by show 4 ≤ sizeLine; decide), fun l hl => ?_⟩
    obtain ⟨xs1, e1⟩ := hP1.lst
    refine ⟨p, l, _, n + 1, rfl, upd_same, (ne_of_none e1 hl).symm, by simp, by show 4 ≤ 1000; decide, hP1.same (same_new hl), (by omega), fun v H2 hv hP2 s2 => ?_⟩
    have h1 : ∀ v ∈ ([V.int 1, V.int (-1), V.int 2, V.int (-6)] : List V), BN 3 v := by
      repeat (first | exact List.forall_mem_nil _ | refine List.forall_mem_cons.mpr ⟨⟨_, rfl, by first | decide | omega, by first | decide | omega⟩, ?_⟩)
    obtain ⟨many, rfl, hm0, hm⟩ := h1 v hv
    have s12 := (s1.same (same_new hl)).trans s2
    have hF2 := hF.but s12 hP.lst
    refine ⟨_, _, rfl, ?_⟩
    refine stT (σ' := [some (.ref p), some (.ref r0), some (.int way), some (.int many)]) rfl ?_
    refine ⟨_, rfl, _, _, rfl, rfl, _, rfl, ?_⟩
    refine ite2 (fun h => ?_) (fun h => ?_)
    · exact ⟨_, rfl, p, n + 1 + 1, rfl, hP2, by omega, fun t b r H3 f3 _ hP3 s3 => k t b r H3 (f3.up (by decide)) hP3 (s12.trans s3)⟩
    · have hmm : many.natAbs < 2 ^ 64 := up_lt hm (by decide)
      have nm := hF2.ne
      have one : ∀ {t b : Int} {H3 : Hp} {r : Addr}, t.natAbs < 2 ^ 100 → b ≠ 0 → b.natAbs < 2 ^ 100 → H2 r = none → H3 = upd H2 r (.tup [.int t, .int b]) → Q (.ref r) H3 := fun {t b H3 r} h1 h2 h3 nr e => by
        subst e
        exact k t b r _ ⟨upd_same, h1, h2, h3⟩ ((hP2.same (same_new nr)).mono (by omega)) (s12.same (same_new nr))
      refine ⟨_, rfl, rfl, _, rfl, ?_⟩
      refine ite2 (fun h => ?_) (fun h => ?_)
      · refine ⟨_, rfl, r0, _, _, _, rfl, rfl, SqT.of hF2.at_, rfl, _, rfl, _, _, rfl, rfl, mulB hF2.lt hm, _, rfl, r0, _, _, _, rfl, rfl, SqT.of hF2.at_, rfl, _, rfl, _, _, rfl, rfl, mulB hF2.lb hm, (by show 2 ≤ sizeLine; decide), fun r nr => ?_⟩
        exact one (up_lt (imul_lt hF2.lt hm) (by decide)) (Int.mul_ne_zero nm hm0) (up_lt (imul_lt hF2.lb hm) (by decide)) nr rfl
      · refine ⟨_, rfl, r0, _, _, _, rfl, rfl, SqT.of hF2.at_, rfl, _, _, rfl, rfl, Or.inr (by decide), _, rfl, _, _, rfl, rfl, _, rfl, r0, _, _, _, rfl, rfl, SqT.of hF2.at_, rfl, _, _, rfl, rfl, Or.inr (by decide), (by show 2 ≤ sizeLine; decide), fun r nr => ?_⟩
        have h2 : ((2 : Int)).natAbs < 2 ^ 2 := by decide
        exact one (up_lt (iadd_lt (up_lt (imul_lt hF2.lt h2) (n := 92) (by decide)) (up_lt hm (by decide))) (by decide)) (Int.mul_ne_zero nm (by decide)) (up_lt (imul_lt hF2.lb h2) (by decide)) nr rfl
end
/-! ### k02: the sums and compares -/
theorem pqD_shows {q : Rat} {k : Nat} (h : Bd 1900 q) : Shows (pqD q) 3849 (k + 1) :=
  (Shows.tup (List.forall_mem_cons.mpr ⟨.int h.1, List.forall_mem_cons.mpr ⟨.int h.den', List.forall_mem_nil _⟩⟩) : Shows (pqD q) ((1921 + 2) * 2 + 3) (k + 1))
theorem nes {d e : PyData} (h : d = e) : (!decide (V.str d.shown = V.str e.shown)) = false := by
  subst h
  simp
def sgn (z : Int) : Int := if 0 < z then 1 else -1
theorem sgn_lt (z : Int) : (sgn z).natAbs < 2 ^ 1 := by
  unfold sgn
  split <;> decide
theorem abs_ne {b : Int} (h : b ≠ 0) : (if b < 0 then -b else b) ≠ 0 := by split <;> omega
theorem abs_up {b : Int} {m n : Nat} (h : b.natAbs < 2 ^ m) (l : m ≤ n) : (if b < 0 then -b else b).natAbs < 2 ^ n := by
  have e : (if b < 0 then -b else b).natAbs = b.natAbs := by split <;> omega
  rw [e]
  exact up_lt h l
theorem div_mul_self {a b : Int} (hb : b ≠ 0) : Rat.divInt a b * (b : Rat) = (a : Rat) := by
  have h : (b : Rat) ≠ 0 := fun z => hb (Rat.intCast_inj.mp z)
  rw [Rat.divInt_eq_div, Rat.div_mul_cancel h]
theorem cross {a b c d : Int} (hb : b ≠ 0) (hd : d ≠ 0) : Rat.divInt a b * ((b : Rat) * (d : Rat)) = ((a * d : Int) : Rat) ∧ Rat.divInt c d * ((b : Rat) * (d : Rat)) = ((c * b : Int) : Rat) := by
  have h1 := div_mul_self (a := a) hb
  have h2 := div_mul_self (a := c) hd
  rw [Rat.intCast_mul, Rat.intCast_mul, ← h1, ← h2]
  constructor <;> grind
theorem less_cross {a b c d : Int} (hb : b ≠ 0) (hd : d ≠ 0) : (Rat.divInt a b < Rat.divInt c d) ↔ a * d * sgn (b * d) < c * b * sgn (b * d) := by
  obtain ⟨e1, e2⟩ := cross (a := a) (c := c) hb hd
  have hbd : b * d ≠ 0 := Int.mul_ne_zero hb hd
  unfold sgn
  by_cases h : 0 < b * d
  · rw [if_pos h, Int.mul_one, Int.mul_one]
    have hp : (0 : Rat) < (b : Rat) * (d : Rat) := by
      rw [← Rat.intCast_mul]
      exact Rat.intCast_pos.mpr h
    rw [← Rat.mul_lt_mul_right hp, e1, e2, Rat.intCast_lt_intCast]
  · rw [if_neg h]
    have hp : (0 : Rat) < -((b : Rat) * (d : Rat)) := by
      rw [← Rat.intCast_mul, ← Rat.intCast_neg]
      exact Rat.intCast_pos.mpr (by omega)
    rw [← Rat.mul_lt_mul_right hp, Rat.mul_neg, Rat.mul_neg, e1, e2, ← Rat.intCast_neg, ← Rat.intCast_neg, Rat.intCast_lt_intCast]
    omega
theorem eq_cross {a b c d : Int} (hb : b ≠ 0) (hd : d ≠ 0) : (Rat.divInt a b = Rat.divInt c d) ↔ a * d * sgn (b * d) = c * b * sgn (b * d) := by
  rw [Rat.divInt_eq_divInt_iff hb hd]
  unfold sgn
  split
  · rw [Int.mul_one, Int.mul_one]
  · omega
theorem zero_cross {a b : Int} (hb : b ≠ 0) : Rat.divInt a b = 0 ↔ a = 0 := by
  rw [← Rat.zero_divInt 1, Rat.divInt_eq_divInt_iff hb (by decide)]
  constructor <;> intro h <;> omega
theorem dint_iff (i j : Int) : decide (V.int i = V.int j) = decide (i = j) := decide_eq_decide.mpr ⟨fun e => by injection e, fun e => by rw [e]⟩
theorem six_same {t1 b1 t2 b2 : Int} {p q : Rat} (h1 : b1 ≠ 0) (h2 : b2 ≠ 0) (ep : p = Rat.divInt t1 b1) (eq : q = Rat.divInt t2 b2) :
    PyData.list [.bool (decide (p < q)), .bool (decide (q < p)), .bool (decide (p < p)), .bool (decide (p = q)), .bool (!decide (p = q)), .bool (!decide (p = 0))] = .list [.bool (decide (t1 * b2 * sgn (b1 * b2) < t2 * b1 * sgn (b1 * b2))), .bool (decide (t2 * b1 * sgn (b1 * b2) < t1 * b2 * sgn (b1 * b2))), .bool (false), .bool (decide (V.int (t1 * b2 * sgn (b1 * b2)) = V.int (t2 * b1 * sgn (b1 * b2)))), .bool (!decide (V.int (t1 * b2 * sgn (b1 * b2)) = V.int (t2 * b1 * sgn (b1 * b2)))), .bool (!decide (V.int t1 = V.int 0))] := by
  have c1 : decide (p < q) = decide (t1 * b2 * sgn (b1 * b2) < t2 * b1 * sgn (b1 * b2)) := decide_eq_decide.mpr (by rw [ep, eq]; exact less_cross h1 h2)
  have c2 : decide (q < p) = decide (t2 * b1 * sgn (b1 * b2) < t1 * b2 * sgn (b1 * b2)) := decide_eq_decide.mpr (by
    rw [ep, eq]
    have := less_cross (a := t2) (c := t1) h2 h1
    rw [Int.mul_comm b2 b1] at this
    exact this)
  have c3 : decide (p = q) = decide (t1 * b2 * sgn (b1 * b2) = t2 * b1 * sgn (b1 * b2)) := decide_eq_decide.mpr (by rw [ep, eq]; exact eq_cross h1 h2)
  have c4 : decide (p < p) = false := decide_eq_false (Rat.lt_irrefl)
  have c5 : decide (p = 0) = decide (t1 = 0) := decide_eq_decide.mpr (by rw [ep]; exact zero_cross h1)
  rw [c1, c2, c3, c4, c5, dint_iff, dint_iff]
theorem eabs' {t1 b1 : Int} (h1 : b1 ≠ 0) : Rat.divInt (if t1 < 0 then -t1 else t1) (if b1 < 0 then -b1 else b1) = rabs (Rat.divInt t1 b1) := by
  have h : Rat.divInt t1 b1 < 0 ↔ t1 * sgn b1 < 0 := by
    have := less_cross (a := t1) (c := 0) h1 (by decide : (1 : Int) ≠ 0)
    rw [Int.mul_one, Int.mul_one, Int.zero_mul, Int.zero_mul, Rat.zero_divInt] at this
    exact this
  unfold rabs
  unfold sgn at h
  by_cases hb : 0 < b1
  · rw [if_pos hb, Int.mul_one] at h
    rw [if_neg (show ¬ b1 < 0 by omega)]
    by_cases ht : t1 < 0
    · rw [if_pos ht, if_pos (h.mpr ht), Rat.neg_divInt]
    · rw [if_neg ht, if_neg fun z => ht (h.mp z)]
  · rw [if_neg hb] at h
    rw [if_pos (show b1 < 0 by omega)]
    by_cases ht : t1 < 0
    · rw [if_pos ht, if_neg fun z => by have := h.mp z; omega, Rat.neg_divInt_neg]
    · rw [if_neg ht]
      by_cases h0 : t1 = 0
      · subst h0
        rw [Rat.zero_divInt, Rat.zero_divInt]
        rfl
      · rw [if_pos (h.mpr (by omega)), Rat.divInt_neg', Rat.neg_divInt]
section
variable {P : Program} {w : World} {K : PySem.W.Frag} {mg : Str → Option Value} {base : Heap} {A : Ad}
def spRight : Sp := fun vs H Q _ => ∃ (u v : Addr) (t1 b1 t2 b2 : Int), vs = [.ref u, .ref v] ∧ Fr H u t1 b1 100 ∧ Fr H v t2 b2 100 ∧ ∀ H', Same H H' → Q (.bl true) H'
theorem ok_law_is_right (T : Txt K mg A) : FnG P w K mg base CX0 6 A.f_law_is_right A.d_law_is_right ["first", "second"] spRight := by
  refine okG T.F_law_is_right sc_law_is_right (fun vs H Q E h => ?_) (fun cdv B outer s H vs Q E hG hr h => ?_)
  · obtain ⟨u, v, t1, b1, t2, b2, rfl, _⟩ := h
    rfl
  · obtain ⟨u, v, t1, b1, t2, b2, rfl, h1, h2, k⟩ := h
    obtain ⟨p, ep⟩ : ∃ p, p = Rat.divInt t1 b1 := ⟨_, rfl⟩
    obtain ⟨q, eq⟩ : ∃ q, q = Rat.divInt t2 b2 := ⟨_, rfl⟩
    have bp : Bd 100 p := by rw [ep]; exact h1.bd
    have bq : Bd 100 q := by rw [eq]; exact h2.bd
    have eadd : Rat.divInt (t1 * b2 + t2 * b1) (b1 * b2) = p + q := by rw [ep, eq, Rat.divInt_add_divInt _ _ h1.ne h2.ne]
    have esub : Rat.divInt (t1 * b2 - t2 * b1) (b1 * b2) = p - q := by rw [ep, eq, Rat.divInt_sub_divInt _ _ h1.ne h2.ne]
    have emul : Rat.divInt (t1 * t2) (b1 * b2) = p * q := by rw [ep, eq, Rat.divInt_mul_divInt]
    have eneg : Rat.divInt (-t1) b1 = -p := by rw [ep, Rat.neg_divInt]
    have eabs : Rat.divInt (if t1 < 0 then -t1 else t1) (if b1 < 0 then -b1 else b1) = rabs p := by rw [ep]; exact eabs' h1.ne
    have hr1 : Room 1 _ := hr.mono (by decide)
    have hr2 : Room 2 _ := hr.mono (by decide)
    have hr3 : Room 3 _ := hr.mono (by decide)
    have hr4 : Room 4 _ := hr.mono (by decide)
    have hr5 : Room 5 _ := hr.mono (by decide)
    refine ⟨_, (pss_cons (ps_par (i := 2) (j := 3) rfl sc_law_is_right.nd rfl rfl (by decide) rfl rfl (pa_cons (pe_make T.M_Number (ok_Number_init T) hr3 rfl T.g_Number (b_Number T) .nil pass0 (pa_cons (pe_ix ix_tup (pv 0) pe_int (fun _ _ => rfl)) (pa_cons (pe_ix ix_tup (pv 0) pe_int (fun _ _ => rfl)) pa_nil))) (pa_cons (pe_make T.M_Number (ok_Number_init T) hr3 rfl T.g_Number (b_Number T) .nil pass0 (pa_cons (pe_ix ix_tup (pv 1) pe_int (fun _ _ => rfl)) (pa_cons (pe_ix ix_tup (pv 1) pe_int (fun _ _ => rfl)) pa_nil))) pa_nil)) (by rfl))
      (pss_cons (ps_asg (pe_tup (pa_cons (pe_ix ix_tup (pv 0) pe_int (fun _ _ => rfl)) (pa_cons (pe_ix ix_tup (pv 0) pe_int (fun _ _ => rfl)) (pa_cons (pe_ix ix_tup (pv 1) pe_int (fun _ _ => rfl)) (pa_cons (pe_ix ix_tup (pv 1) pe_int (fun _ _ => rfl)) pa_nil))))) (pgTup K 4 rfl (pgs_cons (pg_name (i := 4) sc_law_is_right.nd rfl (Or.inl rfl)) (pgs_cons (pg_name (i := 5) sc_law_is_right.nd rfl (Or.inl rfl)) (pgs_cons (pg_name (i := 6) sc_law_is_right.nd rfl (Or.inl rfl)) (pgs_cons (pg_name (i := 7) sc_law_is_right.nd rfl (Or.inl rfl)) pgs_nil))))))
      (pss_cons (ps_set (i := 8) sc_law_is_right.nd rfl (Or.inl rfl) (pe_lst (pa_cons (pe_call (ok_law_pair T) hr3 rfl T.g_law_pair T.F_law_pair.kp T.b_law_pair .nil pass0 (pa_cons (pe_op (op_own2 (ok_Number_add T) T.b_Number_add T.m_Number_add.at_ T.m_Number_add.fn T.sf_Number hr4 pass0) (pv 2) (pv 3)) pa_nil)) (pa_cons (pe_call (ok_law_pair T) hr3 rfl T.g_law_pair T.F_law_pair.kp T.b_law_pair .nil pass0 (pa_cons (pe_op (op_own2 (ok_Number_sub T) T.b_Number_sub T.m_Number_sub.at_ T.m_Number_sub.fn T.sf_Number hr4 pass0) (pv 2) (pv 3)) pa_nil)) (pa_cons (pe_call (ok_law_pair T) hr3 rfl T.g_law_pair T.F_law_pair.kp T.b_law_pair .nil pass0 (pa_cons (pe_op (op_own2 (ok_Number_mul T) T.b_Number_mul T.m_Number_mul.at_ T.m_Number_mul.fn T.sf_Number hr4 pass0) (pv 2) (pv 3)) pa_nil)) (pa_cons (pe_call (ok_law_pair T) hr3 rfl T.g_law_pair T.F_law_pair.kp T.b_law_pair .nil pass0 (pa_cons (pe_un (un_ownNeg (ok_Number_neg T) T.b_Number_neg T.m_Number_neg.at_ T.m_Number_neg.fn hr4 pass0) (pv 2)) pa_nil)) pa_nil))))))
      (pss_cons (ps_expr (pe_bm PySem.F.plainAttrs_list PySem.F.slot_list_append PySem.F.type_list_append mt_append (pv 8) (pa_cons (pe_call (ok_law_pair T) hr3 rfl T.g_law_pair T.F_law_pair.kp T.b_law_pair .nil pass0 (pa_cons (pe_callB (call_ownAbs (ok_Number_abs T) T.b_Number_abs T.m_Number_abs.at_ T.m_Number_abs.fn hr5 pass0) (by rfl) T.z_abs (by decide +kernel) (pa_cons (pv 2) pa_nil)) pa_nil)) pa_nil)))
      (pss_cons (ps_set (i := 9) sc_law_is_right.nd rfl (Or.inl rfl) (pe_lst (pa_cons (pe_call (ok_law_least T) hr1 rfl T.g_law_least T.F_law_least.kp T.b_law_least .nil pass0 (pa_cons (pe_op op_add (pe_op op_mulW (pv 4) (pv 7)) (pe_op op_mulW (pv 6) (pv 5))) (pa_cons (pe_op op_mulW (pv 5) (pv 7)) pa_nil))) (pa_cons (pe_call (ok_law_least T) hr1 rfl T.g_law_least T.F_law_least.kp T.b_law_least .nil pass0 (pa_cons (pe_op op_sub (pe_op op_mulW (pv 4) (pv 7)) (pe_op op_mulW (pv 6) (pv 5))) (pa_cons (pe_op op_mulW (pv 5) (pv 7)) pa_nil))) (pa_cons (pe_call (ok_law_least T) hr1 rfl T.g_law_least T.F_law_least.kp T.b_law_least .nil pass0 (pa_cons (pe_op op_mulW (pv 4) (pv 6)) (pa_cons (pe_op op_mulW (pv 5) (pv 7)) pa_nil))) pa_nil)))))
      (pss_cons (ps_set (i := 9) sc_law_is_right.nd rfl (Or.inl rfl) (pe_op op_cat (pv 9) (pe_lst (pa_cons (pe_call (ok_law_least T) hr1 rfl T.g_law_least T.F_law_least.kp T.b_law_least .nil pass0 (pa_cons (pe_un un_neg (pv 4)) (pa_cons (pv 5) pa_nil))) (pa_cons (pe_call (ok_law_least T) hr1 rfl T.g_law_least T.F_law_least.kp T.b_law_least .nil pass0 (pa_cons (pe_callB call_abs (by rfl) T.z_abs (by decide +kernel) (pa_cons (pv 4) pa_nil)) (pa_cons (pe_callB call_abs (by rfl) T.z_abs (by decide +kernel) (pa_cons (pv 5) pa_nil)) pa_nil))) pa_nil)))))
      (pss_cons (ps_if (pt_cmpR op_ne (pe_callB (call_reprD hG hr.units) (by rfl) T.z_repr (by decide +kernel) (pa_cons (pv 8) pa_nil)) (pe_callB (call_reprD hG hr.units) (by rfl) T.z_repr (by decide +kernel) (pa_cons (pv 9) pa_nil)) (nomark _)) (pss_one (ps_ret pe_bl)) pss_nil)
      (Evl.pss_cut (ps_set (i := 10) sc_law_is_right.nd rfl (Or.inl rfl) (pe_ifExp (pt_cmpR op_gt (pe_op op_mulW (pv 5) (pv 7)) pe_int (nomark _)) pe_int (pe_un un_neg pe_int)))
      (pss_cons (ps_par (i := 11) (j := 12) rfl sc_law_is_right.nd rfl rfl (by decide) rfl rfl (pa_cons (pe_op op_mulW (pe_op op_mulW (pv 4) (pv 7)) (pv 10)) (pa_cons (pe_op op_mulW (pe_op op_mulW (pv 6) (pv 5)) (pv 10)) pa_nil)) (by rfl))
      (pss_cons (ps_set (i := 8) sc_law_is_right.nd rfl (Or.inl rfl) (pe_lst (pa_cons (pe_meth (pv 2) T.cl_Number T.m_Number_is_less (ok_Number_is_less T) hr1 T.b_Number_is_less .nil pass0 (pa_cons (pv 3) pa_nil)) (pa_cons (pe_meth (pv 3) T.cl_Number T.m_Number_is_less (ok_Number_is_less T) hr1 T.b_Number_is_less .nil pass0 (pa_cons (pv 2) pa_nil)) (pa_cons (pe_meth (pv 2) T.cl_Number T.m_Number_is_less (ok_Number_is_less T) hr1 T.b_Number_is_less .nil pass0 (pa_cons (pv 2) pa_nil)) (pa_cons (pe_cmpR (opOwnEq K (ok_Number_eq T) T.b_Number_eq T.m_Number_eq.at_ T.m_Number_eq.fn hr1 pass0) (pv 2) (pv 3) (nomark _)) (pa_cons (pe_cmpR (op_ownNe K (ok_Number_eq T) T.b_Number_eq T.ne_Number T.cm_Number T.m_Number_eq.at_ T.m_Number_eq.fn hr2 pass0) (pv 2) (pv 3) (nomark _)) (pa_cons (pe_callTy (call_ownBool (ok_Number_bool T) T.b_Number_bool T.m_Number_bool.at_ T.m_Number_bool.fn hr3 pass0) (by rfl) T.z_bool (by decide +kernel) (pa_cons (pv 2) pa_nil)) pa_nil))))))))
      (pss_cons (ps_set (i := 9) sc_law_is_right.nd rfl (Or.inl rfl) (pe_lst (pa_cons (pe_cmpR op_lt (pv 11) (pv 12) (nomark _)) (pa_cons (pe_cmpR op_lt (pv 12) (pv 11) (nomark _)) (pa_cons pe_bl (pa_cons (pe_cmpR op_eq (pv 11) (pv 12) (nomark _)) (pa_cons (pe_cmpR op_ne (pv 11) (pv 12) (nomark _)) (pa_cons (pe_cmpR op_ne (pv 4) pe_int (nomark _)) pa_nil))))))))
      (pss_cons (ps_if (pt_cmpR op_ne (pe_callB (call_reprD hG hr.units) (by rfl) T.z_repr (by decide +kernel) (pa_cons (pv 8) pa_nil)) (pe_callB (call_reprD hG hr.units) (by rfl) T.z_repr (by decide +kernel) (pa_cons (pv 9) pa_nil)) (nomark _)) (pss_one (ps_ret pe_bl)) pss_nil)
      (pss_one (ps_ret (pe_cmpR (opEqD K hr.units) (pe_lst (pa_cons (pe_call (ok_law_pair T) hr3 rfl T.g_law_pair T.F_law_pair.kp T.b_law_pair .nil pass0 (pa_cons (pv 2) pa_nil)) (pa_cons (pe_call (ok_law_pair T) hr3 rfl T.g_law_pair T.F_law_pair.kp T.b_law_pair .nil pass0 (pa_cons (pv 3) pa_nil)) pa_nil))) (pe_lst (pa_cons (pe_call (ok_law_least T) hr1 rfl T.g_law_least T.F_law_least.kp T.b_law_least .nil pass0 (pa_cons (pv 4) (pa_cons (pv 5) pa_nil))) (pa_cons (pe_call (ok_law_least T) hr1 rfl T.g_law_least T.F_law_least.kp T.b_law_least .nil pass0 (pa_cons (pv 6) (pa_cons (pv 7) pa_nil))) pa_nil))) (nomark _)))))))))))))))), ?_⟩
    refine ⟨_, rfl, u, _, _, _, rfl, rfl, SqT.of h1.at_, rfl, _, rfl, u, _, _, _, rfl, rfl, SqT.of h1.at_, rfl, ?_⟩
    intro x1 dx2 n3 nd4 ne5
    refine ⟨x1, dx2, t1, b1, rfl, h1.ne, up_lt h1.lb (by decide), upd_same, rfl, ?_⟩
    obtain ⟨s6, h7⟩ := made_num (C := A.c_Number) (Rat.divInt t1 b1) n3 nd4
    generalize upd (upd (upd H dx2 (.own x1)) x1 (.ins A.c_Number dx2 [])) x1 (.ins A.c_Number dx2 (nf (Rat.divInt t1 b1))) = H8 at *
    rw [← ep] at h7
    have g9 := (Same.refl H).trans s6
    have g10 := h1.mono s6
    have g11 := h2.mono s6
    clear h1 h2
    refine ⟨_, rfl, v, _, _, _, rfl, rfl, SqT.of g11.at_, rfl, _, rfl, v, _, _, _, rfl, rfl, SqT.of g11.at_, rfl, ?_⟩
    intro x12 dx13 n14 nd15 ne16
    refine ⟨x12, dx13, t2, b2, rfl, g11.ne, up_lt g11.lb (by decide), upd_same, rfl, ?_⟩
    obtain ⟨s17, h18⟩ := made_num (C := A.c_Number) (Rat.divInt t2 b2) n14 nd15
    generalize upd (upd (upd H8 dx13 (.own x12)) x12 (.ins A.c_Number dx13 [])) x12 (.ins A.c_Number dx13 (nf (Rat.divInt t2 b2))) = H19 at *
    rw [← eq] at h18
    have f20 := h7.mono s17
    have g21 := g9.trans s17
    have g22 := g10.mono s17
    have g23 := g11.mono s17
    clear h7 g9 g10 g11
    refine ⟨_, _, rfl, ?_⟩
    refine stT (σ' := [some (.ref u), some (.ref v), some (.ref x1), some (.ref x12), none, none, none, none, none, none, none, none, none]) rfl ?_
    refine ⟨_, rfl, u, _, _, _, rfl, rfl, SqT.of g22.at_, rfl, _, rfl, u, _, _, _, rfl, rfl, SqT.of g22.at_, rfl, _, rfl, v, _, _, _, rfl, rfl, SqT.of g23.at_, rfl, _, rfl, v, _, _, _, rfl, rfl, SqT.of g23.at_, rfl, (by show 4 ≤ sizeLine; decide), fun l24 nl25 => ?_⟩
    have n029 : H l24 = none := (g21).free nl25
    have e28 : (upd H19 l24 (.tup [.int t1, .int b1, .int t2, .int b2])) l24 = some (.tup [.int t1, .int b1, .int t2, .int b2]) := upd_same
    have s27 := same_new (o := .tup [.int t1, .int b1, .int t2, .int b2]) nl25
    generalize upd H19 l24 (.tup [.int t1, .int b1, .int t2, .int b2]) = H26 at *
    have f30 := f20.mono s27
    have f31 := h18.mono s27
    have g32 := g21.trans s27
    have g33 := g22.mono s27
    have g34 := g23.mono s27
    clear f20 h18 g21 g22 g23
    refine ⟨l24, _, rfl, SqT.of e28, rfl, _, _, rfl, _, _, rfl, _, _, rfl, _, _, rfl, rfl, ?_⟩
    refine stT (σ' := [some (.ref u), some (.ref v), some (.ref x1), some (.ref x12), some (.int t1), some (.int b1), some (.int t2), some (.int b2), none, none, none, none, none]) rfl ?_
    refine ⟨_, rfl, _, rfl, x1, _, _, x12, _, _, rfl, rfl, f30.choose_spec, f31.choose_spec, x1, x12, _, _, rfl, f30, f31, (bp.mono (by decide)), (bq.mono (by decide)), fun x35 H36 s37 n38 h39 => ?_⟩
    have f40 := f30.mono s37
    have f41 := f31.mono s37
    have g42 := g32.trans s37
    have g43 := g33.mono s37
    have g44 := g34.mono s37
    have g45 := s37 _ _ e28
    clear f30 f31 g32 g33 g34 e28
    refine ⟨x35, _, rfl, h39, fun r46 H47 s48 n49 e50 => ?_⟩
    have f51 := f40.mono s48
    have f52 := f41.mono s48
    have f53 := h39.mono s48
    have g54 := g42.trans s48
    have g55 := g43.mono s48
    have g56 := g44.mono s48
    have g57 := s48 _ _ g45
    clear f40 f41 h39 g42 g43 g44 g45
    have pq58 : PQ H47 r46 (p + q) 1900 := ⟨e50, (bp.add bq).mono (by decide)⟩
    refine ⟨_, rfl, _, rfl, x1, _, _, x12, _, _, rfl, rfl, f51.choose_spec, f52.choose_spec, x1, x12, _, _, rfl, f51, f52, (bp.mono (by decide)), (bq.mono (by decide)), fun x59 H60 s61 n62 h63 => ?_⟩
    have f64 := f51.mono s61
    have f65 := f52.mono s61
    have f66 := f53.mono s61
    have g67 := g54.trans s61
    have g68 := g55.mono s61
    have g69 := g56.mono s61
    have g70 := s61 _ _ g57
    have g71 := pq58.same s61
    clear f51 f52 f53 g54 g55 g56 g57 pq58
    refine ⟨x59, _, rfl, h63, fun r72 H73 s74 n75 e76 => ?_⟩
    have f77 := f64.mono s74
    have f78 := f65.mono s74
    have f79 := f66.mono s74
    have f80 := h63.mono s74
    have g81 := g67.trans s74
    have g82 := g68.mono s74
    have g83 := g69.mono s74
    have g84 := s74 _ _ g70
    have g85 := g71.same s74
    clear f64 f65 f66 h63 g67 g68 g69 g70 g71
    have pq86 : PQ H73 r72 (p - q) 1900 := ⟨e76, (bp.sub bq).mono (by decide)⟩
    refine ⟨_, rfl, _, rfl, x1, _, _, x12, _, _, rfl, rfl, f77.choose_spec, f78.choose_spec, x1, x12, _, _, rfl, f77, f78, (bp.mono (by decide)), (bq.mono (by decide)), fun x87 H88 s89 n90 h91 => ?_⟩
    have f92 := f77.mono s89
    have f93 := f78.mono s89
    have f94 := f79.mono s89
    have f95 := f80.mono s89
    have g96 := g81.trans s89
    have g97 := g82.mono s89
    have g98 := g83.mono s89
    have g99 := s89 _ _ g84
    have g100 := g85.same s89
    have g101 := pq86.same s89
    clear f77 f78 f79 f80 g81 g82 g83 g84 g85 pq86
    refine ⟨x87, _, rfl, h91, fun r102 H103 s104 n105 e106 => ?_⟩
    have f107 := f92.mono s104
    have f108 := f93.mono s104
    have f109 := f94.mono s104
    have f110 := f95.mono s104
    have f111 := h91.mono s104
    have g112 := g96.trans s104
    have g113 := g97.mono s104
    have g114 := g98.mono s104
    have g115 := s104 _ _ g99
    have g116 := g100.same s104
    have g117 := g101.same s104
    clear f92 f93 f94 f95 h91 g96 g97 g98 g99 g100 g101
    have pq118 : PQ H103 r102 (p * q) 1900 := ⟨e106, (bp.mul bq).mono (by decide)⟩
    refine ⟨_, rfl, x1, _, _, rfl, f107.choose_spec, x1, _, rfl, f107, (bp.mono (by decide)), fun x119 H120 s121 n122 h123 => ?_⟩
    have f124 := f107.mono s121
    have f125 := f108.mono s121
    have f126 := f109.mono s121
    have f127 := f110.mono s121
    have f128 := f111.mono s121
    have g129 := g112.trans s121
    have g130 := g113.mono s121
    have g131 := g114.mono s121
    have g132 := s121 _ _ g115
    have g133 := g116.same s121
    have g134 := g117.same s121
    have g135 := pq118.same s121
    clear f107 f108 f109 f110 f111 g112 g113 g114 g115 g116 g117 pq118
    refine ⟨x119, _, rfl, h123, fun r136 H137 s138 n139 e140 => ?_⟩
    have f141 := f124.mono s138
    have f142 := f125.mono s138
    have f143 := f126.mono s138
    have f144 := f127.mono s138
    have f145 := f128.mono s138
    have f146 := h123.mono s138
    have g147 := g129.trans s138
    have g148 := g130.mono s138
    have g149 := g131.mono s138
    have g150 := s138 _ _ g132
    have g151 := g133.same s138
    have g152 := g134.same s138
    have g153 := g135.same s138
    clear f124 f125 f126 f127 f128 h123 g129 g130 g131 g132 g133 g134 g135
    have pq154 : PQ H137 r136 (-p) 1900 := ⟨e140, bp.neg.mono (by decide)⟩
    refine ⟨(by show 4 ≤ sizeLine; decide), fun l155 nl156 => ?_⟩
    have n0160 : H l155 = none := (g147).free nl156
    have e159 : (upd H137 l155 (.lst [.ref r46, .ref r72, .ref r102, .ref r136])) l155 = some (.lst [.ref r46, .ref r72, .ref r102, .ref r136]) := upd_same
    have s158 := same_new (o := .lst [.ref r46, .ref r72, .ref r102, .ref r136]) nl156
    generalize upd H137 l155 (.lst [.ref r46, .ref r72, .ref r102, .ref r136]) = H157 at *
    have f161 := f141.mono s158
    have f162 := f142.mono s158
    have f163 := f143.mono s158
    have f164 := f144.mono s158
    have f165 := f145.mono s158
    have f166 := f146.mono s158
    have g167 := g147.trans s158
    have g168 := g148.mono s158
    have g169 := g149.mono s158
    have g170 := s158 _ _ g150
    have g171 := g151.same s158
    have g172 := g152.same s158
    have g173 := g153.same s158
    have g174 := pq154.same s158
    clear f141 f142 f143 f144 f145 f146 g147 g148 g149 g150 g151 g152 g153 pq154
    refine stT (σ' := [some (.ref u), some (.ref v), some (.ref x1), some (.ref x12), some (.int t1), some (.int b1), some (.int t2), some (.int b2), some (.ref l155), none, none, none, none]) rfl ?_
    refine ⟨_, rfl, .inl ⟨rfl, _, SqL.of e159⟩, _, rfl, x1, _, _, rfl, f161.choose_spec, x1, _, rfl, f161, (bp.mono (by decide)), fun x175 H176 s177 n178 h179 => ?_⟩
    have f180 := f161.mono s177
    have f181 := f162.mono s177
    have f182 := f163.mono s177
    have f183 := f164.mono s177
    have f184 := f165.mono s177
    have f185 := f166.mono s177
    have g186 := g167.trans s177
    have g187 := g168.mono s177
    have g188 := g169.mono s177
    have g189 := s177 _ _ g170
    have g190 := g171.same s177
    have g191 := g172.same s177
    have g192 := g173.same s177
    have g193 := g174.same s177
    have g194 := s177 _ _ e159
    clear f161 f162 f163 f164 f165 f166 g167 g168 g169 g170 g171 g172 g173 g174 e159
    refine ⟨x175, _, rfl, h179, fun r195 H196 s197 n198 e199 => ?_⟩
    have f200 := f180.mono s197
    have f201 := f181.mono s197
    have f202 := f182.mono s197
    have f203 := f183.mono s197
    have f204 := f184.mono s197
    have f205 := f185.mono s197
    have f206 := h179.mono s197
    have g207 := g186.trans s197
    have g208 := g187.mono s197
    have g209 := g188.mono s197
    have g210 := s197 _ _ g189
    have g211 := g190.same s197
    have g212 := g191.same s197
    have g213 := g192.same s197
    have g214 := g193.same s197
    have g215 := s197 _ _ g194
    clear f180 f181 f182 f183 f184 f185 h179 g186 g187 g188 g189 g190 g191 g192 g193 g194
    have pq216 : PQ H196 r195 (rabs p) 1900 := ⟨e199, (_root_.Q.Bd.rabs bp).mono (by decide)⟩
    refine ⟨l155, [.ref r46, .ref r72, .ref r102, .ref r136], .ref r195, rfl, rfl, g215, (by show 4 < sizeLine; decide), ?_⟩
    have f217 := f200.upl (o := .lst ([.ref r46, .ref r72, .ref r102, .ref r136] ++ [.ref r195])) g215
    have f218 := f201.upl (o := .lst ([.ref r46, .ref r72, .ref r102, .ref r136] ++ [.ref r195])) g215
    have f219 := f202.upl (o := .lst ([.ref r46, .ref r72, .ref r102, .ref r136] ++ [.ref r195])) g215
    have f220 := f203.upl (o := .lst ([.ref r46, .ref r72, .ref r102, .ref r136] ++ [.ref r195])) g215
    have f221 := f204.upl (o := .lst ([.ref r46, .ref r72, .ref r102, .ref r136] ++ [.ref r195])) g215
    have f222 := f205.upl (o := .lst ([.ref r46, .ref r72, .ref r102, .ref r136] ++ [.ref r195])) g215
    have f223 := f206.upl (o := .lst ([.ref r46, .ref r72, .ref r102, .ref r136] ++ [.ref r195])) g215
    have g224 : Same H (upd H196 l155 (.lst ([.ref r46, .ref r72, .ref r102, .ref r136] ++ [.ref r195]))) := same_mut g207 n0160
    have g225 := g208.but (but_upd (o := .lst ([.ref r46, .ref r72, .ref r102, .ref r136] ++ [.ref r195]))) ⟨_, g215⟩
    have g226 := g209.but (but_upd (o := .lst ([.ref r46, .ref r72, .ref r102, .ref r136] ++ [.ref r195]))) ⟨_, g215⟩
    have g227 := g211.but (but_upd (o := .lst ([.ref r46, .ref r72, .ref r102, .ref r136] ++ [.ref r195]))) ⟨_, g215⟩
    have g228 := g212.but (but_upd (o := .lst ([.ref r46, .ref r72, .ref r102, .ref r136] ++ [.ref r195]))) ⟨_, g215⟩
    have g229 := g213.but (but_upd (o := .lst ([.ref r46, .ref r72, .ref r102, .ref r136] ++ [.ref r195]))) ⟨_, g215⟩
    have g230 := g214.but (but_upd (o := .lst ([.ref r46, .ref r72, .ref r102, .ref r136] ++ [.ref r195]))) ⟨_, g215⟩
    have g231 := pq216.but (but_upd (o := .lst ([.ref r46, .ref r72, .ref r102, .ref r136] ++ [.ref r195]))) ⟨_, g215⟩
    have e232 : (upd H196 l155 (.lst ([.ref r46, .ref r72, .ref r102, .ref r136] ++ [.ref r195]))) l155 = some (.lst [.ref r46, .ref r72, .ref r102, .ref r136, .ref r195]) := upd_same
    generalize upd H196 l155 (.lst ([.ref r46, .ref r72, .ref r102, .ref r136] ++ [.ref r195])) = H233 at *
    refine ⟨_, rfl, _, rfl, _, _, rfl, rfl, bdw g225.lt g226.lb, _, rfl, _, rfl, _, _, rfl, rfl, bdw g226.lt g225.lb, _, _, rfl, rfl, _, rfl, _, rfl, _, _, rfl, rfl, bdw g225.lb g226.lb, _, _, rfl, (Int.mul_ne_zero g225.ne g226.ne), (up_lt (imul_lt g225.lb g226.lb) (by decide)), fun r234 H235 s236 n237 e238 => ?_⟩
    rw [eadd] at e238
    have f239 := f217.mono s236
    have f240 := f218.mono s236
    have f241 := f219.mono s236
    have f242 := f220.mono s236
    have f243 := f221.mono s236
    have f244 := f222.mono s236
    have f245 := f223.mono s236
    have g246 := g224.trans s236
    have g247 := g225.mono s236
    have g248 := g226.mono s236
    have g249 := g227.same s236
    have g250 := g228.same s236
    have g251 := g229.same s236
    have g252 := g230.same s236
    have g253 := s236 _ _ e232
    have g254 := g231.same s236
    clear f217 f218 f219 f220 f221 f222 f223 g224 g225 g226 g227 g228 g229 g230 e232 g231
    have pq255 : PQ H235 r234 (p + q) 1900 := ⟨e238, (bp.add bq).mono (by decide)⟩
    refine ⟨_, rfl, _, rfl, _, _, rfl, rfl, bdw g247.lt g248.lb, _, rfl, _, rfl, _, _, rfl, rfl, bdw g248.lt g247.lb, _, _, rfl, rfl, _, rfl, _, rfl, _, _, rfl, rfl, bdw g247.lb g248.lb, _, _, rfl, (Int.mul_ne_zero g247.ne g248.ne), (up_lt (imul_lt g247.lb g248.lb) (by decide)), fun r256 H257 s258 n259 e260 => ?_⟩
    rw [esub] at e260
    have f261 := f239.mono s258
    have f262 := f240.mono s258
    have f263 := f241.mono s258
    have f264 := f242.mono s258
    have f265 := f243.mono s258
    have f266 := f244.mono s258
    have f267 := f245.mono s258
    have g268 := g246.trans s258
    have g269 := g247.mono s258
    have g270 := g248.mono s258
    have g271 := g249.same s258
    have g272 := g250.same s258
    have g273 := g251.same s258
    have g274 := g252.same s258
    have g275 := s258 _ _ g253
    have g276 := g254.same s258
    have g277 := pq255.same s258
    clear f239 f240 f241 f242 f243 f244 f245 g246 g247 g248 g249 g250 g251 g252 g253 g254 pq255
    have pq278 : PQ H257 r256 (p - q) 1900 := ⟨e260, (bp.sub bq).mono (by decide)⟩
    refine ⟨_, rfl, _, rfl, _, _, rfl, rfl, bdw g269.lt g270.lt, _, rfl, _, rfl, _, _, rfl, rfl, bdw g269.lb g270.lb, _, _, rfl, (Int.mul_ne_zero g269.ne g270.ne), (up_lt (imul_lt g269.lb g270.lb) (by decide)), fun r279 H280 s281 n282 e283 => ?_⟩
    rw [emul] at e283
    have f284 := f261.mono s281
    have f285 := f262.mono s281
    have f286 := f263.mono s281
    have f287 := f264.mono s281
    have f288 := f265.mono s281
    have f289 := f266.mono s281
    have f290 := f267.mono s281
    have g291 := g268.trans s281
    have g292 := g269.mono s281
    have g293 := g270.mono s281
    have g294 := g271.same s281
    have g295 := g272.same s281
    have g296 := g273.same s281
    have g297 := g274.same s281
    have g298 := s281 _ _ g275
    have g299 := g276.same s281
    have g300 := g277.same s281
    have g301 := pq278.same s281
    clear f261 f262 f263 f264 f265 f266 f267 g268 g269 g270 g271 g272 g273 g274 g275 g276 g277 pq278
    have pq302 : PQ H280 r279 (p * q) 1900 := ⟨e283, (bp.mul bq).mono (by decide)⟩
    refine ⟨(by show 3 ≤ sizeLine; decide), fun l303 nl304 => ?_⟩
    have n0308 : H l303 = none := (g291).free nl304
    have e307 : (upd H280 l303 (.lst [.ref r234, .ref r256, .ref r279])) l303 = some (.lst [.ref r234, .ref r256, .ref r279]) := upd_same
    have s306 := same_new (o := .lst [.ref r234, .ref r256, .ref r279]) nl304
    generalize upd H280 l303 (.lst [.ref r234, .ref r256, .ref r279]) = H305 at *
    have f309 := f284.mono s306
    have f310 := f285.mono s306
    have f311 := f286.mono s306
    have f312 := f287.mono s306
    have f313 := f288.mono s306
    have f314 := f289.mono s306
    have f315 := f290.mono s306
    have g316 := g291.trans s306
    have g317 := g292.mono s306
    have g318 := g293.mono s306
    have g319 := g294.same s306
    have g320 := g295.same s306
    have g321 := g296.same s306
    have g322 := g297.same s306
    have g323 := s306 _ _ g298
    have g324 := g299.same s306
    have g325 := g300.same s306
    have g326 := g301.same s306
    have g327 := pq302.same s306
    clear f284 f285 f286 f287 f288 f289 f290 g291 g292 g293 g294 g295 g296 g297 g298 g299 g300 g301 pq302
    refine stT (σ' := [some (.ref u), some (.ref v), some (.ref x1), some (.ref x12), some (.int t1), some (.int b1), some (.int t2), some (.int b2), some (.ref l155), some (.ref l303), none, none, none]) rfl ?_
    refine ⟨_, rfl, _, rfl, _, rfl, _, rfl, _, _, rfl, g317.ne, (up_lt g317.lb (by decide)), fun r328 H329 s330 n331 e332 => ?_⟩
    rw [eneg] at e332
    have f333 := f309.mono s330
    have f334 := f310.mono s330
    have f335 := f311.mono s330
    have f336 := f312.mono s330
    have f337 := f313.mono s330
    have f338 := f314.mono s330
    have f339 := f315.mono s330
    have g340 := g316.trans s330
    have g341 := g317.mono s330
    have g342 := g318.mono s330
    have g343 := g319.same s330
    have g344 := g320.same s330
    have g345 := g321.same s330
    have g346 := g322.same s330
    have g347 := s330 _ _ g323
    have g348 := g324.same s330
    have g349 := g325.same s330
    have g350 := g326.same s330
    have g351 := g327.same s330
    have g352 := s330 _ _ e307
    clear f309 f310 f311 f312 f313 f314 f315 g316 g317 g318 g319 g320 g321 g322 g323 g324 g325 g326 g327 e307
    have pq353 : PQ H329 r328 (-p) 1900 := ⟨e332, bp.neg.mono (by decide)⟩
    refine ⟨_, rfl, _, rfl, _, rfl, _, rfl, _, _, rfl, (abs_ne g341.ne), (abs_up g341.lb (by decide)), fun r354 H355 s356 n357 e358 => ?_⟩
    rw [eabs] at e358
    have f359 := f333.mono s356
    have f360 := f334.mono s356
    have f361 := f335.mono s356
    have f362 := f336.mono s356
    have f363 := f337.mono s356
    have f364 := f338.mono s356
    have f365 := f339.mono s356
    have g366 := g340.trans s356
    have g367 := g341.mono s356
    have g368 := g342.mono s356
    have g369 := g343.same s356
    have g370 := g344.same s356
    have g371 := g345.same s356
    have g372 := g346.same s356
    have g373 := s356 _ _ g347
    have g374 := g348.same s356
    have g375 := g349.same s356
    have g376 := g350.same s356
    have g377 := g351.same s356
    have g378 := s356 _ _ g352
    have g379 := pq353.same s356
    clear f333 f334 f335 f336 f337 f338 f339 g340 g341 g342 g343 g344 g345 g346 g347 g348 g349 g350 g351 g352 pq353
    have pq380 : PQ H355 r354 (rabs p) 1900 := ⟨e358, (_root_.Q.Bd.rabs bp).mono (by decide)⟩
    refine ⟨(by show 2 ≤ sizeLine; decide), fun l381 nl382 => ?_⟩
    have n0386 : H l381 = none := (g366).free nl382
    have e385 : (upd H355 l381 (.lst [.ref r328, .ref r354])) l381 = some (.lst [.ref r328, .ref r354]) := upd_same
    have s384 := same_new (o := .lst [.ref r328, .ref r354]) nl382
    generalize upd H355 l381 (.lst [.ref r328, .ref r354]) = H383 at *
    have f387 := f359.mono s384
    have f388 := f360.mono s384
    have f389 := f361.mono s384
    have f390 := f362.mono s384
    have f391 := f363.mono s384
    have f392 := f364.mono s384
    have f393 := f365.mono s384
    have g394 := g366.trans s384
    have g395 := g367.mono s384
    have g396 := g368.mono s384
    have g397 := g369.same s384
    have g398 := g370.same s384
    have g399 := g371.same s384
    have g400 := g372.same s384
    have g401 := s384 _ _ g373
    have g402 := g374.same s384
    have g403 := g375.same s384
    have g404 := g376.same s384
    have g405 := g377.same s384
    have g406 := s384 _ _ g378
    have g407 := g379.same s384
    have g408 := pq380.same s384
    clear f359 f360 f361 f362 f363 f364 f365 g366 g367 g368 g369 g370 g371 g372 g373 g374 g375 g376 g377 g378 g379 pq380
    refine ⟨l303, l381, _, _, rfl, rfl, g406, e385, (by show 5 ≤ sizeLine; decide), fun l409 nl410 => ?_⟩
    have e413 : (upd H383 l409 (.lst ([.ref r234, .ref r256, .ref r279] ++ [.ref r328, .ref r354]))) l409 = some (.lst [.ref r234, .ref r256, .ref r279, .ref r328, .ref r354]) := upd_same
    have s412 := same_new (o := .lst ([.ref r234, .ref r256, .ref r279] ++ [.ref r328, .ref r354])) nl410
    generalize upd H383 l409 (.lst ([.ref r234, .ref r256, .ref r279] ++ [.ref r328, .ref r354])) = H411 at *
    have f414 := f387.mono s412
    have f415 := f388.mono s412
    have f416 := f389.mono s412
    have f417 := f390.mono s412
    have f418 := f391.mono s412
    have f419 := f392.mono s412
    have f420 := f393.mono s412
    have g421 := g394.trans s412
    have g422 := g395.mono s412
    have g423 := g396.mono s412
    have g424 := g397.same s412
    have g425 := g398.same s412
    have g426 := g399.same s412
    have g427 := g400.same s412
    have g428 := s412 _ _ g401
    have g429 := g402.same s412
    have g430 := g403.same s412
    have g431 := g404.same s412
    have g432 := g405.same s412
    have g433 := s412 _ _ g406
    have g434 := g407.same s412
    have g435 := g408.same s412
    have g436 := s412 _ _ e385
    clear f387 f388 f389 f390 f391 f392 f393 g394 g395 g396 g397 g398 g399 g400 g401 g402 g403 g404 g405 g406 g407 g408 e385
    refine stT (σ' := [some (.ref u), some (.ref v), some (.ref x1), some (.ref x12), some (.int t1), some (.int b1), some (.int t2), some (.int b2), some (.ref l155), some (.ref l409), none, none, none]) rfl ?_
    refine ⟨_, rfl, l155, (.list [pqD (p + q), pqD (p - q), pqD (p * q), pqD (-p), pqD (rabs p)]), _, 2, rfl, .lst (SqL.of g428) (.cons g424.dp (.cons g425.dp (.cons g426.dp (.cons g427.dp (.cons g429.dp .nil))))), .list (List.forall_mem_cons.mpr ⟨pqD_shows ((bp.add bq).mono (by decide)), List.forall_mem_cons.mpr ⟨pqD_shows ((bp.sub bq).mono (by decide)), List.forall_mem_cons.mpr ⟨pqD_shows ((bp.mul bq).mono (by decide)), List.forall_mem_cons.mpr ⟨pqD_shows (bp.neg.mono (by decide)), List.forall_mem_cons.mpr ⟨pqD_shows ((_root_.Q.Bd.rabs bp).mono (by decide)), List.forall_mem_nil _⟩⟩⟩⟩⟩), (by show 3851 * 5 + 3 ≤ 16000000; decide), by decide, _, rfl, l409, (.list [pqD (p + q), pqD (p - q), pqD (p * q), pqD (-p), pqD (rabs p)]), _, 2, rfl, .lst (SqL.of e413) (.cons g430.dp (.cons g431.dp (.cons g432.dp (.cons g434.dp (.cons g435.dp .nil))))), .list (List.forall_mem_cons.mpr ⟨pqD_shows ((bp.add bq).mono (by decide)), List.forall_mem_cons.mpr ⟨pqD_shows ((bp.sub bq).mono (by decide)), List.forall_mem_cons.mpr ⟨pqD_shows ((bp.mul bq).mono (by decide)), List.forall_mem_cons.mpr ⟨pqD_shows (bp.neg.mono (by decide)), List.forall_mem_cons.mpr ⟨pqD_shows ((_root_.Q.Bd.rabs bp).mono (by decide)), List.forall_mem_nil _⟩⟩⟩⟩⟩), (by show 3851 * 5 + 3 ≤ 16000000; decide), by decide, rfl, _, rfl, ?_⟩
    refine iteF' (nes rfl) ?_
    refine ⟨fun σ' H' => σ' = [some (.ref u), some (.ref v), some (.ref x1), some (.ref x12), some (.int t1), some (.int b1), some (.int t2), some (.int b2), some (.ref l155), some (.ref l409), some (.int (sgn (b1 * b2))), none, none] ∧ H411 = H', ?_, ?_⟩
    · refine ⟨_, rfl, _, rfl, _, _, rfl, rfl, bdw g422.lb g423.lb, _, _, rfl, rfl, _, rfl, ?_⟩
      refine ite2 (fun h => ?_) (fun h => ?_)
      · have h := of_decide_eq_true h
        exact ⟨by rw [sgn, if_pos h]; rfl, rfl⟩
      · have h := fun z => h (decide_eq_true z)
        exact ⟨_, rfl, by rw [sgn, if_neg h]; rfl, rfl⟩
    rintro σ' H' ⟨rfl, rfl⟩
    refine ⟨_, rfl, _, rfl, _, _, rfl, rfl, bdw g422.lt g423.lb, _, rfl, _, _, rfl, rfl, bdw (imul_lt g422.lt g423.lb) (sgn_lt _), _, rfl, _, rfl, _, _, rfl, rfl, bdw g423.lt g422.lb, _, rfl, _, _, rfl, rfl, bdw (imul_lt g423.lt g422.lb) (sgn_lt _), _, _, rfl, ?_⟩
    refine stT (σ' := [some (.ref u), some (.ref v), some (.ref x1), some (.ref x12), some (.int t1), some (.int b1), some (.int t2), some (.int b2), some (.ref l155), some (.ref l409), some (.int (sgn (b1 * b2))), some (.int (t1 * b2 * sgn (b1 * b2))), some (.int (t2 * b1 * sgn (b1 * b2)))]) rfl ?_
    refine ⟨_, rfl, x1, _, _, rfl, f414.choose_spec, nf_no _ (by decide +kernel) (by decide +kernel), _, rfl, x1, x12, _, _, rfl, f414, f415, (bp.mono (by decide)), (bq.mono (by decide)), _, rfl, x12, _, _, rfl, f415.choose_spec, nf_no _ (by decide +kernel) (by decide +kernel), _, rfl, x12, x1, _, _, rfl, f415, f414, (bq.mono (by decide)), (bp.mono (by decide)), _, rfl, x1, _, _, rfl, f414.choose_spec, nf_no _ (by decide +kernel) (by decide +kernel), _, rfl, x1, x1, _, _, rfl, f414, f414, (bp.mono (by decide)), (bp.mono (by decide)), _, rfl, _, rfl, x1, _, _, _, rfl, f414.choose_spec, .base (.ins f415.choose_spec T.cl_Number T.ca_Number T.cn T.ct T.cm_Number), (by simp [PySem.W.notFirst]), x1, x12, _, _, rfl, f414, f415, _, rfl, _, rfl, x1, _, _, _, rfl, f414.choose_spec, .base (.ins f415.choose_spec T.cl_Number T.ca_Number T.cn T.ct T.cm_Number), (by simp [PySem.W.notFirst]), x1, x12, _, _, rfl, f414, f415, _, rfl, _, rfl, x1, _, _, rfl, f414.choose_spec, x1, _, rfl, f414, _, rfl, (by show 6 ≤ sizeLine; decide), fun l437 nl438 => ?_⟩
    have n0442 : H l437 = none := (g421).free nl438
    have e441 : (upd H411 l437 (.lst [.bl (decide (p < q)), .bl (decide (q < p)), .bl (decide (p < p)), .bl (decide (p = q)), .bl (!decide (p = q)), .bl (!decide (p = 0))])) l437 = some (.lst [.bl (decide (p < q)), .bl (decide (q < p)), .bl (decide (p < p)), .bl (decide (p = q)), .bl (!decide (p = q)), .bl (!decide (p = 0))]) := upd_same
    have s440 := same_new (o := .lst [.bl (decide (p < q)), .bl (decide (q < p)), .bl (decide (p < p)), .bl (decide (p = q)), .bl (!decide (p = q)), .bl (!decide (p = 0))]) nl438
    generalize upd H411 l437 (.lst [.bl (decide (p < q)), .bl (decide (q < p)), .bl (decide (p < p)), .bl (decide (p = q)), .bl (!decide (p = q)), .bl (!decide (p = 0))]) = H439 at *
    have f443 := f414.mono s440
    have f444 := f415.mono s440
    have f445 := f416.mono s440
    have f446 := f417.mono s440
    have f447 := f418.mono s440
    have f448 := f419.mono s440
    have f449 := f420.mono s440
    have g450 := g421.trans s440
    have g451 := g422.mono s440
    have g452 := g423.mono s440
    clear f414 f415 f416 f417 f418 f419 f420 g421 g422 g423
    refine stT (σ' := [some (.ref u), some (.ref v), some (.ref x1), some (.ref x12), some (.int t1), some (.int b1), some (.int t2), some (.int b2), some (.ref l437), some (.ref l409), some (.int (sgn (b1 * b2))), some (.int (t1 * b2 * sgn (b1 * b2))), some (.int (t2 * b1 * sgn (b1 * b2)))]) rfl ?_
    refine ⟨_, rfl, _, rfl, _, _, rfl, rfl, _, rfl, _, rfl, _, _, rfl, rfl, _, rfl, _, rfl, rfl, _, rfl, _, rfl, rfl, _, rfl, rfl, (by show 6 ≤ sizeLine; decide), fun l453 nl454 => ?_⟩
    have n0458 : H l453 = none := (g450).free nl454
    have e457 : (upd H439 l453 (.lst [.bl (decide (t1 * b2 * sgn (b1 * b2) < t2 * b1 * sgn (b1 * b2))), .bl (decide (t2 * b1 * sgn (b1 * b2) < t1 * b2 * sgn (b1 * b2))), .bl (false), .bl (decide (V.int (t1 * b2 * sgn (b1 * b2)) = V.int (t2 * b1 * sgn (b1 * b2)))), .bl (!decide (V.int (t1 * b2 * sgn (b1 * b2)) = V.int (t2 * b1 * sgn (b1 * b2)))), .bl (!decide (V.int t1 = V.int 0))])) l453 = some (.lst [.bl (decide (t1 * b2 * sgn (b1 * b2) < t2 * b1 * sgn (b1 * b2))), .bl (decide (t2 * b1 * sgn (b1 * b2) < t1 * b2 * sgn (b1 * b2))), .bl (false), .bl (decide (V.int (t1 * b2 * sgn (b1 * b2)) = V.int (t2 * b1 * sgn (b1 * b2)))), .bl (!decide (V.int (t1 * b2 * sgn (b1 * b2)) = V.int (t2 * b1 * sgn (b1 * b2)))), .bl (!decide (V.int t1 = V.int 0))]) := upd_same
    have s456 := same_new (o := .lst [.bl (decide (t1 * b2 * sgn (b1 * b2) < t2 * b1 * sgn (b1 * b2))), .bl (decide (t2 * b1 * sgn (b1 * b2) < t1 * b2 * sgn (b1 * b2))), .bl (false), .bl (decide (V.int (t1 * b2 * sgn (b1 * b2)) = V.int (t2 * b1 * sgn (b1 * b2)))), .bl (!decide (V.int (t1 * b2 * sgn (b1 * b2)) = V.int (t2 * b1 * sgn (b1 * b2)))), .bl (!decide (V.int t1 = V.int 0))]) nl454
    generalize upd H439 l453 (.lst [.bl (decide (t1 * b2 * sgn (b1 * b2) < t2 * b1 * sgn (b1 * b2))), .bl (decide (t2 * b1 * sgn (b1 * b2) < t1 * b2 * sgn (b1 * b2))), .bl (false), .bl (decide (V.int (t1 * b2 * sgn (b1 * b2)) = V.int (t2 * b1 * sgn (b1 * b2)))), .bl (!decide (V.int (t1 * b2 * sgn (b1 * b2)) = V.int (t2 * b1 * sgn (b1 * b2)))), .bl (!decide (V.int t1 = V.int 0))]) = H455 at *
    have f459 := f443.mono s456
    have f460 := f444.mono s456
    have f461 := f445.mono s456
    have f462 := f446.mono s456
    have f463 := f447.mono s456
    have f464 := f448.mono s456
    have f465 := f449.mono s456
    have g466 := g450.trans s456
    have g467 := g451.mono s456
    have g468 := g452.mono s456
    have g469 := s456 _ _ e441
    clear f443 f444 f445 f446 f447 f448 f449 g450 g451 g452 e441
    refine stT (σ' := [some (.ref u), some (.ref v), some (.ref x1), some (.ref x12), some (.int t1), some (.int b1), some (.int t2), some (.int b2), some (.ref l437), some (.ref l453), some (.int (sgn (b1 * b2))), some (.int (t1 * b2 * sgn (b1 * b2))), some (.int (t2 * b1 * sgn (b1 * b2)))]) rfl ?_
    refine ⟨_, rfl, l437, (.list [.bool (decide (p < q)), .bool (decide (q < p)), .bool (decide (p < p)), .bool (decide (p = q)), .bool (!decide (p = q)), .bool (!decide (p = 0))]), _, 1, rfl, .lst (SqL.of g469) (.cons (.bl _) (.cons (.bl _) (.cons (.bl _) (.cons (.bl _) (.cons (.bl _) (.cons (.bl _) .nil)))))), .list (List.forall_mem_cons.mpr ⟨.bool, List.forall_mem_cons.mpr ⟨.bool, List.forall_mem_cons.mpr ⟨.bool, List.forall_mem_cons.mpr ⟨.bool, List.forall_mem_cons.mpr ⟨.bool, List.forall_mem_cons.mpr ⟨.bool, List.forall_mem_nil _⟩⟩⟩⟩⟩⟩), (by show 7 * 6 + 3 ≤ 16000000; decide), by decide, _, rfl, l453, (.list [.bool (decide (t1 * b2 * sgn (b1 * b2) < t2 * b1 * sgn (b1 * b2))), .bool (decide (t2 * b1 * sgn (b1 * b2) < t1 * b2 * sgn (b1 * b2))), .bool (false), .bool (decide (V.int (t1 * b2 * sgn (b1 * b2)) = V.int (t2 * b1 * sgn (b1 * b2)))), .bool (!decide (V.int (t1 * b2 * sgn (b1 * b2)) = V.int (t2 * b1 * sgn (b1 * b2)))), .bool (!decide (V.int t1 = V.int 0))]), _, 1, rfl, .lst (SqL.of e457) (.cons (.bl _) (.cons (.bl _) (.cons (.bl _) (.cons (.bl _) (.cons (.bl _) (.cons (.bl _) .nil)))))), .list (List.forall_mem_cons.mpr ⟨.bool, List.forall_mem_cons.mpr ⟨.bool, List.forall_mem_cons.mpr ⟨.bool, List.forall_mem_cons.mpr ⟨.bool, List.forall_mem_cons.mpr ⟨.bool, List.forall_mem_cons.mpr ⟨.bool, List.forall_mem_nil _⟩⟩⟩⟩⟩⟩), (by show 7 * 6 + 3 ≤ 16000000; decide), by decide, rfl, _, rfl, ?_⟩
    refine iteF' (nes (six_same g467.ne g468.ne ep eq)) ?_
    refine ⟨_, rfl, x1, _, rfl, f459, fun r470 H471 s472 n473 e474 => ?_⟩
    have f475 := f459.mono s472
    have f476 := f460.mono s472
    have f477 := f461.mono s472
    have f478 := f462.mono s472
    have f479 := f463.mono s472
    have f480 := f464.mono s472
    have f481 := f465.mono s472
    have g482 := g466.trans s472
    have g483 := g467.mono s472
    have g484 := g468.mono s472
    have g485 := s472 _ _ g469
    have g486 := s472 _ _ e457
    clear f459 f460 f461 f462 f463 f464 f465 g466 g467 g468 g469 e457
    have pq487 : PQ H471 r470 p 1900 := ⟨e474, bp.mono (by decide)⟩
    refine ⟨_, rfl, x12, _, rfl, f476, fun r488 H489 s490 n491 e492 => ?_⟩
    have f493 := f475.mono s490
    have f494 := f476.mono s490
    have f495 := f477.mono s490
    have f496 := f478.mono s490
    have f497 := f479.mono s490
    have f498 := f480.mono s490
    have f499 := f481.mono s490
    have g500 := g482.trans s490
    have g501 := g483.mono s490
    have g502 := g484.mono s490
    have g503 := s490 _ _ g485
    have g504 := s490 _ _ g486
    have g505 := pq487.same s490
    clear f475 f476 f477 f478 f479 f480 f481 g482 g483 g484 g485 g486 pq487
    have pq506 : PQ H489 r488 q 1900 := ⟨e492, bq.mono (by decide)⟩
    refine ⟨(by show 2 ≤ sizeLine; decide), fun l507 nl508 => ?_⟩
    have n0512 : H l507 = none := (g500).free nl508
    have e511 : (upd H489 l507 (.lst [.ref r470, .ref r488])) l507 = some (.lst [.ref r470, .ref r488]) := upd_same
    have s510 := same_new (o := .lst [.ref r470, .ref r488]) nl508
    generalize upd H489 l507 (.lst [.ref r470, .ref r488]) = H509 at *
    have f513 := f493.mono s510
    have f514 := f494.mono s510
    have f515 := f495.mono s510
    have f516 := f496.mono s510
    have f517 := f497.mono s510
    have f518 := f498.mono s510
    have f519 := f499.mono s510
    have g520 := g500.trans s510
    have g521 := g501.mono s510
    have g522 := g502.mono s510
    have g523 := s510 _ _ g503
    have g524 := s510 _ _ g504
    have g525 := g505.same s510
    have g526 := pq506.same s510
    clear f493 f494 f495 f496 f497 f498 f499 g500 g501 g502 g503 g504 g505 pq506
    refine ⟨_, rfl, _, rfl, _, _, rfl, g521.ne, (up_lt g521.lb (by decide)), fun r527 H528 s529 n530 e531 => ?_⟩
    rw [← ep] at e531
    have f532 := f513.mono s529
    have f533 := f514.mono s529
    have f534 := f515.mono s529
    have f535 := f516.mono s529
    have f536 := f517.mono s529
    have f537 := f518.mono s529
    have f538 := f519.mono s529
    have g539 := g520.trans s529
    have g540 := g521.mono s529
    have g541 := g522.mono s529
    have g542 := s529 _ _ g523
    have g543 := s529 _ _ g524
    have g544 := g525.same s529
    have g545 := g526.same s529
    have g546 := s529 _ _ e511
    clear f513 f514 f515 f516 f517 f518 f519 g520 g521 g522 g523 g524 g525 g526 e511
    have pq547 : PQ H528 r527 p 1900 := ⟨e531, bp.mono (by decide)⟩
    refine ⟨_, rfl, _, rfl, _, _, rfl, g541.ne, (up_lt g541.lb (by decide)), fun r548 H549 s550 n551 e552 => ?_⟩
    rw [← eq] at e552
    have f553 := f532.mono s550
    have f554 := f533.mono s550
    have f555 := f534.mono s550
    have f556 := f535.mono s550
    have f557 := f536.mono s550
    have f558 := f537.mono s550
    have f559 := f538.mono s550
    have g560 := g539.trans s550
    have g561 := g540.mono s550
    have g562 := g541.mono s550
    have g563 := s550 _ _ g542
    have g564 := s550 _ _ g543
    have g565 := g544.same s550
    have g566 := g545.same s550
    have g567 := s550 _ _ g546
    have g568 := pq547.same s550
    clear f532 f533 f534 f535 f536 f537 f538 g539 g540 g541 g542 g543 g544 g545 g546 pq547
    have pq569 : PQ H549 r548 q 1900 := ⟨e552, bq.mono (by decide)⟩
    refine ⟨(by show 2 ≤ sizeLine; decide), fun l570 nl571 => ?_⟩
    have n0575 : H l570 = none := (g560).free nl571
    have e574 : (upd H549 l570 (.lst [.ref r527, .ref r548])) l570 = some (.lst [.ref r527, .ref r548]) := upd_same
    have s573 := same_new (o := .lst [.ref r527, .ref r548]) nl571
    generalize upd H549 l570 (.lst [.ref r527, .ref r548]) = H572 at *
    have f576 := f553.mono s573
    have f577 := f554.mono s573
    have f578 := f555.mono s573
    have f579 := f556.mono s573
    have f580 := f557.mono s573
    have f581 := f558.mono s573
    have f582 := f559.mono s573
    have g583 := g560.trans s573
    have g584 := g561.mono s573
    have g585 := g562.mono s573
    have g586 := s573 _ _ g563
    have g587 := s573 _ _ g564
    have g588 := g565.same s573
    have g589 := g566.same s573
    have g590 := s573 _ _ g567
    have g591 := g568.same s573
    have g592 := pq569.same s573
    clear f553 f554 f555 f556 f557 f558 f559 g560 g561 g562 g563 g564 g565 g566 g567 g568 pq569
    refine ⟨(.list [pqD p, pqD q]), (.list [pqD p, pqD q]), .lst (SqL.of g590) (.cons g588.dp (.cons g589.dp .nil)), .lst (SqL.of e574) (.cons g591.dp (.cons g592.dp .nil)), rfl, rfl, ?_⟩
    rw [SeqAt.eqv_refl _ rfl]
    exact k _ g583
end
/-! ### the law -/
theorem but_same {p : Addr} {H0 H H' : Hp} (sb : SameBut p H H') (s : Same H0 H) (h : H0 p = none) : Same H0 H' := fun b o e => sb b o (s b o e) (ne_of_none e h)
def spLaw (K : PySem.W.Frag) : Sp := fun vs H Q _ => ∃ (a : Addr) (ns : List Int), vs = [.ref a] ∧ SqL K H a (ns.map V.int) ∧ ns.length ≤ 63 ∧ ∀ H', Q (.bl true) H'
section
variable {P : Program} {w : World} {K : PySem.W.Frag} {mg : Str → Option Value} {base : Heap} {A : Ad}
theorem turns3 (n : Int) : (if (if n < 3 then n else 3) > 1 then (if n < 3 then n else 3) else 1) ≤ 3 ∧ 1 ≤ (if (if n < 3 then n else 3) > 1 then (if n < 3 then n else 3) else 1) := by
  constructor <;> (repeat (first | split | omega))
theorem ok_law (T : Txt K mg A) : FnG P w K mg base CX0 8 A.f_law A.d_law ["script"] (spLaw K) := by
  refine okG T.F_law sc_law (fun vs H Q E h => ?_) (fun cdv B outer s H vs Q E hG hr h => ?_)
  · obtain ⟨a, ns, rfl, _⟩ := h
    rfl
  · obtain ⟨a, ns, rfl, hS, hlen, k⟩ := h
    have hr1 : Room 1 _ := hr.mono (by decide)
    have hr4 : Room 4 _ := hr.mono (by decide)
    have hr5 : Room 5 _ := hr.mono (by decide)
    have hr6 : Room 6 _ := hr.mono (by decide)
    refine ⟨_, (pss_cons (ps_for PassesOwn.never rfl (pi_range1 rfl T.z_range (pa_cons (pe_callB (call_max2 rfl) (by rfl) T.z_max (by decide +kernel) (pa_cons pe_int (pa_cons (pe_callB (call_min2 rfl) (by rfl) T.z_min (by decide +kernel) (pa_cons pe_int (pa_cons (pe_callB call_len_seq (by rfl) T.z_len (by decide +kernel) (pa_cons (pv 0) pa_nil)) pa_nil))) pa_nil))) pa_nil)) (pg_name (i := 1) sc_law.nd rfl (Or.inl rfl))
      (pss_cons (ps_set (i := 2) sc_law.nd rfl (Or.inl rfl) (pe_call (ok_law_pot T) hr1 rfl T.g_law_pot T.F_law_pot.kp T.b_law_pot .nil pass0 (pa_cons (pv 0) (pa_cons (pv 1) pa_nil))))
      (pss_one (ps_for PassesOwn.never rfl (pi_range1 rfl T.z_range (pa_cons pe_int pa_nil)) (pg_name (i := 3) sc_law.nd rfl (Or.inl rfl))
      (pss_cons (ps_set (i := 4) sc_law.nd rfl (Or.inl rfl) (pe_call (ok_law_drawn T) hr4 rfl T.g_law_drawn T.F_law_drawn.kp T.b_law_drawn .nil pass0 (pa_cons (pv 2) pa_nil)))
      (pss_one (ps_if (PW.pt (pw_or (pt_not (pt_val (pe_callG (ok_law_is_right T) hG hr6 rfl T.g_law_is_right T.F_law_is_right.kp T.b_law_is_right pass0 (pa_cons (pv 4) (pa_cons (pe_call (ok_law_near T) hr5 rfl T.g_law_near T.F_law_near.kp T.b_law_near .nil pass0 (pa_cons (pv 2) (pa_cons (pv 4) pa_nil))) pa_nil))))) (pw_or1 (pt_not (pt_val (pe_callG (ok_law_is_right T) hG hr6 rfl T.g_law_is_right T.F_law_is_right.kp T.b_law_is_right pass0 (pa_cons (pv 4) (pa_cons (pv 4) pa_nil)))))))) (pss_one (ps_ret pe_bl)) pss_nil)))))))
      (pss_one (ps_ret pe_bl))), ?_⟩
    refine ⟨_, rfl, a, _, rfl, Or.inl hS, _, _, rfl, _, _, rfl, _, rfl, ?_⟩
    have h3 := turns3 ((ns.map V.int).length : Int)
    generalize (if (if ((ns.map V.int).length : Int) < 3 then ((ns.map V.int).length : Int) else 3) > 1 then (if ((ns.map V.int).length : Int) < 3 then ((ns.map V.int).length : Int) else 3) else 1) = j at *
    refine ⟨by omega, by omega, for_range (lo := 0) (n := j.toNat) (fun i σ H' => ∃ v0 v1 v2 v3, σ = [some (.ref a), v0, v1, v2, v3] ∧ Same H H') ⟨none, none, none, none, rfl, Same.refl _⟩ ?_ ?_⟩
    · rintro i σ H' hi ⟨v0, v1, v2, v3, rfl, z⟩
      refine ⟨_, rfl, _, rfl, a, ns, _, rfl, z.seq hS, by omega, by omega, fun p H1 s1 np hP => ?_⟩
      have hHp : H p = none := z.free np
      generalize hkv : V.int (0 + (i : Int)) = kv
      refine ⟨8, rfl, by decide, by decide, for_range (lo := 0) (n := 8) (fun i2 σ Hh => ∃ u0 u1, σ = [some (.ref a), some kv, some (.ref p), u0, u1] ∧ Same H Hh ∧ Pot Hh p (10 * i2)) ⟨_, _, by rw [← hkv]; rfl, z.trans s1, hP⟩ ?_ ?_⟩
      · rintro i2 σ Hh hi2 ⟨u0, u1, rfl, zz, hPh⟩
        refine ⟨_, rfl, p, 10 * i2, rfl, hPh, by omega, fun t1 b1 x1 H2 f1 n1 P1 sb1 => ?_⟩
        refine stT (σ' := [some (.ref a), some kv, some (.ref p), some (.int (0 + (i2 : Int))), some (.ref x1)]) rfl ?_
        refine ⟨_, rfl, _, rfl, _, rfl, p, x1, 10 * i2 + 4, t1, b1, rfl, P1, by omega, f1, fun t2 b2 x2 H3 f2 P2 sb2 => ?_⟩
        have z3 : Same H H3 := but_same (sb1.trans sb2) zz hHp
        have g1 := f1.but sb2 P1.lst
        refine ⟨x1, x2, t1, b1, t2, b2, rfl, g1.up (by decide), f2, fun H4 s4 => ?_⟩
        refine ⟨_, rfl, ?_⟩
        refine iteF' rfl ?_
        refine ⟨_, rfl, _, rfl, x1, x1, t1, b1, t1, b1, rfl, (g1.mono s4).up (by decide), (g1.mono s4).up (by decide), fun H5 s5 => ?_⟩
        refine ⟨_, rfl, ?_⟩
        refine iteF' rfl ?_
        exact ⟨_, _, rfl, z3.trans (s4.trans s5), (P2.same (s4.trans s5)).mono (by omega)⟩
      · rintro σ Hh ⟨u0, u1, rfl, zz, hPh⟩
        exact ⟨_, _, _, _, rfl, zz⟩
    · rintro σ H' ⟨v0, v1, v2, v3, rfl, z⟩
      exact k _
end
theorem all_mk {K : PySem.W.Frag} {h : Heap} {mg : Str → Option Value} (X : K.In h) (G : h.Ns mainGlobals mg)
    {c_Number : Addr}
    {f_is_integer : Addr}
    {oc_is_integer : Value}
    {kV_is_integer : Value}
    {dc_is_integer : Value}
    {pm_is_integer : Value}
    {cd_is_integer : Value}
    {ct_is_integer : Value}
    {od_is_integer : Option Addr}
    {an_is_integer : Option Addr}
    {osl_is_integer : Array (Option Value)}
    {f_shared_divisor : Addr}
    {oc_shared_divisor : Value}
    {kV_shared_divisor : Value}
    {dc_shared_divisor : Value}
    {pm_shared_divisor : Value}
    {cd_shared_divisor : Value}
    {ct_shared_divisor : Value}
    {od_shared_divisor : Option Addr}
    {an_shared_divisor : Option Addr}
    {osl_shared_divisor : Array (Option Value)}
    {f_Number_init : Addr}
    {oc_Number_init : Value}
    {kV_Number_init : Value}
    {dc_Number_init : Value}
    {pm_Number_init : Value}
    {cd_Number_init : Value}
    {ct_Number_init : Value}
    {od_Number_init : Option Addr}
    {an_Number_init : Option Addr}
    {osl_Number_init : Array (Option Value)}
    {T_Number_init : Addr}
    {t_Number_init_0 : Tok}
    {oT_Number_init : Value}
    {dT_Number_init : Option Addr}
    {nT_Number_init : Nat}
    {sT_Number_init : Array (Option Value)}
    {f_Number_top : Addr}
    {p_Number_top : Addr}
    {r_Number_top : List Value}
    {oc_Number_top : Value}
    {kV_Number_top : Value}
    {dc_Number_top : Value}
    {pm_Number_top : Value}
    {cd_Number_top : Value}
    {ct_Number_top : Value}
    {od_Number_top : Option Addr}
    {an_Number_top : Option Addr}
    {osl_Number_top : Array (Option Value)}
    {f_Number_bottom : Addr}
    {p_Number_bottom : Addr}
    {r_Number_bottom : List Value}
    {oc_Number_bottom : Value}
    {kV_Number_bottom : Value}
    {dc_Number_bottom : Value}
    {pm_Number_bottom : Value}
    {cd_Number_bottom : Value}
    {ct_Number_bottom : Value}
    {od_Number_bottom : Option Addr}
    {an_Number_bottom : Option Addr}
    {osl_Number_bottom : Array (Option Value)}
    {f_Number_eq : Addr}
    {oc_Number_eq : Value}
    {kV_Number_eq : Value}
    {dc_Number_eq : Value}
    {pm_Number_eq : Value}
    {cd_Number_eq : Value}
    {ct_Number_eq : Value}
    {od_Number_eq : Option Addr}
    {an_Number_eq : Option Addr}
    {osl_Number_eq : Array (Option Value)}
    {f_Number_is_less : Addr}
    {oc_Number_is_less : Value}
    {kV_Number_is_less : Value}
    {dc_Number_is_less : Value}
    {pm_Number_is_less : Value}
    {cd_Number_is_less : Value}
    {ct_Number_is_less : Value}
    {od_Number_is_less : Option Addr}
    {an_Number_is_less : Option Addr}
    {osl_Number_is_less : Array (Option Value)}
    {f_Number_add : Addr}
    {oc_Number_add : Value}
    {kV_Number_add : Value}
    {dc_Number_add : Value}
    {pm_Number_add : Value}
    {cd_Number_add : Value}
    {ct_Number_add : Value}
    {od_Number_add : Option Addr}
    {an_Number_add : Option Addr}
    {osl_Number_add : Array (Option Value)}
    {f_Number_sub : Addr}
    {oc_Number_sub : Value}
    {kV_Number_sub : Value}
    {dc_Number_sub : Value}
    {pm_Number_sub : Value}
    {cd_Number_sub : Value}
    {ct_Number_sub : Value}
    {od_Number_sub : Option Addr}
    {an_Number_sub : Option Addr}
    {osl_Number_sub : Array (Option Value)}
    {f_Number_mul : Addr}
    {oc_Number_mul : Value}
    {kV_Number_mul : Value}
    {dc_Number_mul : Value}
    {pm_Number_mul : Value}
    {cd_Number_mul : Value}
    {ct_Number_mul : Value}
    {od_Number_mul : Option Addr}
    {an_Number_mul : Option Addr}
    {osl_Number_mul : Array (Option Value)}
    {f_Number_neg : Addr}
    {oc_Number_neg : Value}
    {kV_Number_neg : Value}
    {dc_Number_neg : Value}
    {pm_Number_neg : Value}
    {cd_Number_neg : Value}
    {ct_Number_neg : Value}
    {od_Number_neg : Option Addr}
    {an_Number_neg : Option Addr}
    {osl_Number_neg : Array (Option Value)}
    {f_Number_abs : Addr}
    {oc_Number_abs : Value}
    {kV_Number_abs : Value}
    {dc_Number_abs : Value}
    {pm_Number_abs : Value}
    {cd_Number_abs : Value}
    {ct_Number_abs : Value}
    {od_Number_abs : Option Addr}
    {an_Number_abs : Option Addr}
    {osl_Number_abs : Array (Option Value)}
    {f_Number_bool : Addr}
    {oc_Number_bool : Value}
    {kV_Number_bool : Value}
    {dc_Number_bool : Value}
    {pm_Number_bool : Value}
    {cd_Number_bool : Value}
    {ct_Number_bool : Value}
    {od_Number_bool : Option Addr}
    {an_Number_bool : Option Addr}
    {osl_Number_bool : Array (Option Value)}
    {f_law_pot : Addr}
    {oc_law_pot : Value}
    {kV_law_pot : Value}
    {dc_law_pot : Value}
    {pm_law_pot : Value}
    {cd_law_pot : Value}
    {ct_law_pot : Value}
    {od_law_pot : Option Addr}
    {an_law_pot : Option Addr}
    {osl_law_pot : Array (Option Value)}
    {f_law_take : Addr}
    {oc_law_take : Value}
    {kV_law_take : Value}
    {dc_law_take : Value}
    {pm_law_take : Value}
    {cd_law_take : Value}
    {ct_law_take : Value}
    {od_law_take : Option Addr}
    {an_law_take : Option Addr}
    {osl_law_take : Array (Option Value)}
    {f_law_of : Addr}
    {oc_law_of : Value}
    {kV_law_of : Value}
    {dc_law_of : Value}
    {pm_law_of : Value}
    {cd_law_of : Value}
    {ct_law_of : Value}
    {od_law_of : Option Addr}
    {an_law_of : Option Addr}
    {osl_law_of : Array (Option Value)}
    {f_law_least : Addr}
    {oc_law_least : Value}
    {kV_law_least : Value}
    {dc_law_least : Value}
    {pm_law_least : Value}
    {cd_law_least : Value}
    {ct_law_least : Value}
    {od_law_least : Option Addr}
    {an_law_least : Option Addr}
    {osl_law_least : Array (Option Value)}
    {f_law_drawn : Addr}
    {oc_law_drawn : Value}
    {kV_law_drawn : Value}
    {dc_law_drawn : Value}
    {pm_law_drawn : Value}
    {cd_law_drawn : Value}
    {ct_law_drawn : Value}
    {od_law_drawn : Option Addr}
    {an_law_drawn : Option Addr}
    {osl_law_drawn : Array (Option Value)}
    {f_law_pair : Addr}
    {oc_law_pair : Value}
    {kV_law_pair : Value}
    {dc_law_pair : Value}
    {pm_law_pair : Value}
    {cd_law_pair : Value}
    {ct_law_pair : Value}
    {od_law_pair : Option Addr}
    {an_law_pair : Option Addr}
    {osl_law_pair : Array (Option Value)}
    {f_law_near : Addr}
    {oc_law_near : Value}
    {kV_law_near : Value}
    {dc_law_near : Value}
    {pm_law_near : Value}
    {cd_law_near : Value}
    {ct_law_near : Value}
    {od_law_near : Option Addr}
    {an_law_near : Option Addr}
    {osl_law_near : Array (Option Value)}
    {f_law_is_right : Addr}
    {oc_law_is_right : Value}
    {kV_law_is_right : Value}
    {dc_law_is_right : Value}
    {pm_law_is_right : Value}
    {cd_law_is_right : Value}
    {ct_law_is_right : Value}
    {od_law_is_right : Option Addr}
    {an_law_is_right : Option Addr}
    {osl_law_is_right : Array (Option Value)}
    {f_law : Addr}
    {oc_law : Value}
    {kV_law : Value}
    {dc_law : Value}
    {pm_law : Value}
    {cd_law : Value}
    {ct_law : Value}
    {od_law : Option Addr}
    {an_law : Option Addr}
    {osl_law : Array (Option Value)}
    (a_Number : PySem.W.nsIn K mainGlobals "Number" = some (some (.ref c_Number)))
    (pg_Number : PySem.W.plainGet K c_Number Str.empty = true)
    (hd_Number : PySem.W.hasDictIn K c_Number = true)
    (po_Number : PySem.W.plainOver K c_Number = true)
    (sa_Number : PySem.W.findIn K (.ref c_Number) "__setattr__" = some (some (.builtin "object.__setattr__")))
    (mk_Number : PySem.W.makesIn K c_Number = true)
    (kc_Number : PySem.W.keepIn K (.ref c_Number) = true)
    (sf_Number : PySem.W.selfFirst K c_Number = true)
    (ca_Number : PySem.W.findIn K (.ref c_Number) "__class__" = some (some (.builtin "object.__class__")))
    (cm_Number : PySem.W.mroIn K c_Number (.type "object") = some true)
    (n_Number_own_top : PySem.W.findIn K (.ref c_Number) "own_top" = some none)
    (n_Number_own_bottom : PySem.W.findIn K (.ref c_Number) "own_bottom" = some none)
    (cn : PySem.W.specialIn K (.builtin "object.__class__") "__get__" = some (some (.builtin "getset_descriptor.__get__")))
    (ct : PySem.W.takesIn K (.builtin "object.__class__") = some true)
    (a_is_integer : PySem.W.nsIn K mainGlobals "is_integer" = some (some (.ref f_is_integer)))
    (l_is_integer : K.lookup f_is_integer = some ⟨oc_is_integer, od_is_integer, .func (PySem.W.fnOf "is_integer" "is_integer" (defArgs s_is_integer) (defBody s_is_integer) (defScope s_is_integer) .none kV_is_integer dc_is_integer pm_is_integer an_is_integer cd_is_integer ct_is_integer), osl_is_integer⟩)
    (hc_is_integer : PySem.W.codeIn K cd_is_integer "is_integer" = true)
    (k_is_integer : PySem.W.keepIn K (.ref f_is_integer) = true)
    (a_shared_divisor : PySem.W.nsIn K mainGlobals "shared_divisor" = some (some (.ref f_shared_divisor)))
    (l_shared_divisor : K.lookup f_shared_divisor = some ⟨oc_shared_divisor, od_shared_divisor, .func (PySem.W.fnOf "shared_divisor" "shared_divisor" (defArgs s_shared_divisor) (defBody s_shared_divisor) (defScope s_shared_divisor) .none kV_shared_divisor dc_shared_divisor pm_shared_divisor an_shared_divisor cd_shared_divisor ct_shared_divisor), osl_shared_divisor⟩)
    (hc_shared_divisor : PySem.W.codeIn K cd_shared_divisor "shared_divisor" = true)
    (k_shared_divisor : PySem.W.keepIn K (.ref f_shared_divisor) = true)
    (a_Number_init : PySem.W.findIn K (.ref c_Number) "__init__" = some (some (.ref f_Number_init)))
    (i_Number_init : PySem.W.isFn K (.ref f_Number_init) = true)
    (l_Number_init : K.lookup f_Number_init = some ⟨oc_Number_init, od_Number_init, .func (PySem.W.fnOf "__init__" "Number.__init__" (defArgs s_Number_init) (defBody s_Number_init) (defScope s_Number_init) (.ref T_Number_init) kV_Number_init dc_Number_init pm_Number_init an_Number_init cd_Number_init ct_Number_init), osl_Number_init⟩)
    (hc_Number_init : PySem.W.codeIn K cd_Number_init "Number.__init__" = true)
    (k_Number_init : PySem.W.keepIn K (.ref f_Number_init) = true)
    (lT_Number_init : K.lookup T_Number_init = some ⟨oT_Number_init, dT_Number_init, .seq #[.int 1 t_Number_init_0] nT_Number_init, sT_Number_init⟩)
    (at_Number_top : PySem.W.findIn K (.ref c_Number) "top" = some (some (.ref p_Number_top)))
    (gt_Number_top : PySem.W.specialIn K (.ref p_Number_top) "__get__" = some (some (.builtin "property.__get__")))
    (tk_Number_top : PySem.W.takesIn K (.ref p_Number_top) = some true)
    (rc_Number_top : PySem.W.recIn K p_Number_top "property" = some (.ref f_Number_top :: r_Number_top))
    (l_Number_top : K.lookup f_Number_top = some ⟨oc_Number_top, od_Number_top, .func (PySem.W.fnOf "top" "Number.top" (defArgs s_Number_top) (defBody s_Number_top) (defScope s_Number_top) .none kV_Number_top dc_Number_top pm_Number_top an_Number_top cd_Number_top ct_Number_top), osl_Number_top⟩)
    (hc_Number_top : PySem.W.codeIn K cd_Number_top "Number.top" = true)
    (k_Number_top : PySem.W.keepIn K (.ref f_Number_top) = true)
    (at_Number_bottom : PySem.W.findIn K (.ref c_Number) "bottom" = some (some (.ref p_Number_bottom)))
    (gt_Number_bottom : PySem.W.specialIn K (.ref p_Number_bottom) "__get__" = some (some (.builtin "property.__get__")))
    (tk_Number_bottom : PySem.W.takesIn K (.ref p_Number_bottom) = some true)
    (rc_Number_bottom : PySem.W.recIn K p_Number_bottom "property" = some (.ref f_Number_bottom :: r_Number_bottom))
    (l_Number_bottom : K.lookup f_Number_bottom = some ⟨oc_Number_bottom, od_Number_bottom, .func (PySem.W.fnOf "bottom" "Number.bottom" (defArgs s_Number_bottom) (defBody s_Number_bottom) (defScope s_Number_bottom) .none kV_Number_bottom dc_Number_bottom pm_Number_bottom an_Number_bottom cd_Number_bottom ct_Number_bottom), osl_Number_bottom⟩)
    (hc_Number_bottom : PySem.W.codeIn K cd_Number_bottom "Number.bottom" = true)
    (k_Number_bottom : PySem.W.keepIn K (.ref f_Number_bottom) = true)
    (a_Number_eq : PySem.W.findIn K (.ref c_Number) "__eq__" = some (some (.ref f_Number_eq)))
    (i_Number_eq : PySem.W.isFn K (.ref f_Number_eq) = true)
    (l_Number_eq : K.lookup f_Number_eq = some ⟨oc_Number_eq, od_Number_eq, .func (PySem.W.fnOf "__eq__" "Number.__eq__" (defArgs s_Number_eq) (defBody s_Number_eq) (defScope s_Number_eq) .none kV_Number_eq dc_Number_eq pm_Number_eq an_Number_eq cd_Number_eq ct_Number_eq), osl_Number_eq⟩)
    (hc_Number_eq : PySem.W.codeIn K cd_Number_eq "Number.__eq__" = true)
    (k_Number_eq : PySem.W.keepIn K (.ref f_Number_eq) = true)
    (a_Number_is_less : PySem.W.findIn K (.ref c_Number) "is_less" = some (some (.ref f_Number_is_less)))
    (i_Number_is_less : PySem.W.isFn K (.ref f_Number_is_less) = true)
    (l_Number_is_less : K.lookup f_Number_is_less = some ⟨oc_Number_is_less, od_Number_is_less, .func (PySem.W.fnOf "is_less" "Number.is_less" (defArgs s_Number_is_less) (defBody s_Number_is_less) (defScope s_Number_is_less) .none kV_Number_is_less dc_Number_is_less pm_Number_is_less an_Number_is_less cd_Number_is_less ct_Number_is_less), osl_Number_is_less⟩)
    (hc_Number_is_less : PySem.W.codeIn K cd_Number_is_less "Number.is_less" = true)
    (k_Number_is_less : PySem.W.keepIn K (.ref f_Number_is_less) = true)
    (a_Number_add : PySem.W.findIn K (.ref c_Number) "__add__" = some (some (.ref f_Number_add)))
    (i_Number_add : PySem.W.isFn K (.ref f_Number_add) = true)
    (l_Number_add : K.lookup f_Number_add = some ⟨oc_Number_add, od_Number_add, .func (PySem.W.fnOf "__add__" "Number.__add__" (defArgs s_Number_add) (defBody s_Number_add) (defScope s_Number_add) .none kV_Number_add dc_Number_add pm_Number_add an_Number_add cd_Number_add ct_Number_add), osl_Number_add⟩)
    (hc_Number_add : PySem.W.codeIn K cd_Number_add "Number.__add__" = true)
    (k_Number_add : PySem.W.keepIn K (.ref f_Number_add) = true)
    (a_Number_sub : PySem.W.findIn K (.ref c_Number) "__sub__" = some (some (.ref f_Number_sub)))
    (i_Number_sub : PySem.W.isFn K (.ref f_Number_sub) = true)
    (l_Number_sub : K.lookup f_Number_sub = some ⟨oc_Number_sub, od_Number_sub, .func (PySem.W.fnOf "__sub__" "Number.__sub__" (defArgs s_Number_sub) (defBody s_Number_sub) (defScope s_Number_sub) .none kV_Number_sub dc_Number_sub pm_Number_sub an_Number_sub cd_Number_sub ct_Number_sub), osl_Number_sub⟩)
    (hc_Number_sub : PySem.W.codeIn K cd_Number_sub "Number.__sub__" = true)
    (k_Number_sub : PySem.W.keepIn K (.ref f_Number_sub) = true)
    (a_Number_mul : PySem.W.findIn K (.ref c_Number) "__mul__" = some (some (.ref f_Number_mul)))
    (i_Number_mul : PySem.W.isFn K (.ref f_Number_mul) = true)
    (l_Number_mul : K.lookup f_Number_mul = some ⟨oc_Number_mul, od_Number_mul, .func (PySem.W.fnOf "__mul__" "Number.__mul__" (defArgs s_Number_mul) (defBody s_Number_mul) (defScope s_Number_mul) .none kV_Number_mul dc_Number_mul pm_Number_mul an_Number_mul cd_Number_mul ct_Number_mul), osl_Number_mul⟩)
    (hc_Number_mul : PySem.W.codeIn K cd_Number_mul "Number.__mul__" = true)
    (k_Number_mul : PySem.W.keepIn K (.ref f_Number_mul) = true)
    (a_Number_neg : PySem.W.findIn K (.ref c_Number) "__neg__" = some (some (.ref f_Number_neg)))
    (i_Number_neg : PySem.W.isFn K (.ref f_Number_neg) = true)
    (l_Number_neg : K.lookup f_Number_neg = some ⟨oc_Number_neg, od_Number_neg, .func (PySem.W.fnOf "__neg__" "Number.__neg__" (defArgs s_Number_neg) (defBody s_Number_neg) (defScope s_Number_neg) .none kV_Number_neg dc_Number_neg pm_Number_neg an_Number_neg cd_Number_neg ct_Number_neg), osl_Number_neg⟩)
    (hc_Number_neg : PySem.W.codeIn K cd_Number_neg "Number.__neg__" = true)
    (k_Number_neg : PySem.W.keepIn K (.ref f_Number_neg) = true)
    (a_Number_abs : PySem.W.findIn K (.ref c_Number) "__abs__" = some (some (.ref f_Number_abs)))
    (i_Number_abs : PySem.W.isFn K (.ref f_Number_abs) = true)
    (l_Number_abs : K.lookup f_Number_abs = some ⟨oc_Number_abs, od_Number_abs, .func (PySem.W.fnOf "__abs__" "Number.__abs__" (defArgs s_Number_abs) (defBody s_Number_abs) (defScope s_Number_abs) .none kV_Number_abs dc_Number_abs pm_Number_abs an_Number_abs cd_Number_abs ct_Number_abs), osl_Number_abs⟩)
    (hc_Number_abs : PySem.W.codeIn K cd_Number_abs "Number.__abs__" = true)
    (k_Number_abs : PySem.W.keepIn K (.ref f_Number_abs) = true)
    (a_Number_bool : PySem.W.findIn K (.ref c_Number) "__bool__" = some (some (.ref f_Number_bool)))
    (i_Number_bool : PySem.W.isFn K (.ref f_Number_bool) = true)
    (l_Number_bool : K.lookup f_Number_bool = some ⟨oc_Number_bool, od_Number_bool, .func (PySem.W.fnOf "__bool__" "Number.__bool__" (defArgs s_Number_bool) (defBody s_Number_bool) (defScope s_Number_bool) .none kV_Number_bool dc_Number_bool pm_Number_bool an_Number_bool cd_Number_bool ct_Number_bool), osl_Number_bool⟩)
    (hc_Number_bool : PySem.W.codeIn K cd_Number_bool "Number.__bool__" = true)
    (k_Number_bool : PySem.W.keepIn K (.ref f_Number_bool) = true)
    (a_law_pot : PySem.W.nsIn K mainGlobals "_law_pot" = some (some (.ref f_law_pot)))
    (l_law_pot : K.lookup f_law_pot = some ⟨oc_law_pot, od_law_pot, .func (PySem.W.fnOf "_law_pot" "_law_pot" (defArgs s_law_pot) (defBody s_law_pot) (defScope s_law_pot) .none kV_law_pot dc_law_pot pm_law_pot an_law_pot cd_law_pot ct_law_pot), osl_law_pot⟩)
    (hc_law_pot : PySem.W.codeIn K cd_law_pot "_law_pot" = true)
    (k_law_pot : PySem.W.keepIn K (.ref f_law_pot) = true)
    (a_law_take : PySem.W.nsIn K mainGlobals "_law_take" = some (some (.ref f_law_take)))
    (l_law_take : K.lookup f_law_take = some ⟨oc_law_take, od_law_take, .func (PySem.W.fnOf "_law_take" "_law_take" (defArgs s_law_take) (defBody s_law_take) (defScope s_law_take) .none kV_law_take dc_law_take pm_law_take an_law_take cd_law_take ct_law_take), osl_law_take⟩)
    (hc_law_take : PySem.W.codeIn K cd_law_take "_law_take" = true)
    (k_law_take : PySem.W.keepIn K (.ref f_law_take) = true)
    (a_law_of : PySem.W.nsIn K mainGlobals "_law_of" = some (some (.ref f_law_of)))
    (l_law_of : K.lookup f_law_of = some ⟨oc_law_of, od_law_of, .func (PySem.W.fnOf "_law_of" "_law_of" (defArgs s_law_of) (defBody s_law_of) (defScope s_law_of) .none kV_law_of dc_law_of pm_law_of an_law_of cd_law_of ct_law_of), osl_law_of⟩)
    (hc_law_of : PySem.W.codeIn K cd_law_of "_law_of" = true)
    (k_law_of : PySem.W.keepIn K (.ref f_law_of) = true)
    (a_law_least : PySem.W.nsIn K mainGlobals "_law_least" = some (some (.ref f_law_least)))
    (l_law_least : K.lookup f_law_least = some ⟨oc_law_least, od_law_least, .func (PySem.W.fnOf "_law_least" "_law_least" (defArgs s_law_least) (defBody s_law_least) (defScope s_law_least) .none kV_law_least dc_law_least pm_law_least an_law_least cd_law_least ct_law_least), osl_law_least⟩)
    (hc_law_least : PySem.W.codeIn K cd_law_least "_law_least" = true)
    (k_law_least : PySem.W.keepIn K (.ref f_law_least) = true)
    (a_law_drawn : PySem.W.nsIn K mainGlobals "_law_drawn" = some (some (.ref f_law_drawn)))
    (l_law_drawn : K.lookup f_law_drawn = some ⟨oc_law_drawn, od_law_drawn, .func (PySem.W.fnOf "_law_drawn" "_law_drawn" (defArgs s_law_drawn) (defBody s_law_drawn) (defScope s_law_drawn) .none kV_law_drawn dc_law_drawn pm_law_drawn an_law_drawn cd_law_drawn ct_law_drawn), osl_law_drawn⟩)
    (hc_law_drawn : PySem.W.codeIn K cd_law_drawn "_law_drawn" = true)
    (k_law_drawn : PySem.W.keepIn K (.ref f_law_drawn) = true)
    (a_law_pair : PySem.W.nsIn K mainGlobals "_law_pair" = some (some (.ref f_law_pair)))
    (l_law_pair : K.lookup f_law_pair = some ⟨oc_law_pair, od_law_pair, .func (PySem.W.fnOf "_law_pair" "_law_pair" (defArgs s_law_pair) (defBody s_law_pair) (defScope s_law_pair) .none kV_law_pair dc_law_pair pm_law_pair an_law_pair cd_law_pair ct_law_pair), osl_law_pair⟩)
    (hc_law_pair : PySem.W.codeIn K cd_law_pair "_law_pair" = true)
    (k_law_pair : PySem.W.keepIn K (.ref f_law_pair) = true)
    (a_law_near : PySem.W.nsIn K mainGlobals "_law_near" = some (some (.ref f_law_near)))
    (l_law_near : K.lookup f_law_near = some ⟨oc_law_near, od_law_near, .func (PySem.W.fnOf "_law_near" "_law_near" (defArgs s_law_near) (defBody s_law_near) (defScope s_law_near) .none kV_law_near dc_law_near pm_law_near an_law_near cd_law_near ct_law_near), osl_law_near⟩)
    (hc_law_near : PySem.W.codeIn K cd_law_near "_law_near" = true)
    (k_law_near : PySem.W.keepIn K (.ref f_law_near) = true)
    (a_law_is_right : PySem.W.nsIn K mainGlobals "_law_is_right" = some (some (.ref f_law_is_right)))
    (l_law_is_right : K.lookup f_law_is_right = some ⟨oc_law_is_right, od_law_is_right, .func (PySem.W.fnOf "_law_is_right" "_law_is_right" (defArgs s_law_is_right) (defBody s_law_is_right) (defScope s_law_is_right) .none kV_law_is_right dc_law_is_right pm_law_is_right an_law_is_right cd_law_is_right ct_law_is_right), osl_law_is_right⟩)
    (hc_law_is_right : PySem.W.codeIn K cd_law_is_right "_law_is_right" = true)
    (k_law_is_right : PySem.W.keepIn K (.ref f_law_is_right) = true)
    (a_law : PySem.W.nsIn K mainGlobals "law" = some (some (.ref f_law)))
    (l_law : K.lookup f_law = some ⟨oc_law, od_law, .func (PySem.W.fnOf "law" "law" (defArgs s_law) (defBody s_law) (defScope s_law) .none kV_law dc_law pm_law an_law cd_law ct_law), osl_law⟩)
    (hc_law : PySem.W.codeIn K cd_law "law" = true)
    (k_law : PySem.W.keepIn K (.ref f_law) = true)
    (z_isinstance : PySem.W.nsIn K mainGlobals "isinstance" = some none)
    (z_int : PySem.W.nsIn K mainGlobals "int" = some none)
    (z_bool : PySem.W.nsIn K mainGlobals "bool" = some none)
    (z_abs : PySem.W.nsIn K mainGlobals "abs" = some none)
    (z_len : PySem.W.nsIn K mainGlobals "len" = some none)
    (z_max : PySem.W.nsIn K mainGlobals "max" = some none)
    (z_min : PySem.W.nsIn K mainGlobals "min" = some none)
    (z_range : PySem.W.nsIn K mainGlobals "range" = some none)
    (z_repr : PySem.W.nsIn K mainGlobals "repr" = some none)
    (kit_NumNum : PySem.W.kitOne K (.ref c_Number) (.ref c_Number) = some true)
    (ne_Number : PySem.W.findIn K (.ref c_Number) "__ne__" = some (some (.builtin "object.__ne__")))
    : ∃ A : Ad, A.f_law = f_law ∧ Txt K mg A :=
  ⟨⟨c_Number, f_is_integer, (PySem.W.fnOf "is_integer" "is_integer" (defArgs s_is_integer) (defBody s_is_integer) (defScope s_is_integer) .none kV_is_integer dc_is_integer pm_is_integer an_is_integer cd_is_integer ct_is_integer), f_shared_divisor, (PySem.W.fnOf "shared_divisor" "shared_divisor" (defArgs s_shared_divisor) (defBody s_shared_divisor) (defScope s_shared_divisor) .none kV_shared_divisor dc_shared_divisor pm_shared_divisor an_shared_divisor cd_shared_divisor ct_shared_divisor), f_Number_init, (PySem.W.fnOf "__init__" "Number.__init__" (defArgs s_Number_init) (defBody s_Number_init) (defScope s_Number_init) (.ref T_Number_init) kV_Number_init dc_Number_init pm_Number_init an_Number_init cd_Number_init ct_Number_init), f_Number_top, (PySem.W.fnOf "top" "Number.top" (defArgs s_Number_top) (defBody s_Number_top) (defScope s_Number_top) .none kV_Number_top dc_Number_top pm_Number_top an_Number_top cd_Number_top ct_Number_top), p_Number_top, f_Number_bottom, (PySem.W.fnOf "bottom" "Number.bottom" (defArgs s_Number_bottom) (defBody s_Number_bottom) (defScope s_Number_bottom) .none kV_Number_bottom dc_Number_bottom pm_Number_bottom an_Number_bottom cd_Number_bottom ct_Number_bottom), p_Number_bottom, f_Number_eq, (PySem.W.fnOf "__eq__" "Number.__eq__" (defArgs s_Number_eq) (defBody s_Number_eq) (defScope s_Number_eq) .none kV_Number_eq dc_Number_eq pm_Number_eq an_Number_eq cd_Number_eq ct_Number_eq), f_Number_is_less, (PySem.W.fnOf "is_less" "Number.is_less" (defArgs s_Number_is_less) (defBody s_Number_is_less) (defScope s_Number_is_less) .none kV_Number_is_less dc_Number_is_less pm_Number_is_less an_Number_is_less cd_Number_is_less ct_Number_is_less), f_Number_add, (PySem.W.fnOf "__add__" "Number.__add__" (defArgs s_Number_add) (defBody s_Number_add) (defScope s_Number_add) .none kV_Number_add dc_Number_add pm_Number_add an_Number_add cd_Number_add ct_Number_add), f_Number_sub, (PySem.W.fnOf "__sub__" "Number.__sub__" (defArgs s_Number_sub) (defBody s_Number_sub) (defScope s_Number_sub) .none kV_Number_sub dc_Number_sub pm_Number_sub an_Number_sub cd_Number_sub ct_Number_sub), f_Number_mul, (PySem.W.fnOf "__mul__" "Number.__mul__" (defArgs s_Number_mul) (defBody s_Number_mul) (defScope s_Number_mul) .none kV_Number_mul dc_Number_mul pm_Number_mul an_Number_mul cd_Number_mul ct_Number_mul), f_Number_neg, (PySem.W.fnOf "__neg__" "Number.__neg__" (defArgs s_Number_neg) (defBody s_Number_neg) (defScope s_Number_neg) .none kV_Number_neg dc_Number_neg pm_Number_neg an_Number_neg cd_Number_neg ct_Number_neg), f_Number_abs, (PySem.W.fnOf "__abs__" "Number.__abs__" (defArgs s_Number_abs) (defBody s_Number_abs) (defScope s_Number_abs) .none kV_Number_abs dc_Number_abs pm_Number_abs an_Number_abs cd_Number_abs ct_Number_abs), f_Number_bool, (PySem.W.fnOf "__bool__" "Number.__bool__" (defArgs s_Number_bool) (defBody s_Number_bool) (defScope s_Number_bool) .none kV_Number_bool dc_Number_bool pm_Number_bool an_Number_bool cd_Number_bool ct_Number_bool), f_law_pot, (PySem.W.fnOf "_law_pot" "_law_pot" (defArgs s_law_pot) (defBody s_law_pot) (defScope s_law_pot) .none kV_law_pot dc_law_pot pm_law_pot an_law_pot cd_law_pot ct_law_pot), f_law_take, (PySem.W.fnOf "_law_take" "_law_take" (defArgs s_law_take) (defBody s_law_take) (defScope s_law_take) .none kV_law_take dc_law_take pm_law_take an_law_take cd_law_take ct_law_take), f_law_of, (PySem.W.fnOf "_law_of" "_law_of" (defArgs s_law_of) (defBody s_law_of) (defScope s_law_of) .none kV_law_of dc_law_of pm_law_of an_law_of cd_law_of ct_law_of), f_law_least, (PySem.W.fnOf "_law_least" "_law_least" (defArgs s_law_least) (defBody s_law_least) (defScope s_law_least) .none kV_law_least dc_law_least pm_law_least an_law_least cd_law_least ct_law_least), f_law_drawn, (PySem.W.fnOf "_law_drawn" "_law_drawn" (defArgs s_law_drawn) (defBody s_law_drawn) (defScope s_law_drawn) .none kV_law_drawn dc_law_drawn pm_law_drawn an_law_drawn cd_law_drawn ct_law_drawn), f_law_pair, (PySem.W.fnOf "_law_pair" "_law_pair" (defArgs s_law_pair) (defBody s_law_pair) (defScope s_law_pair) .none kV_law_pair dc_law_pair pm_law_pair an_law_pair cd_law_pair ct_law_pair), f_law_near, (PySem.W.fnOf "_law_near" "_law_near" (defArgs s_law_near) (defBody s_law_near) (defScope s_law_near) .none kV_law_near dc_law_near pm_law_near an_law_near cd_law_near ct_law_near), f_law_is_right, (PySem.W.fnOf "_law_is_right" "_law_is_right" (defArgs s_law_is_right) (defBody s_law_is_right) (defScope s_law_is_right) .none kV_law_is_right dc_law_is_right pm_law_is_right an_law_is_right cd_law_is_right ct_law_is_right), f_law, (PySem.W.fnOf "law" "law" (defArgs s_law) (defBody s_law) (defScope s_law) .none kV_law dc_law pm_law an_law cd_law ct_law)⟩, rfl, {
    g_Number := PySem.W.mg_of X G a_Number,
    cl_Number := ⟨pg_Number, hd_Number, po_Number, sa_Number⟩,
    M_Number := ⟨mk_Number, a_Number_init, i_Number_init, kc_Number⟩,
    sf_Number := sf_Number,
    ca_Number := ca_Number,
    cm_Number := cm_Number,
    n_Number_own_top := n_Number_own_top,
    n_Number_own_bottom := n_Number_own_bottom,
    cn := cn,
    ct := ct,
    g_is_integer := PySem.W.mg_of X G a_is_integer,
    F_is_integer := fun_mk (st := s_is_integer) l_is_integer hc_is_integer k_is_integer,
    b_is_integer := (fun_mk (st := s_is_integer) l_is_integer hc_is_integer k_is_integer).binds (ps := ["value"]) fun _ _ _ _ _ _ us hl => match us, hl with | [_], _ => rfl,
    g_shared_divisor := PySem.W.mg_of X G a_shared_divisor,
    F_shared_divisor := fun_mk (st := s_shared_divisor) l_shared_divisor hc_shared_divisor k_shared_divisor,
    b_shared_divisor := (fun_mk (st := s_shared_divisor) l_shared_divisor hc_shared_divisor k_shared_divisor).binds (ps := ["one", "other"]) fun _ _ _ _ _ _ us hl => match us, hl with | [_, _], _ => rfl,
    m_Number_init := ⟨a_Number_init, i_Number_init, k_Number_init⟩,
    F_Number_init := ⟨⟨_, _, _, _, _, _, _, _, _, _, rfl, l_Number_init, hc_Number_init, Or.inr ⟨by simp, _, _, [.int 1 t_Number_init_0], _, rfl, lT_Number_init, rfl, .cons ⟨_, rfl⟩ (.nil)⟩, Or.inl rfl⟩, k_Number_init⟩,
    P_Number_top := ⟨at_Number_top, gt_Number_top, tk_Number_top, ⟨_, rc_Number_top⟩⟩,
    F_Number_top := fun_mk (st := s_Number_top) l_Number_top hc_Number_top k_Number_top,
    b_Number_top := (fun_mk (st := s_Number_top) l_Number_top hc_Number_top k_Number_top).binds (ps := ["self"]) fun _ _ _ _ _ _ us hl => match us, hl with | [_], _ => rfl,
    P_Number_bottom := ⟨at_Number_bottom, gt_Number_bottom, tk_Number_bottom, ⟨_, rc_Number_bottom⟩⟩,
    F_Number_bottom := fun_mk (st := s_Number_bottom) l_Number_bottom hc_Number_bottom k_Number_bottom,
    b_Number_bottom := (fun_mk (st := s_Number_bottom) l_Number_bottom hc_Number_bottom k_Number_bottom).binds (ps := ["self"]) fun _ _ _ _ _ _ us hl => match us, hl with | [_], _ => rfl,
    m_Number_eq := ⟨a_Number_eq, i_Number_eq, k_Number_eq⟩,
    F_Number_eq := fun_mk (st := s_Number_eq) l_Number_eq hc_Number_eq k_Number_eq,
    b_Number_eq := (fun_mk (st := s_Number_eq) l_Number_eq hc_Number_eq k_Number_eq).binds (ps := ["self", "other"]) fun _ _ _ _ _ _ us hl => match us, hl with | [_, _], _ => rfl,
    m_Number_is_less := ⟨a_Number_is_less, i_Number_is_less, k_Number_is_less⟩,
    F_Number_is_less := fun_mk (st := s_Number_is_less) l_Number_is_less hc_Number_is_less k_Number_is_less,
    b_Number_is_less := (fun_mk (st := s_Number_is_less) l_Number_is_less hc_Number_is_less k_Number_is_less).binds (ps := ["self", "other"]) fun _ _ _ _ _ _ us hl => match us, hl with | [_, _], _ => rfl,
    m_Number_add := ⟨a_Number_add, i_Number_add, k_Number_add⟩,
    F_Number_add := fun_mk (st := s_Number_add) l_Number_add hc_Number_add k_Number_add,
    b_Number_add := (fun_mk (st := s_Number_add) l_Number_add hc_Number_add k_Number_add).binds (ps := ["self", "other"]) fun _ _ _ _ _ _ us hl => match us, hl with | [_, _], _ => rfl,
    m_Number_sub := ⟨a_Number_sub, i_Number_sub, k_Number_sub⟩,
    F_Number_sub := fun_mk (st := s_Number_sub) l_Number_sub hc_Number_sub k_Number_sub,
    b_Number_sub := (fun_mk (st := s_Number_sub) l_Number_sub hc_Number_sub k_Number_sub).binds (ps := ["self", "other"]) fun _ _ _ _ _ _ us hl => match us, hl with | [_, _], _ => rfl,
    m_Number_mul := ⟨a_Number_mul, i_Number_mul, k_Number_mul⟩,
    F_Number_mul := fun_mk (st := s_Number_mul) l_Number_mul hc_Number_mul k_Number_mul,
    b_Number_mul := (fun_mk (st := s_Number_mul) l_Number_mul hc_Number_mul k_Number_mul).binds (ps := ["self", "other"]) fun _ _ _ _ _ _ us hl => match us, hl with | [_, _], _ => rfl,
    m_Number_neg := ⟨a_Number_neg, i_Number_neg, k_Number_neg⟩,
    F_Number_neg := fun_mk (st := s_Number_neg) l_Number_neg hc_Number_neg k_Number_neg,
    b_Number_neg := (fun_mk (st := s_Number_neg) l_Number_neg hc_Number_neg k_Number_neg).binds (ps := ["self"]) fun _ _ _ _ _ _ us hl => match us, hl with | [_], _ => rfl,
    m_Number_abs := ⟨a_Number_abs, i_Number_abs, k_Number_abs⟩,
    F_Number_abs := fun_mk (st := s_Number_abs) l_Number_abs hc_Number_abs k_Number_abs,
    b_Number_abs := (fun_mk (st := s_Number_abs) l_Number_abs hc_Number_abs k_Number_abs).binds (ps := ["self"]) fun _ _ _ _ _ _ us hl => match us, hl with | [_], _ => rfl,
    m_Number_bool := ⟨a_Number_bool, i_Number_bool, k_Number_bool⟩,
    F_Number_bool := fun_mk (st := s_Number_bool) l_Number_bool hc_Number_bool k_Number_bool,
    b_Number_bool := (fun_mk (st := s_Number_bool) l_Number_bool hc_Number_bool k_Number_bool).binds (ps := ["self"]) fun _ _ _ _ _ _ us hl => match us, hl with | [_], _ => rfl,
    g_law_pot := PySem.W.mg_of X G a_law_pot,
    F_law_pot := fun_mk (st := s_law_pot) l_law_pot hc_law_pot k_law_pot,
    b_law_pot := (fun_mk (st := s_law_pot) l_law_pot hc_law_pot k_law_pot).binds (ps := ["script", "k"]) fun _ _ _ _ _ _ us hl => match us, hl with | [_, _], _ => rfl,
    g_law_take := PySem.W.mg_of X G a_law_take,
    F_law_take := fun_mk (st := s_law_take) l_law_take hc_law_take k_law_take,
    b_law_take := (fun_mk (st := s_law_take) l_law_take hc_law_take k_law_take).binds (ps := ["pot", "upto"]) fun _ _ _ _ _ _ us hl => match us, hl with | [_, _], _ => rfl,
    g_law_of := PySem.W.mg_of X G a_law_of,
    F_law_of := fun_mk (st := s_law_of) l_law_of hc_law_of k_law_of,
    b_law_of := (fun_mk (st := s_law_of) l_law_of hc_law_of k_law_of).binds (ps := ["pot", "some"]) fun _ _ _ _ _ _ us hl => match us, hl with | [_, _], _ => rfl,
    g_law_least := PySem.W.mg_of X G a_law_least,
    F_law_least := fun_mk (st := s_law_least) l_law_least hc_law_least k_law_least,
    b_law_least := (fun_mk (st := s_law_least) l_law_least hc_law_least k_law_least).binds (ps := ["top", "bottom"]) fun _ _ _ _ _ _ us hl => match us, hl with | [_, _], _ => rfl,
    g_law_drawn := PySem.W.mg_of X G a_law_drawn,
    F_law_drawn := fun_mk (st := s_law_drawn) l_law_drawn hc_law_drawn k_law_drawn,
    b_law_drawn := (fun_mk (st := s_law_drawn) l_law_drawn hc_law_drawn k_law_drawn).binds (ps := ["pot"]) fun _ _ _ _ _ _ us hl => match us, hl with | [_], _ => rfl,
    g_law_pair := PySem.W.mg_of X G a_law_pair,
    F_law_pair := fun_mk (st := s_law_pair) l_law_pair hc_law_pair k_law_pair,
    b_law_pair := (fun_mk (st := s_law_pair) l_law_pair hc_law_pair k_law_pair).binds (ps := ["thing"]) fun _ _ _ _ _ _ us hl => match us, hl with | [_], _ => rfl,
    g_law_near := PySem.W.mg_of X G a_law_near,
    F_law_near := fun_mk (st := s_law_near) l_law_near hc_law_near k_law_near,
    b_law_near := (fun_mk (st := s_law_near) l_law_near hc_law_near k_law_near).binds (ps := ["pot", "one"]) fun _ _ _ _ _ _ us hl => match us, hl with | [_, _], _ => rfl,
    g_law_is_right := PySem.W.mg_of X G a_law_is_right,
    F_law_is_right := fun_mk (st := s_law_is_right) l_law_is_right hc_law_is_right k_law_is_right,
    b_law_is_right := (fun_mk (st := s_law_is_right) l_law_is_right hc_law_is_right k_law_is_right).binds (ps := ["first", "second"]) fun _ _ _ _ _ _ us hl => match us, hl with | [_, _], _ => rfl,
    F_law := fun_mk (st := s_law) l_law hc_law k_law,
    b_law := (fun_mk (st := s_law) l_law hc_law k_law).binds (ps := ["script"]) fun _ _ _ _ _ _ us hl => match us, hl with | [_], _ => rfl,
    z_isinstance := PySem.W.mg_none_of X G z_isinstance,
    z_int := PySem.W.mg_none_of X G z_int,
    z_bool := PySem.W.mg_none_of X G z_bool,
    z_abs := PySem.W.mg_none_of X G z_abs,
    z_len := PySem.W.mg_none_of X G z_len,
    z_max := PySem.W.mg_none_of X G z_max,
    z_min := PySem.W.mg_none_of X G z_min,
    z_range := PySem.W.mg_none_of X G z_range,
    z_repr := PySem.W.mg_none_of X G z_repr,
    kit_NumNum := kit_NumNum,
    ne_Number := ne_Number
  }⟩

abbrev LV : Nat := 12
theorem walk {l : PySem.W.OpenLaw} {q : Program} {loose : List Str} {XP : (Str → Option Value) → Heap → Prop} {YP : World → Heap → Prop} {d : DefRec} {K : Params → PySem.W.Frag} (hn : l.most = some 63) (hdf : d.params.defaults = [])
    (hY : ∀ (w : World) (h : Heap), YP w h → (K w.params).In h)
    (F : ∀ (w : World) (mg : Str → Option Value) (fa : Addr) (h : Heap), (K w.params).In h → h.Ns mainGlobals mg → mg d.name = some (.ref fa) →
      ∃ fd : FuncData, (∀ (s : Shared) (u : Value), BindsTo s fd ⟨[u], []⟩ [("script", u)]) ∧ ∀ base : Heap, (K w.params).In base → base.Ns mainGlobals mg → FnG l.prog w (K w.params) mg base CX0 LV fa fd ["script"] (spLaw (K w.params))) :
    PySem.W.WalkO q loose XP YP l.row.toRowW d [] (fun f vs => PySem.call f vs) :=
  WG.walk_G (n := 63) (k := LV) (x := "script") (sp := fun w => spLaw (K w.params)) hn (by decide) hdf ⟨rfl, by decide, by decide⟩ hY F (fun _ _ a ns hl _ hS => ⟨a, ns, rfl, hS, hl, fun _ => rfl⟩)
theorem law_mk {P : Program} {w : World} {K : PySem.W.Frag} {h : Heap} {mg : Str → Option Value} {fa : Addr} (X : K.In h) (G : h.Ns mainGlobals mg) (hfa : mg "law" = some (.ref fa))
    {c_Number : Addr}
    {f_is_integer : Addr}
    {oc_is_integer : Value}
    {kV_is_integer : Value}
    {dc_is_integer : Value}
    {pm_is_integer : Value}
    {cd_is_integer : Value}
    {ct_is_integer : Value}
    {od_is_integer : Option Addr}
    {an_is_integer : Option Addr}
    {osl_is_integer : Array (Option Value)}
    {f_shared_divisor : Addr}
    {oc_shared_divisor : Value}
    {kV_shared_divisor : Value}
    {dc_shared_divisor : Value}
    {pm_shared_divisor : Value}
    {cd_shared_divisor : Value}
    {ct_shared_divisor : Value}
    {od_shared_divisor : Option Addr}
    {an_shared_divisor : Option Addr}
    {osl_shared_divisor : Array (Option Value)}
    {f_Number_init : Addr}
    {oc_Number_init : Value}
    {kV_Number_init : Value}
    {dc_Number_init : Value}
    {pm_Number_init : Value}
    {cd_Number_init : Value}
    {ct_Number_init : Value}
    {od_Number_init : Option Addr}
    {an_Number_init : Option Addr}
    {osl_Number_init : Array (Option Value)}
    {T_Number_init : Addr}
    {t_Number_init_0 : Tok}
    {oT_Number_init : Value}
    {dT_Number_init : Option Addr}
    {nT_Number_init : Nat}
    {sT_Number_init : Array (Option Value)}
    {f_Number_top : Addr}
    {p_Number_top : Addr}
    {r_Number_top : List Value}
    {oc_Number_top : Value}
    {kV_Number_top : Value}
    {dc_Number_top : Value}
    {pm_Number_top : Value}
    {cd_Number_top : Value}
    {ct_Number_top : Value}
    {od_Number_top : Option Addr}
    {an_Number_top : Option Addr}
    {osl_Number_top : Array (Option Value)}
    {f_Number_bottom : Addr}
    {p_Number_bottom : Addr}
    {r_Number_bottom : List Value}
    {oc_Number_bottom : Value}
    {kV_Number_bottom : Value}
    {dc_Number_bottom : Value}
    {pm_Number_bottom : Value}
    {cd_Number_bottom : Value}
    {ct_Number_bottom : Value}
    {od_Number_bottom : Option Addr}
    {an_Number_bottom : Option Addr}
    {osl_Number_bottom : Array (Option Value)}
    {f_Number_eq : Addr}
    {oc_Number_eq : Value}
    {kV_Number_eq : Value}
    {dc_Number_eq : Value}
    {pm_Number_eq : Value}
    {cd_Number_eq : Value}
    {ct_Number_eq : Value}
    {od_Number_eq : Option Addr}
    {an_Number_eq : Option Addr}
    {osl_Number_eq : Array (Option Value)}
    {f_Number_is_less : Addr}
    {oc_Number_is_less : Value}
    {kV_Number_is_less : Value}
    {dc_Number_is_less : Value}
    {pm_Number_is_less : Value}
    {cd_Number_is_less : Value}
    {ct_Number_is_less : Value}
    {od_Number_is_less : Option Addr}
    {an_Number_is_less : Option Addr}
    {osl_Number_is_less : Array (Option Value)}
    {f_Number_add : Addr}
    {oc_Number_add : Value}
    {kV_Number_add : Value}
    {dc_Number_add : Value}
    {pm_Number_add : Value}
    {cd_Number_add : Value}
    {ct_Number_add : Value}
    {od_Number_add : Option Addr}
    {an_Number_add : Option Addr}
    {osl_Number_add : Array (Option Value)}
    {f_Number_sub : Addr}
    {oc_Number_sub : Value}
    {kV_Number_sub : Value}
    {dc_Number_sub : Value}
    {pm_Number_sub : Value}
    {cd_Number_sub : Value}
    {ct_Number_sub : Value}
    {od_Number_sub : Option Addr}
    {an_Number_sub : Option Addr}
    {osl_Number_sub : Array (Option Value)}
    {f_Number_mul : Addr}
    {oc_Number_mul : Value}
    {kV_Number_mul : Value}
    {dc_Number_mul : Value}
    {pm_Number_mul : Value}
    {cd_Number_mul : Value}
    {ct_Number_mul : Value}
    {od_Number_mul : Option Addr}
    {an_Number_mul : Option Addr}
    {osl_Number_mul : Array (Option Value)}
    {f_Number_neg : Addr}
    {oc_Number_neg : Value}
    {kV_Number_neg : Value}
    {dc_Number_neg : Value}
    {pm_Number_neg : Value}
    {cd_Number_neg : Value}
    {ct_Number_neg : Value}
    {od_Number_neg : Option Addr}
    {an_Number_neg : Option Addr}
    {osl_Number_neg : Array (Option Value)}
    {f_Number_abs : Addr}
    {oc_Number_abs : Value}
    {kV_Number_abs : Value}
    {dc_Number_abs : Value}
    {pm_Number_abs : Value}
    {cd_Number_abs : Value}
    {ct_Number_abs : Value}
    {od_Number_abs : Option Addr}
    {an_Number_abs : Option Addr}
    {osl_Number_abs : Array (Option Value)}
    {f_Number_bool : Addr}
    {oc_Number_bool : Value}
    {kV_Number_bool : Value}
    {dc_Number_bool : Value}
    {pm_Number_bool : Value}
    {cd_Number_bool : Value}
    {ct_Number_bool : Value}
    {od_Number_bool : Option Addr}
    {an_Number_bool : Option Addr}
    {osl_Number_bool : Array (Option Value)}
    {f_law_pot : Addr}
    {oc_law_pot : Value}
    {kV_law_pot : Value}
    {dc_law_pot : Value}
    {pm_law_pot : Value}
    {cd_law_pot : Value}
    {ct_law_pot : Value}
    {od_law_pot : Option Addr}
    {an_law_pot : Option Addr}
    {osl_law_pot : Array (Option Value)}
    {f_law_take : Addr}
    {oc_law_take : Value}
    {kV_law_take : Value}
    {dc_law_take : Value}
    {pm_law_take : Value}
    {cd_law_take : Value}
    {ct_law_take : Value}
    {od_law_take : Option Addr}
    {an_law_take : Option Addr}
    {osl_law_take : Array (Option Value)}
    {f_law_of : Addr}
    {oc_law_of : Value}
    {kV_law_of : Value}
    {dc_law_of : Value}
    {pm_law_of : Value}
    {cd_law_of : Value}
    {ct_law_of : Value}
    {od_law_of : Option Addr}
    {an_law_of : Option Addr}
    {osl_law_of : Array (Option Value)}
    {f_law_least : Addr}
    {oc_law_least : Value}
    {kV_law_least : Value}
    {dc_law_least : Value}
    {pm_law_least : Value}
    {cd_law_least : Value}
    {ct_law_least : Value}
    {od_law_least : Option Addr}
    {an_law_least : Option Addr}
    {osl_law_least : Array (Option Value)}
    {f_law_drawn : Addr}
    {oc_law_drawn : Value}
    {kV_law_drawn : Value}
    {dc_law_drawn : Value}
    {pm_law_drawn : Value}
    {cd_law_drawn : Value}
    {ct_law_drawn : Value}
    {od_law_drawn : Option Addr}
    {an_law_drawn : Option Addr}
    {osl_law_drawn : Array (Option Value)}
    {f_law_pair : Addr}
    {oc_law_pair : Value}
    {kV_law_pair : Value}
    {dc_law_pair : Value}
    {pm_law_pair : Value}
    {cd_law_pair : Value}
    {ct_law_pair : Value}
    {od_law_pair : Option Addr}
    {an_law_pair : Option Addr}
    {osl_law_pair : Array (Option Value)}
    {f_law_near : Addr}
    {oc_law_near : Value}
    {kV_law_near : Value}
    {dc_law_near : Value}
    {pm_law_near : Value}
    {cd_law_near : Value}
    {ct_law_near : Value}
    {od_law_near : Option Addr}
    {an_law_near : Option Addr}
    {osl_law_near : Array (Option Value)}
    {f_law_is_right : Addr}
    {oc_law_is_right : Value}
    {kV_law_is_right : Value}
    {dc_law_is_right : Value}
    {pm_law_is_right : Value}
    {cd_law_is_right : Value}
    {ct_law_is_right : Value}
    {od_law_is_right : Option Addr}
    {an_law_is_right : Option Addr}
    {osl_law_is_right : Array (Option Value)}
    {f_law : Addr}
    {oc_law : Value}
    {kV_law : Value}
    {dc_law : Value}
    {pm_law : Value}
    {cd_law : Value}
    {ct_law : Value}
    {od_law : Option Addr}
    {an_law : Option Addr}
    {osl_law : Array (Option Value)}
    (a_Number : PySem.W.nsIn K mainGlobals "Number" = some (some (.ref c_Number)))
    (pg_Number : PySem.W.plainGet K c_Number Str.empty = true)
    (hd_Number : PySem.W.hasDictIn K c_Number = true)
    (po_Number : PySem.W.plainOver K c_Number = true)
    (sa_Number : PySem.W.findIn K (.ref c_Number) "__setattr__" = some (some (.builtin "object.__setattr__")))
    (mk_Number : PySem.W.makesIn K c_Number = true)
    (kc_Number : PySem.W.keepIn K (.ref c_Number) = true)
    (sf_Number : PySem.W.selfFirst K c_Number = true)
    (ca_Number : PySem.W.findIn K (.ref c_Number) "__class__" = some (some (.builtin "object.__class__")))
    (cm_Number : PySem.W.mroIn K c_Number (.type "object") = some true)
    (n_Number_own_top : PySem.W.findIn K (.ref c_Number) "own_top" = some none)
    (n_Number_own_bottom : PySem.W.findIn K (.ref c_Number) "own_bottom" = some none)
    (cn : PySem.W.specialIn K (.builtin "object.__class__") "__get__" = some (some (.builtin "getset_descriptor.__get__")))
    (ct : PySem.W.takesIn K (.builtin "object.__class__") = some true)
    (a_is_integer : PySem.W.nsIn K mainGlobals "is_integer" = some (some (.ref f_is_integer)))
    (l_is_integer : K.lookup f_is_integer = some ⟨oc_is_integer, od_is_integer, .func (PySem.W.fnOf "is_integer" "is_integer" (defArgs s_is_integer) (defBody s_is_integer) (defScope s_is_integer) .none kV_is_integer dc_is_integer pm_is_integer an_is_integer cd_is_integer ct_is_integer), osl_is_integer⟩)
    (hc_is_integer : PySem.W.codeIn K cd_is_integer "is_integer" = true)
    (k_is_integer : PySem.W.keepIn K (.ref f_is_integer) = true)
    (a_shared_divisor : PySem.W.nsIn K mainGlobals "shared_divisor" = some (some (.ref f_shared_divisor)))
    (l_shared_divisor : K.lookup f_shared_divisor = some ⟨oc_shared_divisor, od_shared_divisor, .func (PySem.W.fnOf "shared_divisor" "shared_divisor" (defArgs s_shared_divisor) (defBody s_shared_divisor) (defScope s_shared_divisor) .none kV_shared_divisor dc_shared_divisor pm_shared_divisor an_shared_divisor cd_shared_divisor ct_shared_divisor), osl_shared_divisor⟩)
    (hc_shared_divisor : PySem.W.codeIn K cd_shared_divisor "shared_divisor" = true)
    (k_shared_divisor : PySem.W.keepIn K (.ref f_shared_divisor) = true)
    (a_Number_init : PySem.W.findIn K (.ref c_Number) "__init__" = some (some (.ref f_Number_init)))
    (i_Number_init : PySem.W.isFn K (.ref f_Number_init) = true)
    (l_Number_init : K.lookup f_Number_init = some ⟨oc_Number_init, od_Number_init, .func (PySem.W.fnOf "__init__" "Number.__init__" (defArgs s_Number_init) (defBody s_Number_init) (defScope s_Number_init) (.ref T_Number_init) kV_Number_init dc_Number_init pm_Number_init an_Number_init cd_Number_init ct_Number_init), osl_Number_init⟩)
    (hc_Number_init : PySem.W.codeIn K cd_Number_init "Number.__init__" = true)
    (k_Number_init : PySem.W.keepIn K (.ref f_Number_init) = true)
    (lT_Number_init : K.lookup T_Number_init = some ⟨oT_Number_init, dT_Number_init, .seq #[.int 1 t_Number_init_0] nT_Number_init, sT_Number_init⟩)
    (at_Number_top : PySem.W.findIn K (.ref c_Number) "top" = some (some (.ref p_Number_top)))
    (gt_Number_top : PySem.W.specialIn K (.ref p_Number_top) "__get__" = some (some (.builtin "property.__get__")))
    (tk_Number_top : PySem.W.takesIn K (.ref p_Number_top) = some true)
    (rc_Number_top : PySem.W.recIn K p_Number_top "property" = some (.ref f_Number_top :: r_Number_top))
    (l_Number_top : K.lookup f_Number_top = some ⟨oc_Number_top, od_Number_top, .func (PySem.W.fnOf "top" "Number.top" (defArgs s_Number_top) (defBody s_Number_top) (defScope s_Number_top) .none kV_Number_top dc_Number_top pm_Number_top an_Number_top cd_Number_top ct_Number_top), osl_Number_top⟩)
    (hc_Number_top : PySem.W.codeIn K cd_Number_top "Number.top" = true)
    (k_Number_top : PySem.W.keepIn K (.ref f_Number_top) = true)
    (at_Number_bottom : PySem.W.findIn K (.ref c_Number) "bottom" = some (some (.ref p_Number_bottom)))
    (gt_Number_bottom : PySem.W.specialIn K (.ref p_Number_bottom) "__get__" = some (some (.builtin "property.__get__")))
    (tk_Number_bottom : PySem.W.takesIn K (.ref p_Number_bottom) = some true)
    (rc_Number_bottom : PySem.W.recIn K p_Number_bottom "property" = some (.ref f_Number_bottom :: r_Number_bottom))
    (l_Number_bottom : K.lookup f_Number_bottom = some ⟨oc_Number_bottom, od_Number_bottom, .func (PySem.W.fnOf "bottom" "Number.bottom" (defArgs s_Number_bottom) (defBody s_Number_bottom) (defScope s_Number_bottom) .none kV_Number_bottom dc_Number_bottom pm_Number_bottom an_Number_bottom cd_Number_bottom ct_Number_bottom), osl_Number_bottom⟩)
    (hc_Number_bottom : PySem.W.codeIn K cd_Number_bottom "Number.bottom" = true)
    (k_Number_bottom : PySem.W.keepIn K (.ref f_Number_bottom) = true)
    (a_Number_eq : PySem.W.findIn K (.ref c_Number) "__eq__" = some (some (.ref f_Number_eq)))
    (i_Number_eq : PySem.W.isFn K (.ref f_Number_eq) = true)
    (l_Number_eq : K.lookup f_Number_eq = some ⟨oc_Number_eq, od_Number_eq, .func (PySem.W.fnOf "__eq__" "Number.__eq__" (defArgs s_Number_eq) (defBody s_Number_eq) (defScope s_Number_eq) .none kV_Number_eq dc_Number_eq pm_Number_eq an_Number_eq cd_Number_eq ct_Number_eq), osl_Number_eq⟩)
    (hc_Number_eq : PySem.W.codeIn K cd_Number_eq "Number.__eq__" = true)
    (k_Number_eq : PySem.W.keepIn K (.ref f_Number_eq) = true)
    (a_Number_is_less : PySem.W.findIn K (.ref c_Number) "is_less" = some (some (.ref f_Number_is_less)))
    (i_Number_is_less : PySem.W.isFn K (.ref f_Number_is_less) = true)
    (l_Number_is_less : K.lookup f_Number_is_less = some ⟨oc_Number_is_less, od_Number_is_less, .func (PySem.W.fnOf "is_less" "Number.is_less" (defArgs s_Number_is_less) (defBody s_Number_is_less) (defScope s_Number_is_less) .none kV_Number_is_less dc_Number_is_less pm_Number_is_less an_Number_is_less cd_Number_is_less ct_Number_is_less), osl_Number_is_less⟩)
    (hc_Number_is_less : PySem.W.codeIn K cd_Number_is_less "Number.is_less" = true)
    (k_Number_is_less : PySem.W.keepIn K (.ref f_Number_is_less) = true)
    (a_Number_add : PySem.W.findIn K (.ref c_Number) "__add__" = some (some (.ref f_Number_add)))
    (i_Number_add : PySem.W.isFn K (.ref f_Number_add) = true)
    (l_Number_add : K.lookup f_Number_add = some ⟨oc_Number_add, od_Number_add, .func (PySem.W.fnOf "__add__" "Number.__add__" (defArgs s_Number_add) (defBody s_Number_add) (defScope s_Number_add) .none kV_Number_add dc_Number_add pm_Number_add an_Number_add cd_Number_add ct_Number_add), osl_Number_add⟩)
    (hc_Number_add : PySem.W.codeIn K cd_Number_add "Number.__add__" = true)
    (k_Number_add : PySem.W.keepIn K (.ref f_Number_add) = true)
    (a_Number_sub : PySem.W.findIn K (.ref c_Number) "__sub__" = some (some (.ref f_Number_sub)))
    (i_Number_sub : PySem.W.isFn K (.ref f_Number_sub) = true)
    (l_Number_sub : K.lookup f_Number_sub = some ⟨oc_Number_sub, od_Number_sub, .func (PySem.W.fnOf "__sub__" "Number.__sub__" (defArgs s_Number_sub) (defBody s_Number_sub) (defScope s_Number_sub) .none kV_Number_sub dc_Number_sub pm_Number_sub an_Number_sub cd_Number_sub ct_Number_sub), osl_Number_sub⟩)
    (hc_Number_sub : PySem.W.codeIn K cd_Number_sub "Number.__sub__" = true)
    (k_Number_sub : PySem.W.keepIn K (.ref f_Number_sub) = true)
    (a_Number_mul : PySem.W.findIn K (.ref c_Number) "__mul__" = some (some (.ref f_Number_mul)))
    (i_Number_mul : PySem.W.isFn K (.ref f_Number_mul) = true)
    (l_Number_mul : K.lookup f_Number_mul = some ⟨oc_Number_mul, od_Number_mul, .func (PySem.W.fnOf "__mul__" "Number.__mul__" (defArgs s_Number_mul) (defBody s_Number_mul) (defScope s_Number_mul) .none kV_Number_mul dc_Number_mul pm_Number_mul an_Number_mul cd_Number_mul ct_Number_mul), osl_Number_mul⟩)
    (hc_Number_mul : PySem.W.codeIn K cd_Number_mul "Number.__mul__" = true)
    (k_Number_mul : PySem.W.keepIn K (.ref f_Number_mul) = true)
    (a_Number_neg : PySem.W.findIn K (.ref c_Number) "__neg__" = some (some (.ref f_Number_neg)))
    (i_Number_neg : PySem.W.isFn K (.ref f_Number_neg) = true)
    (l_Number_neg : K.lookup f_Number_neg = some ⟨oc_Number_neg, od_Number_neg, .func (PySem.W.fnOf "__neg__" "Number.__neg__" (defArgs s_Number_neg) (defBody s_Number_neg) (defScope s_Number_neg) .none kV_Number_neg dc_Number_neg pm_Number_neg an_Number_neg cd_Number_neg ct_Number_neg), osl_Number_neg⟩)
    (hc_Number_neg : PySem.W.codeIn K cd_Number_neg "Number.__neg__" = true)
    (k_Number_neg : PySem.W.keepIn K (.ref f_Number_neg) = true)
    (a_Number_abs : PySem.W.findIn K (.ref c_Number) "__abs__" = some (some (.ref f_Number_abs)))
    (i_Number_abs : PySem.W.isFn K (.ref f_Number_abs) = true)
    (l_Number_abs : K.lookup f_Number_abs = some ⟨oc_Number_abs, od_Number_abs, .func (PySem.W.fnOf "__abs__" "Number.__abs__" (defArgs s_Number_abs) (defBody s_Number_abs) (defScope s_Number_abs) .none kV_Number_abs dc_Number_abs pm_Number_abs an_Number_abs cd_Number_abs ct_Number_abs), osl_Number_abs⟩)
    (hc_Number_abs : PySem.W.codeIn K cd_Number_abs "Number.__abs__" = true)
    (k_Number_abs : PySem.W.keepIn K (.ref f_Number_abs) = true)
    (a_Number_bool : PySem.W.findIn K (.ref c_Number) "__bool__" = some (some (.ref f_Number_bool)))
    (i_Number_bool : PySem.W.isFn K (.ref f_Number_bool) = true)
    (l_Number_bool : K.lookup f_Number_bool = some ⟨oc_Number_bool, od_Number_bool, .func (PySem.W.fnOf "__bool__" "Number.__bool__" (defArgs s_Number_bool) (defBody s_Number_bool) (defScope s_Number_bool) .none kV_Number_bool dc_Number_bool pm_Number_bool an_Number_bool cd_Number_bool ct_Number_bool), osl_Number_bool⟩)
    (hc_Number_bool : PySem.W.codeIn K cd_Number_bool "Number.__bool__" = true)
    (k_Number_bool : PySem.W.keepIn K (.ref f_Number_bool) = true)
    (a_law_pot : PySem.W.nsIn K mainGlobals "_law_pot" = some (some (.ref f_law_pot)))
    (l_law_pot : K.lookup f_law_pot = some ⟨oc_law_pot, od_law_pot, .func (PySem.W.fnOf "_law_pot" "_law_pot" (defArgs s_law_pot) (defBody s_law_pot) (defScope s_law_pot) .none kV_law_pot dc_law_pot pm_law_pot an_law_pot cd_law_pot ct_law_pot), osl_law_pot⟩)
    (hc_law_pot : PySem.W.codeIn K cd_law_pot "_law_pot" = true)
    (k_law_pot : PySem.W.keepIn K (.ref f_law_pot) = true)
    (a_law_take : PySem.W.nsIn K mainGlobals "_law_take" = some (some (.ref f_law_take)))
    (l_law_take : K.lookup f_law_take = some ⟨oc_law_take, od_law_take, .func (PySem.W.fnOf "_law_take" "_law_take" (defArgs s_law_take) (defBody s_law_take) (defScope s_law_take) .none kV_law_take dc_law_take pm_law_take an_law_take cd_law_take ct_law_take), osl_law_take⟩)
    (hc_law_take : PySem.W.codeIn K cd_law_take "_law_take" = true)
    (k_law_take : PySem.W.keepIn K (.ref f_law_take) = true)
    (a_law_of : PySem.W.nsIn K mainGlobals "_law_of" = some (some (.ref f_law_of)))
    (l_law_of : K.lookup f_law_of = some ⟨oc_law_of, od_law_of, .func (PySem.W.fnOf "_law_of" "_law_of" (defArgs s_law_of) (defBody s_law_of) (defScope s_law_of) .none kV_law_of dc_law_of pm_law_of an_law_of cd_law_of ct_law_of), osl_law_of⟩)
    (hc_law_of : PySem.W.codeIn K cd_law_of "_law_of" = true)
    (k_law_of : PySem.W.keepIn K (.ref f_law_of) = true)
    (a_law_least : PySem.W.nsIn K mainGlobals "_law_least" = some (some (.ref f_law_least)))
    (l_law_least : K.lookup f_law_least = some ⟨oc_law_least, od_law_least, .func (PySem.W.fnOf "_law_least" "_law_least" (defArgs s_law_least) (defBody s_law_least) (defScope s_law_least) .none kV_law_least dc_law_least pm_law_least an_law_least cd_law_least ct_law_least), osl_law_least⟩)
    (hc_law_least : PySem.W.codeIn K cd_law_least "_law_least" = true)
    (k_law_least : PySem.W.keepIn K (.ref f_law_least) = true)
    (a_law_drawn : PySem.W.nsIn K mainGlobals "_law_drawn" = some (some (.ref f_law_drawn)))
    (l_law_drawn : K.lookup f_law_drawn = some ⟨oc_law_drawn, od_law_drawn, .func (PySem.W.fnOf "_law_drawn" "_law_drawn" (defArgs s_law_drawn) (defBody s_law_drawn) (defScope s_law_drawn) .none kV_law_drawn dc_law_drawn pm_law_drawn an_law_drawn cd_law_drawn ct_law_drawn), osl_law_drawn⟩)
    (hc_law_drawn : PySem.W.codeIn K cd_law_drawn "_law_drawn" = true)
    (k_law_drawn : PySem.W.keepIn K (.ref f_law_drawn) = true)
    (a_law_pair : PySem.W.nsIn K mainGlobals "_law_pair" = some (some (.ref f_law_pair)))
    (l_law_pair : K.lookup f_law_pair = some ⟨oc_law_pair, od_law_pair, .func (PySem.W.fnOf "_law_pair" "_law_pair" (defArgs s_law_pair) (defBody s_law_pair) (defScope s_law_pair) .none kV_law_pair dc_law_pair pm_law_pair an_law_pair cd_law_pair ct_law_pair), osl_law_pair⟩)
    (hc_law_pair : PySem.W.codeIn K cd_law_pair "_law_pair" = true)
    (k_law_pair : PySem.W.keepIn K (.ref f_law_pair) = true)
    (a_law_near : PySem.W.nsIn K mainGlobals "_law_near" = some (some (.ref f_law_near)))
    (l_law_near : K.lookup f_law_near = some ⟨oc_law_near, od_law_near, .func (PySem.W.fnOf "_law_near" "_law_near" (defArgs s_law_near) (defBody s_law_near) (defScope s_law_near) .none kV_law_near dc_law_near pm_law_near an_law_near cd_law_near ct_law_near), osl_law_near⟩)
    (hc_law_near : PySem.W.codeIn K cd_law_near "_law_near" = true)
    (k_law_near : PySem.W.keepIn K (.ref f_law_near) = true)
    (a_law_is_right : PySem.W.nsIn K mainGlobals "_law_is_right" = some (some (.ref f_law_is_right)))
    (l_law_is_right : K.lookup f_law_is_right = some ⟨oc_law_is_right, od_law_is_right, .func (PySem.W.fnOf "_law_is_right" "_law_is_right" (defArgs s_law_is_right) (defBody s_law_is_right) (defScope s_law_is_right) .none kV_law_is_right dc_law_is_right pm_law_is_right an_law_is_right cd_law_is_right ct_law_is_right), osl_law_is_right⟩)
    (hc_law_is_right : PySem.W.codeIn K cd_law_is_right "_law_is_right" = true)
    (k_law_is_right : PySem.W.keepIn K (.ref f_law_is_right) = true)
    (a_law : PySem.W.nsIn K mainGlobals "law" = some (some (.ref f_law)))
    (l_law : K.lookup f_law = some ⟨oc_law, od_law, .func (PySem.W.fnOf "law" "law" (defArgs s_law) (defBody s_law) (defScope s_law) .none kV_law dc_law pm_law an_law cd_law ct_law), osl_law⟩)
    (hc_law : PySem.W.codeIn K cd_law "law" = true)
    (k_law : PySem.W.keepIn K (.ref f_law) = true)
    (z_isinstance : PySem.W.nsIn K mainGlobals "isinstance" = some none)
    (z_int : PySem.W.nsIn K mainGlobals "int" = some none)
    (z_bool : PySem.W.nsIn K mainGlobals "bool" = some none)
    (z_abs : PySem.W.nsIn K mainGlobals "abs" = some none)
    (z_len : PySem.W.nsIn K mainGlobals "len" = some none)
    (z_max : PySem.W.nsIn K mainGlobals "max" = some none)
    (z_min : PySem.W.nsIn K mainGlobals "min" = some none)
    (z_range : PySem.W.nsIn K mainGlobals "range" = some none)
    (z_repr : PySem.W.nsIn K mainGlobals "repr" = some none)
    (kit_NumNum : PySem.W.kitOne K (.ref c_Number) (.ref c_Number) = some true)
    (ne_Number : PySem.W.findIn K (.ref c_Number) "__ne__" = some (some (.builtin "object.__ne__")))
    : ∃ fd : FuncData, (∀ (s : Shared) (v : Value), BindsTo s fd ⟨[v], []⟩ [("script", v)]) ∧ ∀ base : Heap, K.In base → base.Ns mainGlobals mg → FnG P w K mg base CX0 LV fa fd ["script"] (spLaw K) := by
  obtain ⟨A, eA, T⟩ := all_mk X G a_Number pg_Number hd_Number po_Number sa_Number mk_Number kc_Number sf_Number ca_Number cm_Number n_Number_own_top n_Number_own_bottom cn ct a_is_integer l_is_integer hc_is_integer k_is_integer a_shared_divisor l_shared_divisor hc_shared_divisor k_shared_divisor a_Number_init i_Number_init l_Number_init hc_Number_init k_Number_init lT_Number_init at_Number_top gt_Number_top tk_Number_top rc_Number_top l_Number_top hc_Number_top k_Number_top at_Number_bottom gt_Number_bottom tk_Number_bottom rc_Number_bottom l_Number_bottom hc_Number_bottom k_Number_bottom a_Number_eq i_Number_eq l_Number_eq hc_Number_eq k_Number_eq a_Number_is_less i_Number_is_less l_Number_is_less hc_Number_is_less k_Number_is_less a_Number_add i_Number_add l_Number_add hc_Number_add k_Number_add a_Number_sub i_Number_sub l_Number_sub hc_Number_sub k_Number_sub a_Number_mul i_Number_mul l_Number_mul hc_Number_mul k_Number_mul a_Number_neg i_Number_neg l_Number_neg hc_Number_neg k_Number_neg a_Number_abs i_Number_abs l_Number_abs hc_Number_abs k_Number_abs a_Number_bool i_Number_bool l_Number_bool hc_Number_bool k_Number_bool a_law_pot l_law_pot hc_law_pot k_law_pot a_law_take l_law_take hc_law_take k_law_take a_law_of l_law_of hc_law_of k_law_of a_law_least l_law_least hc_law_least k_law_least a_law_drawn l_law_drawn hc_law_drawn k_law_drawn a_law_pair l_law_pair hc_law_pair k_law_pair a_law_near l_law_near hc_law_near k_law_near a_law_is_right l_law_is_right hc_law_is_right k_law_is_right a_law l_law hc_law k_law z_isinstance z_int z_bool z_abs z_len z_max z_min z_range z_repr kit_NumNum ne_Number
  have e := hfa.symm.trans (PySem.W.mg_of X G a_law)
  cases e
  refine ⟨A.d_law, fun s v => ?_, fun base _ _ => eA ▸ (ok_law T).mono (by decide)⟩
  obtain ⟨oc, od, kV, doc, pm, an, cdv, ct, osl, hfd, _, _⟩ := T.F_law.ex
  rw [hfd]
  exact .of_eq rfl
end Q
open PySem PySem.W PyProof.Rows
set_option maxRecDepth 100000 in
set_option maxHeartbeats 0 in
theorem PySem.Challenge.cw_whatspeed_k02_sums_and_compares_holds : PySem.Challenge.rw_whatspeed_k02_sums_and_compares.Holds := by
  w_on; o_law; k_head; (case hw => w_witness2)
  k_fill
  refine Q.walk (l := PySem.Challenge.rw_whatspeed_k02_sums_and_compares) rfl rfl (fun w h Y => PySem.W.kIn_of Y) ?F
  case F =>
    intro w mg fa h KX G hmg
    refine' Q.law_mk KX G hmg ?a_Number ?pg_Number ?hd_Number ?po_Number ?sa_Number ?mk_Number ?kc_Number ?sf_Number ?ca_Number ?cm_Number ?n_Number_own_top ?n_Number_own_bottom ?cn ?ct ?a_is_integer ?l_is_integer ?hc_is_integer ?k_is_integer ?a_shared_divisor ?l_shared_divisor ?hc_shared_divisor ?k_shared_divisor ?a_Number_init ?i_Number_init ?l_Number_init ?hc_Number_init ?k_Number_init ?lT_Number_init ?at_Number_top ?gt_Number_top ?tk_Number_top ?rc_Number_top ?l_Number_top ?hc_Number_top ?k_Number_top ?at_Number_bottom ?gt_Number_bottom ?tk_Number_bottom ?rc_Number_bottom ?l_Number_bottom ?hc_Number_bottom ?k_Number_bottom ?a_Number_eq ?i_Number_eq ?l_Number_eq ?hc_Number_eq ?k_Number_eq ?a_Number_is_less ?i_Number_is_less ?l_Number_is_less ?hc_Number_is_less ?k_Number_is_less ?a_Number_add ?i_Number_add ?l_Number_add ?hc_Number_add ?k_Number_add ?a_Number_sub ?i_Number_sub ?l_Number_sub ?hc_Number_sub ?k_Number_sub ?a_Number_mul ?i_Number_mul ?l_Number_mul ?hc_Number_mul ?k_Number_mul ?a_Number_neg ?i_Number_neg ?l_Number_neg ?hc_Number_neg ?k_Number_neg ?a_Number_abs ?i_Number_abs ?l_Number_abs ?hc_Number_abs ?k_Number_abs ?a_Number_bool ?i_Number_bool ?l_Number_bool ?hc_Number_bool ?k_Number_bool ?a_law_pot ?l_law_pot ?hc_law_pot ?k_law_pot ?a_law_take ?l_law_take ?hc_law_take ?k_law_take ?a_law_of ?l_law_of ?hc_law_of ?k_law_of ?a_law_least ?l_law_least ?hc_law_least ?k_law_least ?a_law_drawn ?l_law_drawn ?hc_law_drawn ?k_law_drawn ?a_law_pair ?l_law_pair ?hc_law_pair ?k_law_pair ?a_law_near ?l_law_near ?hc_law_near ?k_law_near ?a_law_is_right ?l_law_is_right ?hc_law_is_right ?k_law_is_right ?a_law ?l_law ?hc_law ?k_law ?z_isinstance ?z_int ?z_bool ?z_abs ?z_len ?z_max ?z_min ?z_range ?z_repr ?kit_NumNum ?ne_Number
    (case a_Number => k_is)
    (case pg_Number => k_is)
    (case hd_Number => k_is)
    (case po_Number => k_is)
    (case sa_Number => k_is)
    (case mk_Number => k_is)
    (case kc_Number => k_is)
    (case sf_Number => k_is)
    (case ca_Number => k_is)
    (case cm_Number => k_is)
    (case n_Number_own_top => k_is)
    (case n_Number_own_bottom => k_is)
    (case cn => k_is)
    (case ct => k_is)
    (case a_is_integer => k_is)
    (case l_is_integer => k_is)
    (case hc_is_integer => k_is)
    (case k_is_integer => k_is)
    (case a_shared_divisor => k_is)
    (case l_shared_divisor => k_is)
    (case hc_shared_divisor => k_is)
    (case k_shared_divisor => k_is)
    (case a_Number_init => k_is)
    (case i_Number_init => k_is)
    (case l_Number_init => k_is)
    (case hc_Number_init => k_is)
    (case k_Number_init => k_is)
    (case lT_Number_init => k_is)
    (case at_Number_top => k_is)
    (case gt_Number_top => k_is)
    (case tk_Number_top => k_is)
    (case rc_Number_top => k_is)
    (case l_Number_top => k_is)
    (case hc_Number_top => k_is)
    (case k_Number_top => k_is)
    (case at_Number_bottom => k_is)
    (case gt_Number_bottom => k_is)
    (case tk_Number_bottom => k_is)
    (case rc_Number_bottom => k_is)
    (case l_Number_bottom => k_is)
    (case hc_Number_bottom => k_is)
    (case k_Number_bottom => k_is)
    (case a_Number_eq => k_is)
    (case i_Number_eq => k_is)
    (case l_Number_eq => k_is)
    (case hc_Number_eq => k_is)
    (case k_Number_eq => k_is)
    (case a_Number_is_less => k_is)
    (case i_Number_is_less => k_is)
    (case l_Number_is_less => k_is)
    (case hc_Number_is_less => k_is)
    (case k_Number_is_less => k_is)
    (case a_Number_add => k_is)
    (case i_Number_add => k_is)
    (case l_Number_add => k_is)
    (case hc_Number_add => k_is)
    (case k_Number_add => k_is)
    (case a_Number_sub => k_is)
    (case i_Number_sub => k_is)
    (case l_Number_sub => k_is)
    (case hc_Number_sub => k_is)
    (case k_Number_sub => k_is)
    (case a_Number_mul => k_is)
    (case i_Number_mul => k_is)
    (case l_Number_mul => k_is)
    (case hc_Number_mul => k_is)
    (case k_Number_mul => k_is)
    (case a_Number_neg => k_is)
    (case i_Number_neg => k_is)
    (case l_Number_neg => k_is)
    (case hc_Number_neg => k_is)
    (case k_Number_neg => k_is)
    (case a_Number_abs => k_is)
    (case i_Number_abs => k_is)
    (case l_Number_abs => k_is)
    (case hc_Number_abs => k_is)
    (case k_Number_abs => k_is)
    (case a_Number_bool => k_is)
    (case i_Number_bool => k_is)
    (case l_Number_bool => k_is)
    (case hc_Number_bool => k_is)
    (case k_Number_bool => k_is)
    (case a_law_pot => k_is)
    (case l_law_pot => k_is)
    (case hc_law_pot => k_is)
    (case k_law_pot => k_is)
    (case a_law_take => k_is)
    (case l_law_take => k_is)
    (case hc_law_take => k_is)
    (case k_law_take => k_is)
    (case a_law_of => k_is)
    (case l_law_of => k_is)
    (case hc_law_of => k_is)
    (case k_law_of => k_is)
    (case a_law_least => k_is)
    (case l_law_least => k_is)
    (case hc_law_least => k_is)
    (case k_law_least => k_is)
    (case a_law_drawn => k_is)
    (case l_law_drawn => k_is)
    (case hc_law_drawn => k_is)
    (case k_law_drawn => k_is)
    (case a_law_pair => k_is)
    (case l_law_pair => k_is)
    (case hc_law_pair => k_is)
    (case k_law_pair => k_is)
    (case a_law_near => k_is)
    (case l_law_near => k_is)
    (case hc_law_near => k_is)
    (case k_law_near => k_is)
    (case a_law_is_right => k_is)
    (case l_law_is_right => k_is)
    (case hc_law_is_right => k_is)
    (case k_law_is_right => k_is)
    (case a_law => k_is)
    (case l_law => k_is)
    (case hc_law => k_is)
    (case k_law => k_is)
    (case z_isinstance => k_is)
    (case z_int => k_is)
    (case z_bool => k_is)
    (case z_abs => k_is)
    (case z_len => k_is)
    (case z_max => k_is)
    (case z_min => k_is)
    (case z_range => k_is)
    (case z_repr => k_is)
    (case kit_NumNum => kit_is)
    (case ne_Number => k_is)
