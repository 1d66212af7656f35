import PyProof.Rows.All
import Wide.All
import OpenK.AllK
import Wide.FinOn
import KE.KOpsOwn
import PyProof.InstNe
import HandS.ForExc
import HandS.Comp
import HandS.More
import HandS.Slots
import HandS.SlotsOwn
import HandS.ClsMeth
import HandS.Lambda
import HandS.ExcIs
import HandS.IsInst
import HandS.Wide
import HandS.Defaults
import HandS.Iter
import HandS.Flow
import HandS.Star
import HandS.Evl
import HandS.EndTab
import HandS.TupAny
import HandS.TupMul
import HandS.Conv
import HandS.Deep
import HandS.CallSlots
import HandS.DictComp
import KE.KeyNested
import KE.KDictKeyed
import HandS.NamedTupGet
import HandS.ExcInit
import HandS.Nested
import KE.KExcSuper
import HandS.ExcField
import HandS.TryOnly
import HandS.RaiseMore
import KE.GoesMore
import HandS.Zip
import HandS.SetBool
import HandS.SetKeys
import HandS.Style
import PyProof.RulesMatch
import HandS.HeadHook2
import HandS.Head0
import HandS.Head1
import HandS.Head2
import HandS.HeadEnd
import PySem.Challenge.RW_emptyup_k02_whole_stores
section
set_option Elab.async false
set_option linter.all false
set_option maxRecDepth 100000
set_option maxHeartbeats 4000000
namespace N1
open PySem PySem.Spec PyProof.Rows L2
section
variable {X : Cx} {CX : CXT} {C g : Addr} {n : Nat} {sp : Sp} {E : XK}
def rBin (C : Addr) (sp : Sp) (E : XK) : R2 := fun x y H Q => ∃ a dx vs b dy ws, x = .ref a ∧ y = .ref b ∧ SlX.Slt H a C dx vs ∧ SlX.Slt H b C dy ws ∧ sp [x, y] H Q E
theorem op_bin {op : Operator} (hc : PySem.W.selfFirst X.K C = true) (hs : PySem.W.findIn X.K (.ref C) (PySem.dunder op.info.2) = some (some (.ref g))) (hf : PySem.W.isFn X.K (.ref g) = true)
    (F : FnR X.prog X.w X.K X.mg X.base CX n g sp) (hr : Room n X.A) (hx : Passes CX X E) : OpR X (binaryOp op) (rBin C sp E) := by
  intro pins s σ H x y v u Q I rx ry h
  obtain ⟨a, dx, vs, b, dy, ws, rfl, rfl, ha, hb, q⟩ := h
  cases (show v = Value.ref a from rx)
  cases (show u = Value.ref b from ry)
  obtain ⟨sl, od, _, J, _⟩ := SlX.slt_inst I ha
  obtain ⟨sl', od', _, J', _⟩ := SlX.slt_inst I hb
  obtain ⟨m, hF⟩ := I.fr
  refine PySem.W.binop_K hF I.ok.mod.kin J J'.type hc hs hf ?_
  refine wpAny_mono (wpAny_call (run_fnR (us := [.ref a, .ref b]) (vs := [.ref a, .ref b]) F hr hx I (.cons rfl (.cons rfl .nil)) q)) (fun w s' z => ?_) fun _ _ x => x
  obtain ⟨z', H', I', rz, qz⟩ := z
  exact SlX.cmpback rz ⟨z', H', I', rz, qz⟩
structure BinI (K : PySem.W.Frag) (C g : Addr) (nm : String) (fo ro rc : Option Value) : Prop where
  hc : PySem.W.selfFirst K C = true
  hs : PySem.W.findIn K (.ref C) (PySem.dunder nm) = some (some (.ref g))
  hf : PySem.W.isFn K (.ref g) = true
  hr : PySem.W.findIn K (.ref C) (dunderR nm) = some rc
  hp : rc = none ∨ ∃ g' : Addr, rc = some (.ref g')
  h1 : PySem.W.findIn K (.type "int") (PySem.dunder nm) = some fo
  h2 : PySem.W.findIn K (.type "int") (dunderR nm) = some ro
  hsub : PySem.W.subIn K (.type "int") (.ref C) = some false
def rBinI (C : Addr) (sp : Sp) (E : XK) : R2 := fun x y H Q => ∃ a dx vs i, x = .ref a ∧ y = .int i ∧ SlX.Slt H a C dx vs ∧ sp [x, y] H Q E
theorem op_binI {op : Operator} {fo ro rc : Option Value} (B : BinI X.K C g op.info.2 fo ro rc) (F : FnR X.prog X.w X.K X.mg X.base CX n g sp) (hr : Room n X.A) (hx : Passes CX X E) : OpR X (binaryOp op) (rBinI C sp E) := by
  intro pins s σ H x y v u Q I rx ry h
  obtain ⟨a, dx, vs, i, rfl, rfl, ha, q⟩ := h
  cases (show v = Value.ref a from rx)
  obtain ⟨t, rfl⟩ := (show ∃ t, u = Value.int i t from ry)
  obtain ⟨sl, od, _, J, _⟩ := SlX.slt_inst I ha
  obtain ⟨m, hF⟩ := I.fr
  refine PySem.W.ksp_binT (T := "int") hF I.ok.mod.kin J rfl B.hc B.hs B.hf B.hr B.hp B.h1 B.h2 B.hsub ?_
  refine wpAny_mono (wpAny_call (run_fnR (us := [.ref a, .int i t]) (vs := [.ref a, .int i]) F hr hx I (.cons rfl (.cons ⟨t, rfl⟩ .nil)) q)) (fun w s' z => ?_) fun _ _ x => x
  obtain ⟨z', H', I', rz, qz⟩ := z
  exact SlX.cmpback rz ⟨z', H', I', rz, qz⟩
end
structure SMet (K : PySem.W.Frag) (C : Addr) (mc : Value) (m : Str) (p g : Addr) : Prop where
  at_ : PySem.W.findCls K (.ref C) mc m = some (.get (.builtin "staticmethod.__get__") (.ref p) .none (.ref C))
  rc : ∃ rest, PySem.W.recIn K p "staticmethod" = some (.ref g :: rest)
  kp : PySem.W.keepIn K (.ref g) = true
def tStat (C : Addr) (sp : Sp) (E : XK) (ta : TE) : TE := fun σ H Q => ta σ H fun x H1 => x = .ref C ∧ sp [] H1 Q E
section
variable {X : Cx} {CX : CXT} {C p g : Addr} {k : Nat} {sp : Sp} {E : XK} {mc : Value} {m : Str} {o : Expr} {ta : TE} {pos apos : Pos} {pl : Sem Bool}
theorem pe_static0 (he : PE X o ta) (r : ClX.CRead X.K C mc) (c : SMet X.K C mc m p g) (F : FnR X.prog X.w X.K X.mg X.base CX k g sp) (hr : Room k X.A) (hx : Passes CX X E)
    (ht : eval (.Call (.Attribute o m apos) [] [] pos) X.env = (do
      let ov ← eval o X.env
      standAt apos.atName
      let (f, first) ← holding [ov] (getMethod ov m pl)
      callWith pos f first (backTo pos (starEach [] X.env)) (backToKw pos (keywordEach [] X.env))) := by rfl) :
    PE X (.Call (.Attribute o m apos) [] [] pos) (tStat C sp E ta) := by
  refine ⟨fun pins s σ H Q I h => ?_⟩
  refine PySem.W.methodCall_KW (pl := pl) (thn (he.run pins s σ H _ I h) fun u s1 ⟨x, H1, I1, rx, ex, q⟩ => ?_) ht
  subst ex
  obtain rfl : u = Value.ref C := rx
  obtain ⟨rest, hp⟩ := c.rc
  refine PySem.W.method_cls I1.kIn r.ga (PySem.W.cls_bind I1.kIn r.rd c.at_ (wpAny_call (PySem.W.sm_get (s := { s1 with toks := s1.toks + 1 }) I1.kIn hp (PySem.W.handed_on rfl ?_))))
  have I2 : Inv X pins σ H1 { s1 with toks := s1.toks + 1 } := I1.tok _
  exact PySem.W.callWith_K0 (first := []) I2.kIn c.kp (wpAny_call (run_fnR (us := []) (vs := []) F hr hx I2 .nil q))
def gSl (K : PySem.W.Frag) (ta : TE) (f : Str) : TG := fun v σ H Q => ta σ H fun x H1 => ∃ a C dx p vs i, x = .ref a ∧ SlX.Slt H1 a C dx vs ∧ SlX.SCls K C ∧ SlX.Slot1 K C f p i ∧ Q σ (SlX.slH H1 a C dx (SlX.putS i v vs))
theorem pg_sl {f : Str} {pos : Pos} (ho : PE X o ta) : PG X (.Attribute o f pos) (gSl X.K ta f) := by
  refine ⟨fun pins s σ H v u Q I r h => ?_⟩
  show wpAny _ _ (do
    let ov ← holding [u] (eval o X.env)
    standAt pos.atName
    holding [u, ov] (setAttr ov f u)
    release [u, ov] []) _ _ _
  refine wpAny_bind (wpAny_holding (thn (ho.run pins s σ H _ I h) fun ov s1 ⟨x, H1, I1, r1, a, C, dx, p, vs, i, ex, hs, c, t, q⟩ => ?_))
  subst ex
  obtain rfl : ov = Value.ref a := r1
  refine wpAny_bind (wpAny_standAt (wpAny_bind (wpAny_holding (SlX.setslot_ok I1 hs c t r fun s2 I2 => wpAny_release ⟨σ, _, I2, q⟩))))
end
end N1

end
section
set_option Elab.async false
set_option linter.all false
set_option maxRecDepth 100000
set_option maxHeartbeats 4000000
namespace N1
open PySem PySem.Spec PyProof.Rows L2 PySem.W in
section
variable {prog : Program} {w : World} {A : Around} {E : Value → Shared → Prop} {s : Shared} {K : Frag} {x C f f0 : Addr} {ox : Obj} {od : Option Obj}
open PySem PySem.Spec PyProof.Rows L2 PySem.W
theorem int_sub_inst {i : Int} {t : Tok} {Q : Option Value → Shared → Prop} (hx : s.heap.get? x = some ox) (hd : ∀ v, ox.data ≠ .prim v) (h : Q none s) :
    wpAny (model prog w) A (tryMethod (.int i t) (PySem.dunder "sub") (.ref x)) Q E s := by
  have h1 : s.TypeIs (.int i t) "int" := PySem.typeIs_int s i t
  have h2 := PyProof.Rows.slot_int_sub
  apply wpAny_tryMethod_declines h1 h2
  refine wpAny_call_entry (T := "int") (id := "int.__sub__") PyProof.Rows.slot_int_sub (PySem.typeIs_int s i t) PyProof.Rows.entry_int_sub ?_ (PyProof.Rows.args_int_sub _ _)
  unfold Builtin.«int.__sub__» Builtin.Int.intBinary
  have e1 : slotArgs "__sub__" 1 ⟨[.int i t, .ref x], []⟩ = pure (.int i t, [.ref x]) := rfl
  have e2 : Builtin.Int.intOfSelf (.int i t) = pure i := rfl
  rw [e1]
  refine wpAny_bind (wpAny_pure ?_)
  show wpAny _ _ (Builtin.Int.intOfSelf (.int i t) >>= _) _ _ _
  rw [e2]
  refine wpAny_bind (wpAny_pure ?_)
  refine wpAny_bind ?_
  show wpAny _ _ (asInt? (.ref x)) _ _ _
  unfold asInt?
  refine wpAny_bind (wpAny_load hx ?_)
  obtain ⟨oc, odd, oda, osl⟩ := ox
  dsimp only
  cases oda with
  | prim v => exact absurd rfl (hd v)
  | _ => exact wpAny_pure (wpAny_bind (wpAny_rule (wpAny_pure ⟨_, rfl, rfl, h⟩)))
theorem rsub_inst {i : Int} {t : Tok} {Q : Value → Shared → Prop} (X : K.In s.heap) (I : InstAt s.heap x ox C od) (hd : ∀ v, ox.data ≠ .prim v) (hc : selfFirst K C = true)
    (h0 : findIn K (.ref C) (PySem.dunder "sub") = some (some (.ref f0)))
    (hs : findIn K (.ref C) (dunderR "sub") = some (some (.ref f))) (hf : isFn K (.ref f) = true) (hsub : subIn K (.ref C) (.type "int") = some false)
    (h : wpAny (model prog w) A (call (.ref f) [.ref x, .int i t]) (PySem.W.CmpBack Q) E s) : wpAny (model prog w) A (binaryOp .Sub (.int i t) (.ref x)) Q E s := by
  obtain ⟨cd, rest, hcd, hm⟩ := ksp_first hc
  have hx := I.at_
  have two := ksp_try X I hs hf h
  obtain ⟨hh, g, d, tt, os⟩ := s
  have L1 : Looks (model prog w) hh (typeOf (.ref x)) (.ref C) := I.type
  have L3 : Looks (model prog w) hh (fillsNumberSlot (.ref C) "sub") true := fills_K X hcd hm h0
  have L5 : Looks (model prog w) hh (isSubtype (.ref C) (.type "int")) false := looks_subIn X hsub
  have hne : (Value.type "int" == Value.ref C) = false := Bool.eq_false_iff.mpr fun q => by cases beq_iff_eq.mp q
  show wpAny _ _ (binaryOp .Sub (.int i t) (.ref x)) _ _ _
  simp only [binaryOp, Operator.info]
  refine wpAny_holding (wpAny_bind ?_)
  unfold binaryOp1
  refine wpAny_bind (wpAny_typeOf (PySem.typeIs_int _ i t) (wpAny_bind (L1.at (wpAny_bind ?_))))
  refine wpAny_of_eq (a := true) PyProof.Rows.fills_int_sub ?_
  simp only [hne, Bool.false_eq_true, if_false]
  refine wpAny_bind (L3.at ?_)
  simp only [Bool.and_self, if_true]
  refine wpAny_bind (L5.at ?_)
  have hpy : numberSlotInPython (.type "int") "sub" = pure false := rfl
  simp only [Bool.false_eq_true, if_false, pure_bind, Bool.not_false, Bool.and_self, if_true, hpy]
  refine wpAny_bind (int_sub_inst hx hd ?_)
  refine wpAny_bind (wpAny_mono two (fun r s' hr' => ?_) fun _ _ e => e)
  obtain ⟨v, rfl, hq⟩ := hr'
  exact wpAny_bind (wpAny_rule (wpAny_pure (wpAny_pure hq)))
end
open PySem PySem.Spec PyProof.Rows L2
theorem ns_some_of {K : PySem.W.Frag} {h : Heap} {N : Addr} {mg : Str → Option Value} {n : Str} {v : Value} (X : K.In h) (G : h.Ns N mg) (e : PySem.W.nsIn K N n = some (some v)) : mg n = some v := by
  obtain ⟨o, es, ep, ho, hd, _, hf⟩ := G
  unfold PySem.W.nsIn at e
  split at e
  · rename_i c d es' n' sl q
    have := X _ _ q
    rw [ho] at this
    cases this
    cases hd
    split at e
    · rename_i en he
      cases e
      rw [← hf]
      unfold nsFind findBy
      rw [← Array.find?_toList, he]
      rfl
    · split at e <;> cases e
  · cases e
structure NeC (K : PySem.W.Frag) (C g : Addr) : Prop where
  cls : ∃ nm q N bs hdct sn sub ab col dd k0 k1 k2 k3 k5 newId, K.lookup C = some (excClassObj nm q C N bs [.type "object"] hdct sn sub ab col dd k0 k1 k2 k3 k5 newId) ∧ PySem.W.nsOkIn K N = true ∧ PySem.W.nsIn K N "__eq__" = some (some (.ref g)) ∧ PySem.W.nsIn K N "__ne__" = some none
  fn : ∃ o, K.lookup g = some o ∧ o.cls = .type "function"
section
variable {X : Cx} {CX : CXT} {C g : Addr} {n : Nat} {sp : Sp} {E : XK}
def rRsub (C : Addr) (sp : Sp) (E : XK) : R2 := fun x y H Q => ∃ i a dx vs, x = .int i ∧ y = .ref a ∧ SlX.Slt H a C dx vs ∧ sp [y, x] H Q E
theorem op_rsub {g0 : Addr} (hc : PySem.W.selfFirst X.K C = true) (h0 : PySem.W.findIn X.K (.ref C) (PySem.dunder "sub") = some (some (.ref g0))) (hs : PySem.W.findIn X.K (.ref C) (dunderR "sub") = some (some (.ref g))) (hf : PySem.W.isFn X.K (.ref g) = true)
    (hsub : PySem.W.subIn X.K (.ref C) (.type "int") = some false) (F : FnR X.prog X.w X.K X.mg X.base CX n g sp) (hr : Room n X.A) (hx : Passes CX X E) : OpR X (binaryOp .Sub) (rRsub C sp E) := by
  intro pins s σ H x y v u Q I rx ry h
  obtain ⟨i, a, dx, vs, rfl, rfl, ha, q⟩ := h
  obtain ⟨t, rfl⟩ := (show ∃ t, v = Value.int i t from rx)
  cases (show u = Value.ref a from ry)
  obtain ⟨sl, od, _, J, _⟩ := SlX.slt_inst I ha
  refine rsub_inst I.kIn J (fun v z => nomatch z) hc h0 hs hf hsub ?_
  refine wpAny_mono (wpAny_call (run_fnR (us := [.ref a, .int i t]) (vs := [.ref a, .int i]) F hr hx I (.cons rfl (.cons ⟨t, rfl⟩ .nil)) q)) (fun w s' z => ?_) fun _ _ x => x
  obtain ⟨z', H', I', rz, qz⟩ := z
  exact SlX.cmpback rz ⟨z', H', I', rz, qz⟩
def rNeOwn (C : Addr) (sp : Sp) (E : XK) : R2 := fun x y H Q => ∃ a dx vs b dy ws, x = .ref a ∧ y = .ref b ∧ SlX.Slt H a C dx vs ∧ SlX.Slt H b C dy ws ∧ sp [x, y] H (fun v H' => ∃ c, v = .bl c ∧ Q (.bl (!c)) H') E
theorem op_neOwn (T : NeC X.K C g) (F : FnR X.prog X.w X.K X.mg X.base CX n g sp) (hr : Room (n + 1) X.A) (hx : Passes CX X E) : OpR X (compareOp .NotEq) (rNeOwn C sp E) := by
  intro pins s σ H x y v u Q I rx ry h
  obtain ⟨a, dx, vs, b, dy, ws, rfl, rfl, ha, hb, q⟩ := h
  cases (show v = Value.ref a from rx)
  cases (show u = Value.ref b from ry)
  obtain ⟨sl, od, _, J, _⟩ := SlX.slt_inst I ha
  obtain ⟨sl', od', _, J', _⟩ := SlX.slt_inst I hb
  obtain ⟨nm, qn, N, bs, hdct, sn, sub, ab, col, dd, k0, k1, k2, k3, k5, newId, lC, hok, he, hn⟩ := T.cls
  obtain ⟨of, lg, tg⟩ := T.fn
  have KX := I.kIn
  have ns : s.heap.Ns N _ := .of_isNs (PySem.W.isNs_of_in KX hok)
  obtain ⟨hp, gs, dr, tk, os⟩ := s
  have OE : hp.OwnEqNoNe a C g "object" [.type "object"] := by
    refine ⟨_, of, nm, qn, N, bs, hdct, sn, sub, ab, col, dd, k0, k1, k2, k3, k5, newId, _, _, J.at_, rfl, KX _ _ lC, ns, ?_, KX _ _ lg, tg, PySem.F.cmp_object.mro, PySem.F.cmp_object.eq.lookup, PySem.W.nsMap_none_of_in KX hok hn⟩
    exact ns_some_of KX ns he
  refine compareOp_ne_ownEq (prog := X.prog) (w := X.w) PySem.F.cmp_object OE J'.at_ rfl (by have := hr.un; omega) ?_
  refine wpAny_mono (wpAny_call (SlX.run_at (us := [.ref a, .ref b]) (ws := [.ref a, .ref b]) F hr.in1 I.env0.in1 hx I (.cons rfl (.cons rfl .nil)) q)) (fun w s' z => ?_) fun _ _ x => x
  obtain ⟨z', H', I', rz, c, ec, qz⟩ := z
  subst ec
  cases (show w = Value.bool c from rz)
  exact ⟨c, rfl, .bl (!c), H', I', rfl, qz⟩
end
end N1

end
section
set_option Elab.async false
set_option linter.all false
set_option maxRecDepth 100000
set_option maxHeartbeats 4000000
namespace N1
open PySem PySem.Spec PyProof.Rows L2
section
variable {X : Cx} {CX : CXT} {k : Nat} {f : Addr} {sp : Sp} {E : XK} {x : Str} {p pos : Pos} {e : Expr} {es : List Expr} {t : TA}
def tCallR (sp : Sp) (E : XK) (t : TA) : TE := fun σ H Q => t σ H fun vs H1 => sp vs H1 Q E
theorem pe_callR (F : FnR X.prog X.w X.K X.mg X.base CX k f sp) (hr : Room k X.A) (hg : Gl X x) (hm : X.mg x = some (.ref f)) (hk : PySem.W.keepIn X.K (.ref f) = true) (hx : Passes CX X E)
    (ha : PA X (e :: es) t) (hdb : (x == ("__debug__" : Str)) = false := by decide) (he : starEach (e :: es) X.env = (false, eval e X.env) :: starEach es X.env := by rfl) (hpl : (backTo pos (starEach es X.env)).any (·.1) = false := by rfl) :
    PE X (.Call (.Name x p) (e :: es) [] pos) (tCallR sp E t) := by
  refine ⟨fun pins s σ H Q I h => ?_⟩
  refine wpAny_Call_Name_kw (ld_glob I hg hm ?_ hdb)
  refine PySem.W.callWith_K (h₀ := X.base) I.ok.mod.kin hk (thn (ha.run pos pins s σ H _ I h) fun us s1 ⟨vs, H1, I1, r, q⟩ => ⟨I1.kIn, ?_⟩) he hpl
  exact wpAny_call (run_fnR F hr hx I1 r q)
end
section
variable {P : Program} {w : World} {K : PySem.W.Frag} {mg : Str → Option Value} {base : Heap}
abbrev Def1 (K : PySem.W.Frag) (x qual : Str) (st : Stmt) (dvs : List V) (f : Addr) : Prop := ∃ fd, FunD K x qual (defArgs st) (defBody st) (defScope st) dvs [] f fd
theorem def_R {CX : CXT} {x qual : Str} {st : Stmt} {f : Addr} {N ps : List Str} {k : Nat} {sp : Sp} (D : Def1 K x qual st [] f) (S : FnScope N ps (defScope st))
    (hb : ∀ (kV doc pm : Value) (an : Option Addr) (cdv ct : Value) (us : List Value), us.length = ps.length → bindArgs (PySem.W.fnOf x qual (defArgs st) (defBody st) (defScope st) .none kV doc pm an cdv ct) ⟨us, []⟩ = pure (ps.zip us))
    (len : ∀ vs H Q E, sp vs H Q E → vs.length = ps.length)
    (hbody : ∀ (cdv : Value) (A : Around) (outer : List Env) (s : Shared) (H : Hp) (vs : List V) (Q : VK) (E : XK), Room k (A.deeper (envOfC qual (defScope st) s.heap.objs.size f cdv)) → sp vs H Q E →
      ∃ t, PSs (cxOf CX P w K mg base N qual (defScope st) f cdv A outer s H E) (defBody st) t ∧ t { nx := fun _ H' => Q .non H', rt := Q } (start N vs) H) : FnR P w K mg base CX (k + 1) f sp := by
  obtain ⟨fd, F⟩ := D
  have G := F.ok S len hbody
  exact (G.raw (F.bindsN hb) .nil).imp fun vs H Q E h => by rw [List.append_nil]; exact h
theorem def_R1 {CX : CXT} {x qual : Str} {st : Stmt} {f : Addr} {N ps : List Str} {k n : Nat} {sp : Sp} {d : V} (D : Def1 K x qual st [d] f) (S : FnScope N ps (defScope st)) (hn : n + 1 = ps.length)
    (hb : ∀ (T : Addr) (kV doc pm : Value) (an : Option Addr) (cdv ct : Value) (us its : List Value), us.length = n → its.length = 1 →
      ∃ k, bindArgs (PySem.W.fnOf x qual (defArgs st) (defBody st) (defScope st) (.ref T) kV doc pm an cdv ct) ⟨us, []⟩ = seqItems? (.ref T) >>= k ∧ k (some its.toArray) = pure (ps.zip (us ++ its)))
    (hb0 : ∀ (T : Addr) (kV doc pm : Value) (an : Option Addr) (cdv ct : Value) (us its : List Value), us.length = ps.length → its.length = 1 →
      ∃ k, bindArgs (PySem.W.fnOf x qual (defArgs st) (defBody st) (defScope st) (.ref T) kV doc pm an cdv ct) ⟨us, []⟩ = seqItems? (.ref T) >>= k ∧ k (some its.toArray) = pure (ps.zip us))
    (len : ∀ vs H Q E, sp vs H Q E → vs.length = ps.length)
    (hbody : ∀ (cdv : Value) (A : Around) (outer : List Env) (s : Shared) (H : Hp) (vs : List V) (Q : VK) (E : XK), Room k (A.deeper (envOfC qual (defScope st) s.heap.objs.size f cdv)) → sp vs H Q E →
      ∃ t, PSs (cxOf CX P w K mg base N qual (defScope st) f cdv A outer s H E) (defBody st) t ∧ t { nx := fun _ H' => Q .non H', rt := Q } (start N vs) H) :
    FnR P w K mg base CX (k + 1) f sp ∧ FnR P w K mg base CX (k + 1) f (fun vs H Q E => sp (vs ++ [d]) H Q E) := by
  obtain ⟨fd, F⟩ := D
  have G := F.ok S len hbody
  obtain ⟨ds, r1, b1⟩ := F.binds1 (ps := ps) n 0 (by simp) (by simpa using hn) (fun T kV doc pm an cdv ct us its h1 h2 => by
    obtain ⟨k, e1, e2⟩ := hb T kV doc pm an cdv ct us its h1 (by simpa using h2)
    exact ⟨k, e1, by simpa using e2⟩)
  obtain ⟨ds0, r0, b0⟩ := F.binds1 (ps := ps) ps.length 1 (by simp) (by simp) (fun T kV doc pm an cdv ct us its h1 h2 => by
    obtain ⟨k, e1, e2⟩ := hb0 T kV doc pm an cdv ct us its h1 (by simpa using h2)
    have e3 : its.drop 1 = [] := List.drop_eq_nil_of_le (by simp at h2; omega)
    exact ⟨k, e1, by rw [e2, e3, List.append_nil]⟩)
  refine ⟨?_, ?_⟩
  · have r0' : Vals [] ds0 := by simpa using r0
    exact (G.raw b0 r0').imp fun vs H Q E h => by rw [List.append_nil]; exact h
  · have r1' : Vals [d] ds := by simpa using r1
    exact G.raw b1 r1'
end
theorem ifT {c : Bool} {A B : Prop} (hc : c = true) (h : A) : if c = true then A else B := by
  rw [if_pos hc]
  exact h
theorem ifF {c : Bool} {A B : Prop} (hc : c = false) (h : B) : if c = true then A else B := by
  rw [hc, if_neg Bool.false_ne_true]
  exact h
theorem ifB {c : Bool} {A B : Prop} (h1 : c = true → A) (h2 : c = false → B) : if c = true then A else B := by
  cases c with
  | true => exact iteT (h1 rfl)
  | false => exact iteF (h2 rfl)
end N1

end
section
set_option Elab.async false
set_option linter.all false
set_option maxRecDepth 100000
set_option maxHeartbeats 4000000
namespace PM
open PySem PySem.Spec PyProof.Rows L2
open Evl (Ex)
inductive D where
  | non
  | bl (b : Bool)
  | int (i : Int)
  | str (x : Str)
  | tup (xs : List D)
  | lst (xs : List D)
  | obj (C : Str) (fs : List D)
  | byt (b : Array UInt8)
  | dct (ks : List D) (vs : List D)
inductive W where
  | d (d : D)
  | ref (a : Nat)
  | exn (c : Str) (fs : List (Str × D))
inductive AO where
  | dead
  | lst (ws : List W)
  | rol (ws : List W)
  | inst (C : Str) (fs : List (Option W))
  | dct (ks : List D) (ws : List W)
def kD : Key → D
  | .inl i => .int i
  | .inr x => .str x
mutual
def nkey : D → Option NestedKey
  | .non => some .none
  | .bl b => some (.num (if b = true then 1 else 0))
  | .int i => some (.num i)
  | .str x => some (.text x)
  | .tup ds => (nkeys ds).map .tup
  | _ => none
def nkeys : List D → Option (List NestedKey)
  | [] => some []
  | d :: ds => match nkey d, nkeys ds with | some k, some ks => some (k :: ks) | _, _ => none
end
def tkey : D → Option NestedKey
  | .tup ds => match nkeys ds with | some ks => if (NestedKey.tup ks).depth ≤ 8 then some (.tup ks) else none | none => none
  | _ => none
def tkeys : List D → Option (List NestedKey)
  | [] => some []
  | d :: ds => match tkey d, tkeys ds with | some k, some ks => some (k :: ks) | _, _ => none
abbrev NE := NestedKey × Addr × Value
def DNo (w : World) (a : Addr) (xs : List NE) : HO := .ext fun h => xs.length ≤ sizeLine ∧ (a == sysModules) = false ∧ (xs.map (·.1)).Nodup ∧ ∃ o es ep, h.get? a = some o ∧ o.ExactDict ∧ o.data = .dict es ep ∧ es.toList = xs.map fun x => ⟨x.1.hash w, .ref x.2.1, x.2.2⟩
structure MgW where
  f : Str → Option Value
  w : World
instance : CoeFun MgW (fun _ => Str → Option Value) := ⟨MgW.f⟩
section
variable (K : PySem.W.Frag) (mg : MgW) (G : Hp)
mutual
inductive Rep : D → V → Prop
  | non : Rep .non .non
  | bl (b : Bool) : Rep (.bl b) (.bl b)
  | int (i : Int) : Rep (.int i) (.int i)
  | str (x : Str) : Rep (.str x) (.str x)
  | byt (b : Array UInt8) : Rep (.byt b) (.byt b)
  | tup {a : Addr} {xs : List V} {ds : List D} : SqT K G a xs → RepL ds xs → Rep (.tup ds) (.ref a)
  | lst {a : Addr} {xs : List V} {ds : List D} : G a = some (.lst xs) → RepL ds xs → Rep (.lst ds) (.ref a)
  | obj {a C dx : Addr} {c : Str} {xs : List V} {ds : List D} : mg c = some (.ref C) → SlX.Slt G a C dx (xs.map some) → RepL ds xs → Rep (.obj c ds) (.ref a)
  | dK {a : Addr} {kk : List Key} {vs : List V} {ds : List D} : G a = some (.dK (kk.zip vs)) → kk.length = vs.length → RepL ds vs → Rep (.dct (kk.map kD) ds) (.ref a)
  | dN {a : Addr} {xs : List NE} {vs : List V} {ks ds : List D} : G a = some (DNo mg.w a xs) → RepL ks (xs.map fun x => .ref x.2.1) → tkeys ks = some (xs.map (·.1)) → Vals vs (xs.map (·.2.2)) → RepL ds vs → Rep (.dct ks ds) (.ref a)
inductive RepL : List D → List V → Prop
  | nil : RepL [] []
  | cons {d : D} {ds : List D} {v : V} {vs : List V} : Rep d v → RepL ds vs → RepL (d :: ds) (v :: vs)
end
end
section
variable {K : PySem.W.Frag} {mg : MgW} {G G' H H' : Hp}
theorem slt_mono {a C dx : Addr} {vs : List (Option V)} (e : Ex G G') (h : SlX.Slt G a C dx vs) : SlX.Slt G' a C dx vs := by
  rcases h with ⟨h, z⟩ | ⟨h, z⟩
  · exact .inl ⟨e _ _ h, z⟩
  · exact .inr ⟨e _ _ h, e _ _ z⟩
mutual
theorem Rep.mono (e : Ex G G') : ∀ {d : D} {v : V}, Rep K mg G d v → Rep K mg G' d v
  | _, _, .non => .non
  | _, _, .bl b => .bl b
  | _, _, .int i => .int i
  | _, _, .str x => .str x
  | _, _, .byt x => .byt x
  | _, _, .tup s r => .tup (Evl.ex_t e s) (RepL.mono e r)
  | _, _, .lst s r => .lst (e _ _ s) (RepL.mono e r)
  | _, _, .obj m s r => .obj m (slt_mono e s) (RepL.mono e r)
  | _, _, .dK s l r => .dK (e _ _ s) l (RepL.mono e r)
  | _, _, .dN s k t v r => .dN (e _ _ s) (RepL.mono e k) t v (RepL.mono e r)
theorem RepL.mono (e : Ex G G') : ∀ {ds : List D} {vs : List V}, RepL K mg G ds vs → RepL K mg G' ds vs
  | _, _, .nil => .nil
  | _, _, .cons a b => .cons (Rep.mono e a) (RepL.mono e b)
end
theorem RepL.length : ∀ {ds : List D} {vs : List V}, RepL K mg G ds vs → ds.length = vs.length
  | _, _, .nil => rfl
  | _, _, .cons _ b => by rw [List.length_cons, List.length_cons, RepL.length b]
theorem RepL.get : ∀ {ds : List D} {vs : List V} {i : Nat} {d : D}, RepL K mg G ds vs → ds[i]? = some d → ∃ v, vs[i]? = some v ∧ Rep K mg G d v
  | _, _, _, _, .nil, h => by simp at h
  | _, _, 0, _, .cons a _, h => by simp at h; subst h; exact ⟨_, rfl, a⟩
  | _, _, i + 1, _, .cons _ b, h => by
    obtain ⟨v, h1, h2⟩ := RepL.get (i := i) b (by simpa using h)
    exact ⟨v, by simpa using h1, h2⟩
theorem RepL.append : ∀ {ds es : List D} {vs us : List V}, RepL K mg G ds vs → RepL K mg G es us → RepL K mg G (ds ++ es) (vs ++ us)
  | _, _, _, _, .nil, s => s
  | _, _, _, _, .cons a b, s => .cons a (RepL.append b s)
theorem RepL.take : ∀ {ds : List D} {vs : List V} (n : Nat), RepL K mg G ds vs → RepL K mg G (ds.take n) (vs.take n)
  | _, _, 0, _ => .nil
  | _, _, _ + 1, .nil => .nil
  | _, _, n + 1, .cons r t => .cons r (RepL.take n t)
theorem RepL.drop : ∀ {ds : List D} {vs : List V} (n : Nat), RepL K mg G ds vs → RepL K mg G (ds.drop n) (vs.drop n)
  | _, _, 0, r => r
  | _, _, _ + 1, .nil => .nil
  | _, _, n + 1, .cons _ t => RepL.drop n t
end
abbrev Mu := List (Addr × Addr)
structure MgX where
  f : MgW
  x : Option (Addr × Value × Option Addr)
instance : CoeFun MgX (fun _ => Str → Option Value) := ⟨fun m => m.f.f⟩
abbrev MgX.of (mg : MgW) : MgX := ⟨mg, none⟩
def IsExc (K : PySem.W.Frag) (mg : MgW) (G : Hp) (c : Str) (fs : List (Str × D)) (cls : Value) (d : Option Addr) : Prop :=
  ∃ C, mg c = some (.ref C) ∧ cls = .ref C ∧ ((fs = [] ∧ d = none) ∨ fs ≠ [] ∧ ∃ dd vs, d = some dd ∧ G dd = some (.xd ((fs.map (·.1)).zip vs)) ∧ RepL K mg G (fs.map (·.2)) vs)
theorem IsExc.mono {K : PySem.W.Frag} {mg : MgW} {G G' : Hp} (e : Ex G G') {c : Str} {fs : List (Str × D)} {cls : Value} {d : Option Addr} (x : IsExc K mg G c fs cls d) : IsExc K mg G' c fs cls d := by
  obtain ⟨C, a, b, z | ⟨nn, dd, vs, z1, z2, z3⟩⟩ := x
  · exact ⟨C, a, b, .inl z⟩
  · exact ⟨C, a, b, .inr ⟨nn, dd, vs, z1, e _ _ z2, z3.mono e⟩⟩
def Own (μ : Mu) (p : Addr) : Prop := ∃ q ∈ μ, p = q.1 ∨ p = q.2
section
variable (K : PySem.W.Frag) (mg : MgX) (G : Hp) (μ : Mu)
def RepW : W → V → Prop
  | .d d, v => Rep K mg.f G d v
  | .ref a, v => ∃ q, μ[a]? = some q ∧ v = .ref q.1
  | .exn c fs, v => ∃ a cls d, mg.x = some (a, cls, d) ∧ v = .ref a ∧ IsExc K mg.f G c fs cls d
inductive RepWs : List W → List V → Prop
  | nil : RepWs [] []
  | cons {w : W} {ws : List W} {v : V} {vs : List V} : RepW K mg G μ w v → RepWs ws vs → RepWs (w :: ws) (v :: vs)
def RepO (fs : List (Option W)) (vs : List (Option V)) : Prop := ∀ (i : Nat) (w : W), fs[i]? = some (some w) → ∃ v, vs[i]? = some (some v) ∧ RepW K mg G μ w v
def DctAt (H : Hp) (a : Addr) (ks : List D) (vs : List V) : Prop := (∃ kk : List Key, ks = kk.map kD ∧ kk.length = vs.length ∧ H a = some (.dK (kk.zip vs))) ∨
  ∃ xs : List NE, H a = some (DNo mg.f.w a xs) ∧ RepL K mg.f G ks (xs.map fun x => .ref x.2.1) ∧ tkeys ks = some (xs.map (·.1)) ∧ Vals vs (xs.map (·.2.2))
def AOk (H : Hp) (q : Addr × Addr) : AO → Prop
  | .dct ks ws => ∃ vs, DctAt K mg G H q.1 ks vs ∧ RepWs K mg G μ ws vs
  | .dead => True
  | .lst ws => ∃ vs, H q.1 = some (.lst vs) ∧ RepWs K mg G μ ws vs
  | .rol ws => ∃ vs, SqL K H q.1 vs ∧ RepWs K mg G μ ws vs
  | .inst c fs => ∃ C vs, mg c = some (.ref C) ∧ SlX.Slt H q.1 C q.2 vs ∧ vs.length = fs.length ∧ q.2 ≠ q.1 ∧ RepO K mg G μ fs vs
end
abbrev AHp := List AO
structure RelH (K : PySem.W.Frag) (mg : MgX) (G : Hp) (μ : Mu) (h : AHp) (H : Hp) : Prop where
  ex : Ex G H
  len : μ.length = h.length
  sep : ∀ (i j : Nat) (q r : Addr × Addr), μ[i]? = some q → μ[j]? = some r → i ≠ j → q.1 ≠ r.1 ∧ q.1 ≠ r.2 ∧ q.2 ≠ r.1 ∧ q.2 ≠ r.2
  free : ∀ (i : Nat) (o : AO) (q : Addr × Addr), μ[i]? = some q → h[i]? = some o → o ≠ .dead → G q.1 = none ∧ G q.2 = none
  there : ∀ q ∈ μ, (∃ o, H q.1 = some o) ∧ ∃ o, H q.2 = some o
  ok : ∀ (i : Nat) (o : AO) (q : Addr × Addr), μ[i]? = some q → h[i]? = some o → AOk K mg G μ H q o
structure Step (G : Hp) (μ : Mu) (H G' : Hp) (μ' : Mu) (H' : Hp) : Prop where
  g : Ex G G'
  m : ∃ more, μ' = μ ++ more ∧ ∀ q ∈ more, H q.1 = none ∧ H q.2 = none
  fr : ∀ p o, H p = some o → ¬ Own μ p → H' p = some o
  st : ∀ p o, H p = some o → ∃ o', H' p = some o'
  gn : ∀ p o, H p = some o → ¬ Own μ p → G p = none → G' p = none
section
variable {K : PySem.W.Frag} {mg : MgX} {G G' G1 G2 H H' H1 H2 : Hp} {μ μ' μ1 μ2 : Mu} {h h' : AHp}
theorem Step.refl : Step G μ H G μ H := ⟨Ex.refl G, ⟨[], by simp, by simp⟩, fun _ _ h _ => h, fun _ o h => ⟨o, h⟩, fun _ _ _ _ h => h⟩
theorem back_none (st : ∀ p o, H p = some o → ∃ o', H' p = some o') {p : Addr} (h : H' p = none) : H p = none := by
  cases e : H p with
  | none => rfl
  | some o =>
    obtain ⟨o', z⟩ := st p o e
    rw [h] at z
    cases z
theorem Step.trans (a : Step G μ H G1 μ1 H1) (b : Step G1 μ1 H1 G2 μ2 H2) : Step G μ H G2 μ2 H2 := by
  obtain ⟨m1, e1, n1⟩ := a.m
  obtain ⟨m2, e2, n2⟩ := b.m
  have key : ∀ p o, H p = some o → ¬ Own μ p → ¬ Own μ1 p := fun p o hp hn ⟨q, hq, hz⟩ => by
    rw [e1] at hq
    rcases List.mem_append.mp hq with z | z
    · exact hn ⟨q, z, hz⟩
    · obtain ⟨y1, y2⟩ := n1 q z
      rcases hz with rfl | rfl
      · rw [hp] at y1; cases y1
      · rw [hp] at y2; cases y2
  refine ⟨a.g.trans b.g, ⟨m1 ++ m2, by rw [e2, e1, List.append_assoc], fun q hq => ?_⟩, fun p o hp hn => b.fr p o (a.fr p o hp hn) (key p o hp hn), fun p o hp => ?_, fun p o hp hn hg => b.gn p o (a.fr p o hp hn) (key p o hp hn) (a.gn p o hp hn hg)⟩
  · rcases List.mem_append.mp hq with z | z
    · exact n1 q z
    · obtain ⟨y1, y2⟩ := n2 q z
      exact ⟨back_none a.st y1, back_none a.st y2⟩
  · obtain ⟨o', z⟩ := a.st p o hp
    exact b.st p o' z
theorem RepW.mono (s : Step G μ H G' μ' H') {w : W} {v : V} (r : RepW K mg G μ w v) : RepW K mg G' μ' w v := by
  cases w with
  | d d => exact Rep.mono s.g r
  | ref a =>
    obtain ⟨q, e, z⟩ := r
    obtain ⟨more, e1, _⟩ := s.m
    exact ⟨q, by rw [e1, List.getElem?_append_left (List.getElem?_eq_some_iff.mp e).1]; exact e, z⟩
  | exn c fs =>
    obtain ⟨a, cls, d, e1, e2, e3⟩ := r
    exact ⟨a, cls, d, e1, e2, e3.mono s.g⟩
theorem RepWs.mono (s : Step G μ H G' μ' H') : ∀ {ws : List W} {vs : List V}, RepWs K mg G μ ws vs → RepWs K mg G' μ' ws vs
  | _, _, .nil => .nil
  | _, _, .cons a b => .cons (a.mono s) (RepWs.mono s b)
theorem RepWs.length : ∀ {ws : List W} {vs : List V}, RepWs K mg G μ ws vs → ws.length = vs.length
  | _, _, .nil => rfl
  | _, _, .cons _ b => by rw [List.length_cons, List.length_cons, RepWs.length b]
theorem RepWs.get : ∀ {ws : List W} {vs : List V} {i : Nat} {w : W}, RepWs K mg G μ ws vs → ws[i]? = some w → ∃ v, vs[i]? = some v ∧ RepW K mg G μ w v
  | _, _, _, _, .nil, h => by simp at h
  | _, _, 0, _, .cons a _, h => by simp at h; subst h; exact ⟨_, rfl, a⟩
  | _, _, i + 1, _, .cons _ b, h => by
    obtain ⟨v, h1, h2⟩ := RepWs.get (i := i) b (by simpa using h)
    exact ⟨v, by simpa using h1, h2⟩
end
inductive R (α : Type) where
  | ok (a : α)
  | exc (c : Str) (fs : List (Str × D))
abbrev M (α : Type) := AHp → Option (R α × AHp)
def mPure {α : Type} (a : α) : M α := fun h => some (.ok a, h)
def mBind {α β : Type} (m : M α) (f : α → M β) : M β := fun h => match m h with
  | none => none
  | some (.exc c fs, h1) => some (.exc c fs, h1)
  | some (.ok a, h1) => f a h1
def mFail {α : Type} : M α := fun _ => none
def mOf {α : Type} (x : Option α) : M α := fun h => match x with | some a => some (.ok a, h) | none => none
abbrev Sl := List (Option W)
abbrev ME := Sl → M W
section
variable (K : PySem.W.Frag) (mg : MgX)
def RelS (G : Hp) (μ : Mu) (σA : Sl) (σ : L2.St) : Prop := σA.length = σ.length ∧ ∀ (i : Nat) (w : W), σA[i]? = some (some w) → ∃ v, σ[i]? = some (some v) ∧ RepW K mg G μ w v
def Ret {α : Type} (G : Hp) (μ : Mu) (H : Hp) (x : Option (R α × AHp)) (Q : α → Hp → Mu → AHp → Hp → Prop) (EX : XK) : Prop :=
  ∃ r h', x = some (r, h') ∧ match r with
    | .ok a => ∀ G' μ' H', Step G μ H G' μ' H' → RelH K mg G' μ' h' H' → Q a G' μ' h' H'
    | .exc c fs => ∀ G' μ' H' cls d, Step G μ H G' μ' H' → RelH K mg G' μ' h' H' → IsExc K mg.f G' c fs cls d → EX cls d H'
end
section
variable {K : PySem.W.Frag} {mg : MgX} {G G' H H' : Hp} {μ μ' : Mu} {h : AHp} {α β : Type} {EX : XK}
theorem Ret.bind {m : M α} {f : α → M β} {Q : β → Hp → Mu → AHp → Hp → Prop} (r : Ret K mg G μ H (mBind m f h) Q EX) :
    Ret K mg G μ H (m h) (fun a G1 μ1 h1 H1 => Ret K mg G1 μ1 H1 (f a h1) Q EX) EX := by
  obtain ⟨r, h', e, k⟩ := r
  unfold mBind at e
  split at e
  · cases e
  · rename_i c fs h1 e1
    cases e
    exact ⟨_, _, e1, k⟩
  · rename_i a h1 e1
    refine ⟨_, _, e1, fun G1 μ1 H1 s1 rh => ⟨r, h', e, ?_⟩⟩
    cases r with
    | ok b => exact fun G' μ' H' s' rh' => k G' μ' H' (s1.trans s') rh'
    | exc c fs => exact fun G' μ' H' cls d s' rh' ix => k G' μ' H' cls d (s1.trans s') rh' ix
theorem Ret.imp {x : Option (R α × AHp)} {Q Q' : α → Hp → Mu → AHp → Hp → Prop} (r : Ret K mg G μ H x Q EX) (i : ∀ a G' μ' h' H', Step G μ H G' μ' H' → RelH K mg G' μ' h' H' → Q a G' μ' h' H' → Q' a G' μ' h' H') : Ret K mg G μ H x Q' EX := by
  obtain ⟨r, h', e, k⟩ := r
  refine ⟨r, h', e, ?_⟩
  cases r with
  | ok a => exact fun G' μ' H' s rh => i _ _ _ _ _ s rh (k G' μ' H' s rh)
  | exc c fs => exact k
theorem Ret.pure {a : α} {Q : α → Hp → Mu → AHp → Hp → Prop} (r : Ret K mg G μ H (mPure a h) Q EX) (rh : RelH K mg G μ h H) : Q a G μ h H := by
  obtain ⟨r, h', e, k⟩ := r
  cases e
  exact k G μ H Step.refl rh
theorem Ret.of {x : Option α} {Q : α → Hp → Mu → AHp → Hp → Prop} (r : Ret K mg G μ H (mOf x h) Q EX) (rh : RelH K mg G μ h H) : ∃ a, x = some a ∧ Q a G μ h H := by
  cases x with
  | none =>
    obtain ⟨r, h', e, k⟩ := r
    cases e
  | some a => exact ⟨a, rfl, Ret.pure r rh⟩
theorem RelS.mono (s : Step G μ H G' μ' H') {σA : Sl} {σ : L2.St} (r : RelS K mg G μ σA σ) : RelS K mg G' μ' σA σ := ⟨r.1, fun i w e => by
  obtain ⟨v, e1, e2⟩ := r.2 i w e
  exact ⟨v, e1, e2.mono s⟩⟩
end
def tE (K : PySem.W.Frag) (mg : MgX) (Wx : WX) (m : ME) : TE := fun σ H Q => ∃ G μ σA h, RelS K mg G μ σA σ ∧ RelH K mg G μ h H ∧
  Ret K mg G μ H (m σA h) (fun w G' μ' _ H' => ∀ v, RepW K mg G' μ' w v → Q v H') (fun cls d H' => Wx cls d σ H')
theorem pe_imp {X : Cx} {e : Expr} {t u : TE} (p : PE X e t) (i : ∀ σ H Q, u σ H Q → t σ H Q) : PE X e u := ⟨fun pins s σ H Q I q => p.run pins s σ H Q I (i σ H Q q)⟩
@[reducible] def _root_.L2.Cx.mgw (X : Cx) : MgW := ⟨X.mg, X.w⟩
@[reducible] def _root_.L2.Cx.mgx (X : Cx) : MgX := ⟨X.mgw, if X.calm then none else X.pn.head?.map fun p => (p.1, p.2.cls, p.2.dict)⟩
abbrev PM (Wx : WX) (X : Cx) (e : Expr) (m : ME) : Prop := PE X e (tE X.K X.mgx Wx m)
section
variable {X : Cx} {Wx : WX}
def mVar (i : Nat) : ME := fun σ => mOf (match σ[i]? with | some (some w) => some w | _ => none)
theorem pm_var {i : Nat} {e : Expr} (h : PE X e (tVar i)) : PM Wx X e (mVar i) := pe_imp h fun σ H Q ⟨G, μ, σA, hA, rs, rh, q⟩ => by
  unfold mVar at q
  obtain ⟨w, e1, k⟩ := q.of rh
  split at e1
  · rename_i w' e2
    cases e1
    obtain ⟨v, e3, r⟩ := rs.2 _ _ e2
    exact ⟨v, e3, k v r⟩
  · cases e1
def mC (d : D) : ME := fun _ => mPure (.d d)
theorem pm_c {e : Expr} {v : V} {d : D} (h : PE X e (tC v)) (r : ∀ G, Rep X.K X.mgw G d v) : PM Wx X e (mC d) := pe_imp h fun σ H Q ⟨G, μ, σA, hA, rs, rh, q⟩ => Ret.pure q rh v (r G)
theorem pm_int {i : Int} {j : Nat} {pos : Pos} : PM Wx X (.Constant (.int i) j pos) (mC (.int i)) := pm_c pe_int fun _ => .int i
end
end PM

end
section
set_option Elab.async false
set_option linter.all false
set_option maxRecDepth 100000
set_option maxHeartbeats 4000000
namespace PM
open PySem PySem.Spec PyProof.Rows L2
open Evl (Ex)
section
variable {K : PySem.W.Frag} {mg : MgX} {G G' H H' : Hp} {μ μ' : Mu} {h h' : AHp}
theorem DctAt.mono (g : Ex G G') (e : Ex H H') {a : Addr} {ks : List D} {vs : List V} (h : DctAt K mg G H a ks vs) : DctAt K mg G' H' a ks vs := by
  rcases h with ⟨kk, a1, a2, a3⟩ | ⟨xs, a1, a2, a3, a4⟩
  · exact .inl ⟨kk, a1, a2, e _ _ a3⟩
  · exact .inr ⟨xs, e _ _ a1, a2.mono g, a3, a4⟩
theorem AOk.mono (s : Step G μ H G' μ' H') (e : Ex H H') {q : Addr × Addr} : ∀ {o : AO}, AOk K mg G μ H q o → AOk K mg G' μ' H' q o
  | .dead, _ => trivial
  | .dct ks ws, ⟨vs, a, b⟩ => ⟨vs, a.mono s.g e, b.mono s⟩
  | .lst ws, ⟨vs, a, b⟩ => ⟨vs, e _ _ a, b.mono s⟩
  | .rol ws, ⟨vs, a, b⟩ => ⟨vs, Evl.ex_l e a, b.mono s⟩
  | .inst c fs, ⟨C, vs, a, b, l, n, r⟩ => ⟨C, vs, a, slt_mono e b, l, n, fun i w q => by
      obtain ⟨v, z1, z2⟩ := r i w q
      exact ⟨v, z1, z2.mono s⟩⟩
theorem RelH.grow (rh : RelH K mg G μ h H) (eg : Ex G G') (e : Ex H H') (e2 : Ex G' H') (n : ∀ p, (∃ o, H p = some o) → G p = none → G' p = none) : RelH K mg G' μ h H' ∧ Step G μ H G' μ H' := by
  have s : Step G μ H G' μ H' := ⟨eg, ⟨[], by simp, by simp⟩, fun p o hp _ => e p o hp, fun p o hp => ⟨o, e p o hp⟩, fun p o hp _ hg => n p ⟨o, hp⟩ hg⟩
  refine ⟨⟨e2, rh.len, rh.sep, fun i o q a b c => ?_, fun q hq => ?_, fun i o q a b => (rh.ok i o q a b).mono s e⟩, s⟩
  · obtain ⟨y1, y2⟩ := rh.free i o q a b c
    obtain ⟨z1, z2⟩ := rh.there q (List.mem_of_getElem? a)
    exact ⟨n _ z1 y1, n _ z2 y2⟩
  · obtain ⟨⟨o1, z1⟩, o2, z2⟩ := rh.there q hq
    exact ⟨⟨o1, e _ _ z1⟩, o2, e _ _ z2⟩
theorem RelH.new (rh : RelH K mg G μ h H) {p : Addr} (hp : H p = none) (o : HO) : RelH K mg (upd G p o) μ h (upd H p o) ∧ Step G μ H (upd G p o) μ (upd H p o) := by
  have hg : G p = none := Evl.fresh_back rh.ex hp
  refine rh.grow (Ex.new hg) (Ex.new hp) (fun a u q => ?_) (fun a ⟨u, q⟩ z => ?_)
  · by_cases e : a = p
    · subst e; rw [upd_same] at q; rw [upd_same]; exact q
    · rw [upd_ne e] at q; rw [upd_ne e]; exact rh.ex a u q
  · by_cases e : a = p
    · subst e; rw [hp] at q; cases q
    · rw [upd_ne e]; exact z
theorem RelH.newRef (rh : RelH K mg G μ h H) {p : Addr} (hp : H p = none) {vs : List V} {ws : List W} (r : RepWs K mg G μ ws vs) :
    RelH K mg G (μ ++ [(p, p)]) (h ++ [.lst ws]) (upd H p (.lst vs)) ∧ Step G μ H G (μ ++ [(p, p)]) (upd H p (.lst vs)) := by
  have hg : G p = none := Evl.fresh_back rh.ex hp
  have e : Ex H (upd H p (.lst vs)) := Ex.new hp
  have s : Step G μ H G (μ ++ [(p, p)]) (upd H p (.lst vs)) := ⟨Ex.refl G, ⟨[(p, p)], rfl, fun q hq => by simp at hq; subst hq; exact ⟨hp, hp⟩⟩, fun a o ha _ => e a o ha, fun a o ha => ⟨o, e a o ha⟩, fun _ _ _ _ hg => hg⟩
  have split : ∀ (i : Nat) (q : Addr × Addr), (μ ++ [(p, p)])[i]? = some q → μ[i]? = some q ∨ (i = μ.length ∧ q = (p, p)) := fun i q a => by
    rcases Nat.lt_trichotomy i μ.length with z | z | z
    · rw [List.getElem?_append_left z] at a; exact .inl a
    · subst z; rw [List.getElem?_append_right (Nat.le_refl _)] at a; simp at a; exact .inr ⟨rfl, a.symm⟩
    · rw [List.getElem?_append_right (by omega), List.getElem?_eq_none (by simp; omega)] at a; cases a
  have old : ∀ (i : Nat) (q : Addr × Addr), μ[i]? = some q → q.1 ≠ p ∧ q.2 ≠ p := fun i q a => by
    obtain ⟨⟨o1, z1⟩, o2, z2⟩ := rh.there q (List.mem_of_getElem? a)
    exact ⟨fun z => (by rw [z, hp] at z1; cases z1), fun z => (by rw [z, hp] at z2; cases z2)⟩
  have hA : ∀ (i : Nat) (o : AO) (q : Addr × Addr), μ[i]? = some q → (h ++ [AO.lst ws])[i]? = some o → h[i]? = some o := fun i o q a b => by
    have := (List.getElem?_eq_some_iff.mp a).1
    rw [rh.len] at this
    rw [List.getElem?_append_left this] at b
    exact b
  refine ⟨⟨fun a o ha => e a o (rh.ex a o ha), by simp [rh.len], fun i j q r a b n => ?_, fun i o q a b c => ?_, fun q hq => ?_, fun i o q a b => ?_⟩, s⟩
  · rcases split i q a with a1 | ⟨a1, rfl⟩
    · rcases split j r b with b1 | ⟨b1, rfl⟩
      · exact rh.sep i j q r a1 b1 n
      · obtain ⟨z1, z2⟩ := old i q a1
        exact ⟨z1, z1, z2, z2⟩
    · rcases split j r b with b1 | ⟨b1, rfl⟩
      · obtain ⟨z1, z2⟩ := old j r b1
        exact ⟨fun z => z1 z.symm, fun z => z2 z.symm, fun z => z1 z.symm, fun z => z2 z.symm⟩
      · exact absurd (a1.trans b1.symm) n
  · rcases split i q a with a1 | ⟨a1, rfl⟩
    · exact rh.free i o q a1 (hA i o q a1 b) c
    · exact ⟨hg, hg⟩
  · rcases List.mem_append.mp hq with z | z
    · obtain ⟨⟨o1, z1⟩, o2, z2⟩ := rh.there q z
      exact ⟨⟨o1, e _ _ z1⟩, o2, e _ _ z2⟩
    · simp at z; subst z; exact ⟨⟨_, upd_same⟩, _, upd_same⟩
  · rcases split i q a with a1 | ⟨a1, rfl⟩
    · exact (rh.ok i o q a1 (hA i o q a1 b)).mono s e
    · rw [a1, rh.len, List.getElem?_append_right (Nat.le_refl _)] at b
      simp at b
      subst b
      exact ⟨vs, upd_same, r.mono s⟩
end
def mBin (f : W → W → M W) (ma mb : ME) : ME := fun σ => mBind (ma σ) fun x => mBind (mb σ) fun y => f x y
def OpM (K : PySem.W.Frag) (mg : MgX) (r : R2) (f : W → W → M W) : Prop := ∀ (G : Hp) (μ : Mu) (h : AHp) (H : Hp) (x y : W) (v u : V) (Q : VK) (EX : XK), RelH K mg G μ h H → RepW K mg G μ x v → RepW K mg G μ y u →
  Ret K mg G μ H (f x y h) (fun w G' μ' _ H' => ∀ v, RepW K mg G' μ' w v → Q v H') EX → r v u H Q
section
variable {X : Cx} {Wx : WX} {a b : Expr} {ma mb : ME} {r : R2} {f : W → W → M W} {pos : Pos}
theorem t_bin {K : PySem.W.Frag} {mg : MgX} (o : OpM K mg r f) {σ : L2.St} {H : Hp} {Q : VK} (q : tE K mg Wx (mBin f ma mb) σ H Q) : tOp r (tE K mg Wx ma) (tE K mg Wx mb) σ H Q := by
  obtain ⟨G, μ, σA, h, rs, rh, k⟩ := q
  refine ⟨G, μ, σA, h, rs, rh, k.bind.imp fun x G1 μ1 h1 H1 s1 rh1 k1 v rv => ⟨G1, μ1, σA, h1, rs.mono s1, rh1, k1.bind.imp fun y G2 μ2 h2 H2 s2 rh2 k2 u ru => ?_⟩⟩
  exact o G2 μ2 h2 H2 x y v u Q _ rh2 (rv.mono s2) ru k2
theorem pm_op {op : Operator} (ho : OpR X (binaryOp op) r) (o : OpM X.K X.mgx r f) (ha : PM Wx X a ma) (hb : PM Wx X b mb) : PM Wx X (.BinOp a op b pos) (mBin f ma mb) := pe_imp (pe_op ho ha hb) fun _ _ _ => t_bin o
theorem pm_cmp {op : CmpOp} (ho : OpR X (compareOp op) r) (o : OpM X.K X.mgx r f) (ha : PM Wx X a ma) (hb : PM Wx X b mb) (hm : behindInMarks op b = false) : PM Wx X (.Compare a [op] [b] pos) (mBin f ma mb) := pe_imp (pe_cmpR ho ha hb hm) fun _ _ _ => t_bin o
theorem pm_ix (ho : IxR X r) (o : OpM X.K X.mgx r f) (ha : PM Wx X a ma) (hb : PM Wx X b mb) (hs : PlainIx b) : PM Wx X (.Subscript a b pos) (mBin f ma mb) := pe_imp (pe_ix ho ha hb hs) fun _ _ _ => t_bin o
theorem or_op {g : Value → Value → Sem Value} {r1 r2 : R2} (h1 : OpR X g r1) (h2 : OpR X g r2) : OpR X g (fun x y H Q => r1 x y H Q ∨ r2 x y H Q) := fun pins s σ H x y v u Q I rx ry h => h.elim (h1 pins s σ H x y v u Q I rx ry) (h2 pins s σ H x y v u Q I rx ry)
end
end PM

end
section
set_option Elab.async false
set_option linter.all false
set_option maxRecDepth 100000
set_option maxHeartbeats 4000000
namespace PM
open PySem PySem.Spec PyProof.Rows L2
open Evl (Ex)
mutual
def py : D → Option PyData
  | .non => some .none
  | .bl b => some (.bool b)
  | .int i => some (.int i)
  | .str x => some (.str x)
  | .tup xs => (pyL xs).map .tuple
  | .lst xs => (pyL xs).map .list
  | _ => none
def pyL : List D → Option (List PyData)
  | [] => some []
  | x :: xs => match py x, pyL xs with | some a, some b => some (a :: b) | _, _ => none
end
def unD : List W → Option (List D)
  | [] => some []
  | .d x :: r => (unD r).map (x :: ·)
  | _ :: _ => none
def lstOf (h : AHp) : W → Option (List W)
  | .d (.lst ds) => some (ds.map .d)
  | .ref a => match h[a]? with | some (.lst ws) => some ws | some (.rol ws) => some ws | _ => none
  | _ => none
def tupOf : W → Option (List D)
  | .d (.tup ds) => some ds
  | _ => none
def pyW (h : AHp) (w : W) : Option PyData := match w with
  | .d d => py d
  | .ref a => match h[a]? with | some (.lst ws) => (match unD ws with | some ds => (pyL ds).map .list | none => none) | _ => none
  | _ => none
section
variable {K : PySem.W.Frag} {mg : MgX} {G G' H H' : Hp} {μ μ' : Mu} {h h' : AHp}
mutual
theorem rep_dp : ∀ {d : D} {v : V} {z : PyData}, Rep K mg.f G d v → py d = some z → Dp K G v z
  | .non, _, _, .non, e => by cases e; exact .non
  | .bl b, _, _, .bl _, e => by cases e; exact .bl b
  | .int i, _, _, .int _, e => by cases e; exact .int i
  | .str x, _, _, .str _, e => by cases e; exact .str x
  | .tup ds, _, z, .tup s r, e => by
    unfold py at e
    cases q : pyL ds with
    | none => rw [q] at e; cases e
    | some zs => rw [q] at e; cases e; exact .tup s (repL_dp r q)
  | .lst ds, _, z, .lst s r, e => by
    unfold py at e
    cases q : pyL ds with
    | none => rw [q] at e; cases e
    | some zs => rw [q] at e; cases e; exact .lst (Evl.sq_of s) (repL_dp r q)
  | .obj c fs, _, _, .obj _ _ _, e => by cases e
  | .byt b, _, _, .byt _, e => by cases e
  | .dct ks vs, _, _, _, e => by cases e
theorem repL_dp : ∀ {ds : List D} {vs : List V} {zs : List PyData}, RepL K mg.f G ds vs → pyL ds = some zs → DpAll K G vs zs
  | [], _, _, .nil, e => by cases e; exact .nil
  | d :: ds, _, zs, .cons a b, e => by
    unfold pyL at e
    split at e
    · rename_i x y e1 e2
      cases e
      exact .cons (rep_dp a e1) (repL_dp b e2)
    · cases e
end
mutual
theorem dp_mono (e : Ex G H) : ∀ {v : V} {z : PyData}, Dp K G v z → Dp K H v z
  | _, _, .non => .non
  | _, _, .bl b => .bl b
  | _, _, .int i => .int i
  | _, _, .str x => .str x
  | _, _, .lst s r => .lst (Evl.ex_l e s) (dpAll_mono e r)
  | _, _, .tup s r => .tup (Evl.ex_t e s) (dpAll_mono e r)
theorem dpAll_mono (e : Ex G H) : ∀ {vs : List V} {zs : List PyData}, DpAll K G vs zs → DpAll K H vs zs
  | _, _, .nil => .nil
  | _, _, .cons a b => .cons (dp_mono e a) (dpAll_mono e b)
end
theorem repWs_of : ∀ {ds : List D} {vs : List V}, RepL K mg.f G ds vs → RepWs K mg G μ (ds.map .d) vs
  | _, _, .nil => .nil
  | _, _, .cons a b => .cons a (repWs_of b)
theorem repL_of : ∀ {ws : List W} {ds : List D} {vs : List V}, RepWs K mg G μ ws vs → unD ws = some ds → RepL K mg.f G ds vs
  | [], _, _, .nil, e => by cases e; exact .nil
  | .d x :: r, ds, _, .cons a b, e => by
    unfold unD at e
    cases q : unD r with
    | none => rw [q] at e; cases e
    | some zs => rw [q] at e; cases e; exact .cons a (repL_of b q)
  | .ref x :: r, ds, _, .cons a b, e => by cases e
theorem lst_at (rh : RelH K mg G μ h H) {w : W} {v : V} {ws : List W} (r : RepW K mg G μ w v) (e : lstOf h w = some ws) : ∃ a vs, v = .ref a ∧ SqL K H a vs ∧ RepWs K mg G μ ws vs := by
  unfold lstOf at e
  split at e
  · cases e
    cases r with
    | lst s q => exact ⟨_, _, rfl, Evl.sq_of (rh.ex _ _ s), repWs_of q⟩
  · obtain ⟨q, e1, rfl⟩ := r
    split at e
    · rename_i e2
      cases e
      obtain ⟨vs, z1, z2⟩ := rh.ok _ _ _ e1 e2
      exact ⟨_, _, rfl, Evl.sq_of z1, z2⟩
    · rename_i e2
      cases e
      obtain ⟨vs, z1, z2⟩ := rh.ok _ _ _ e1 e2
      exact ⟨_, _, rfl, z1, z2⟩
    · cases e
  · cases e
theorem tup_at (rh : RelH K mg G μ h H) {w : W} {v : V} {ds : List D} (r : RepW K mg G μ w v) (e : tupOf w = some ds) : ∃ a vs, v = .ref a ∧ SqT K H a vs ∧ SqT K G a vs ∧ RepL K mg.f G ds vs := by
  unfold tupOf at e
  split at e
  · cases e
    cases r with
    | tup s q => exact ⟨_, _, rfl, Evl.ex_t rh.ex s, s, q⟩
  · cases e
theorem dp_at (rh : RelH K mg G μ h H) {w : W} {v : V} {z : PyData} (r : RepW K mg G μ w v) (e : pyW h w = some z) : Dp K H v z := by
  unfold pyW at e
  split at e
  · exact dp_mono rh.ex (rep_dp r e)
  · rename_i a
    obtain ⟨q, e1, rfl⟩ := r
    split at e
    · rename_i ws e2
      split at e
      · rename_i ds e3
        cases e4 : pyL ds with
        | none => rw [e4] at e; cases e
        | some zs =>
          rw [e4] at e
          cases e
          obtain ⟨vs, z1, z2⟩ := rh.ok _ _ _ e1 e2
          exact .lst (Evl.sq_of z1) (dpAll_mono rh.ex (repL_dp (repL_of z2 e3) e4))
      · cases e
    · cases e
  · cases e
theorem Ret.tup {ds : List D} {vs : List V} {Q : VK} {EX : XK} (k : Ret K mg G μ H (mPure (W.d (.tup ds)) h) (fun w G' μ' _ H' => ∀ v, RepW K mg G' μ' w v → Q v H') EX) (rh : RelH K mg G μ h H) (r : RepL K mg.f G ds vs) :
    ∀ p, H p = none → Q (.ref p) (upd H p (.tup vs)) := fun p hp => by
  obtain ⟨r1, h', e, k⟩ := k
  cases e
  obtain ⟨n1, n2⟩ := rh.new hp (.tup vs)
  exact k _ _ _ n2 n1 _ (.tup (Evl.st_of upd_same) (r.mono n2.g))
theorem Ret.lst {ds : List D} {vs : List V} {Q : VK} {EX : XK} (k : Ret K mg G μ H (mPure (W.d (.lst ds)) h) (fun w G' μ' _ H' => ∀ v, RepW K mg G' μ' w v → Q v H') EX) (rh : RelH K mg G μ h H) (r : RepL K mg.f G ds vs) :
    ∀ p, H p = none → Q (.ref p) (upd H p (.lst vs)) := fun p hp => by
  obtain ⟨r1, h', e, k⟩ := k
  cases e
  obtain ⟨n1, n2⟩ := rh.new hp (.lst vs)
  exact k _ _ _ n2 n1 _ (.lst upd_same (r.mono n2.g))
end
def fI (g : Int → Int → Option D) : W → W → M W := fun x y => mOf (match x, y with | .d (.int i), .d (.int j) => (g i j).map .d | _, _ => none)
section
variable {K : PySem.W.Frag} {mg : MgX}
theorem fI_at {g : Int → Int → Option D} {x y : W} {z : W} (e : (match x, y with | .d (.int i), .d (.int j) => (g i j).map W.d | _, _ => none) = some z) : ∃ i j d, x = .d (.int i) ∧ y = .d (.int j) ∧ g i j = some d ∧ z = .d d := by
  split at e
  · rename_i i j
    cases q : g i j with
    | none => rw [q] at e; cases e
    | some d => rw [q] at e; cases e; exact ⟨i, j, d, rfl, rfl, q, rfl⟩
  · cases e
theorem opm_I {C : Int → Int → Prop} {gV : Int → Int → V} {g : Int → Int → Option D} (hg : ∀ i j d, g i j = some d → C i j ∧ ∀ G, Rep K mg.f G d (gV i j)) : OpM K mg (rI C gV) (fI g) := fun G μ h H x y v u Q EX rh rx ry k => by
  obtain ⟨w, e, k⟩ := k.of rh
  obtain ⟨i, j, d, rfl, rfl, e1, rfl⟩ := fI_at e
  obtain ⟨c, r⟩ := hg i j d e1
  cases rx
  cases ry
  exact ⟨i, j, rfl, rfl, c, k _ (r G)⟩
theorem opm_I0 {gV : Int → Int → V} {g : Int → Int → D} (hg : ∀ i j G, Rep K mg.f G (g i j) (gV i j)) : OpM K mg (rI0 gV) (fI fun i j => some (g i j)) := fun G μ h H x y v u Q EX rh rx ry k => by
  obtain ⟨w, e, k⟩ := k.of rh
  obtain ⟨i, j, d, rfl, rfl, e1, rfl⟩ := fI_at e
  cases e1
  cases rx
  cases ry
  exact ⟨i, j, rfl, rfl, k _ (hg i j G)⟩
def fEq (neg : Bool) : W → W → M W := fun x y h => match pyW h x, pyW h y with
  | some a, some b => if SeqAt.shaped a && SeqAt.shaped b then some (.ok (.d (.bl (if neg then !PyData.eqv a b else PyData.eqv a b))), h) else none
  | _, _ => none
theorem fEq_at {neg : Bool} {x y : W} {h : AHp} {r : R W × AHp} (e : fEq neg x y h = some r) : ∃ a b, pyW h x = some a ∧ pyW h y = some b ∧ SeqAt.shaped a = true ∧ SeqAt.shaped b = true ∧ r = (.ok (.d (.bl (if neg then !PyData.eqv a b else PyData.eqv a b))), h) := by
  unfold fEq at e
  split at e
  · rename_i a b e1 e2
    split at e
    · rename_i c
      rw [Bool.and_eq_true] at c
      cases e
      exact ⟨a, b, e1, e2, c.1, c.2, rfl⟩
    · cases e
  · cases e
theorem opm_eq : OpM K mg (rEqD K) (fEq false) := fun G μ h H x y v u Q EX rh rx ry ⟨r, h', e, k⟩ => by
  obtain ⟨a, b, e1, e2, s1, s2, e3⟩ := fEq_at e
  cases e3
  exact ⟨a, b, dp_at rh rx e1, dp_at rh ry e2, s1, s2, k _ _ _ Step.refl rh _ (.bl _)⟩
theorem opm_ne : OpM K mg (rNeD K) (fEq true) := fun G μ h H x y v u Q EX rh rx ry ⟨r, h', e, k⟩ => by
  obtain ⟨a, b, e1, e2, s1, s2, e3⟩ := fEq_at e
  cases e3
  exact ⟨a, b, dp_at rh rx e1, dp_at rh ry e2, s1, s2, k _ _ _ Step.refl rh _ (.bl _)⟩
end
end PM

end
section
set_option Elab.async false
set_option linter.all false
set_option maxRecDepth 100000
set_option maxHeartbeats 4000000
namespace PM
open PySem PySem.Spec PyProof.Rows L2
open Evl (Ex)
section
variable {X : Cx}
def rInTD (K : PySem.W.Frag) (neg : Bool) : R2 := fun x y H Q => ∃ d ds, Dp K H x d ∧ Dp K H y (.tuple ds) ∧ SeqAt.shaped d = true ∧ SeqAt.shaped (.tuple ds) = true ∧ Q (.bl (if neg then !ds.any (fun z => PyData.eqv z d) else ds.any fun z => PyData.eqv z d)) H
theorem op_inTD (hu : X.A.units + 65 < cLine) : OpR X (compareOp .In) (rInTD X.K false) := by
  intro pins s σ H x y v u Q I rx ry h
  obtain ⟨d, ds, hd, he, sd, se, q⟩ := h
  obtain ⟨as, r1⟩ := Dp.reads I d x v hd rx
  obtain ⟨bs, r2⟩ := Dp.reads I (.tuple ds) y u he ry
  exact SeqAt.in_tuple_reads r2 r1 (SeqAt.canLay_of_shaped se) (SeqAt.canLay_of_shaped sd) (room_in_shaped sd hu) ⟨.bl _, H, I, rfl, q⟩
theorem op_notInTD (hu : X.A.units + 65 < cLine) : OpR X (compareOp .NotIn) (rInTD X.K true) := by
  intro pins s σ H x y v u Q I rx ry h
  obtain ⟨d, ds, hd, he, sd, se, q⟩ := h
  obtain ⟨as, r1⟩ := Dp.reads I d x v hd rx
  obtain ⟨bs, r2⟩ := Dp.reads I (.tuple ds) y u he ry
  exact SeqAt.notIn_tuple_reads r2 r1 (SeqAt.canLay_of_shaped se) (SeqAt.canLay_of_shaped sd) (room_in_shaped sd hu) ⟨.bl _, H, I, rfl, q⟩
def rInS (neg : Bool) : R2 := fun x y H Q => ∃ (i j : Str), x = .str i ∧ y = .str j ∧ Q (.bl (if neg then !(!(Builtin.Str.occurrences j i 0 j.length 1).isEmpty) else !(Builtin.Str.occurrences j i 0 j.length 1).isEmpty)) H
def rInAll (K : PySem.W.Frag) : R2 := fun x y H Q => rInD K x y H Q ∨ rInTD K false x y H Q ∨ rInS false x y H Q
def rNotInAll (K : PySem.W.Frag) : R2 := fun x y H Q => rNotInD K x y H Q ∨ rInTD K true x y H Q ∨ rInS true x y H Q
theorem op_inAll (hu : X.A.units + 65 < cLine) : OpR X (compareOp .In) (rInAll X.K) := or_op (op_inD hu) (or_op (op_inTD hu) op_in_str)
theorem op_notInAll (hu : X.A.units + 65 < cLine) : OpR X (compareOp .NotIn) (rNotInAll X.K) := or_op (op_notInD hu) (or_op (op_notInTD hu) op_notin_str)
end
def inA (neg : Bool) (a b : PyData) : Option D := match b with
  | .list zs => if SeqAt.shaped a && SeqAt.shaped (.list zs) then some (.bl (if neg then !zs.any (fun z => PyData.eqv z a) else zs.any fun z => PyData.eqv z a)) else none
  | .tuple zs => if SeqAt.shaped a && SeqAt.shaped (.tuple zs) then some (.bl (if neg then !zs.any (fun z => PyData.eqv z a) else zs.any fun z => PyData.eqv z a)) else none
  | .str j => match a with
    | .str i => some (.bl (if neg then !(!(Builtin.Str.occurrences j i 0 j.length 1).isEmpty) else !(Builtin.Str.occurrences j i 0 j.length 1).isEmpty))
    | _ => none
  | _ => none
def fIn (neg : Bool) : W → W → M W := fun x y h => match pyW h x, pyW h y with
  | some a, some b => mOf ((inA neg a b).map .d) h
  | _, _ => none
section
variable {K : PySem.W.Frag} {mg : MgX}
theorem fIn_at {neg : Bool} {x y : W} {h : AHp} {r : R W × AHp} (e : fIn neg x y h = some r) : ∃ a b d, pyW h x = some a ∧ pyW h y = some b ∧ inA neg a b = some d ∧ r = (.ok (.d d), h) := by
  unfold fIn at e
  split at e
  · rename_i a b e1 e2
    cases q : inA neg a b with
    | none => rw [q] at e; cases e
    | some d => rw [q] at e; cases e; exact ⟨a, b, d, e1, e2, q, rfl⟩
  · cases e
theorem opm_in : OpM K mg (rInAll K) (fIn false) := fun G μ h H x y v u Q EX rh rx ry ⟨r, h', e, k⟩ => by
  obtain ⟨a, b, d, e1, e2, e3, e4⟩ := fIn_at e
  cases e4
  have da := dp_at rh rx e1
  have db := dp_at rh ry e2
  unfold inA at e3
  split at e3
  · split at e3
    · rename_i c
      rw [Bool.and_eq_true] at c
      cases e3
      exact .inl ⟨a, _, da, db, c.1, c.2, k _ _ _ Step.refl rh _ (.bl _)⟩
    · cases e3
  · split at e3
    · rename_i c
      rw [Bool.and_eq_true] at c
      cases e3
      exact .inr (.inl ⟨a, _, da, db, c.1, c.2, k _ _ _ Step.refl rh _ (.bl _)⟩)
    · cases e3
  · split at e3
    · cases e3
      cases da
      cases db
      exact .inr (.inr ⟨_, _, rfl, rfl, k _ _ _ Step.refl rh _ (.bl _)⟩)
    · cases e3
  · cases e3
theorem opm_notIn : OpM K mg (rNotInAll K) (fIn true) := fun G μ h H x y v u Q EX rh rx ry ⟨r, h', e, k⟩ => by
  obtain ⟨a, b, d, e1, e2, e3, e4⟩ := fIn_at e
  cases e4
  have da := dp_at rh rx e1
  have db := dp_at rh ry e2
  unfold inA at e3
  split at e3
  · split at e3
    · rename_i c
      rw [Bool.and_eq_true] at c
      cases e3
      exact .inl ⟨a, _, da, db, c.1, c.2, k _ _ _ Step.refl rh _ (.bl _)⟩
    · cases e3
  · split at e3
    · rename_i c
      rw [Bool.and_eq_true] at c
      cases e3
      exact .inr (.inl ⟨a, _, da, db, c.1, c.2, k _ _ _ Step.refl rh _ (.bl _)⟩)
    · cases e3
  · split at e3
    · cases e3
      cases da
      cases db
      exact .inr (.inr ⟨_, _, rfl, rfl, k _ _ _ Step.refl rh _ (.bl _)⟩)
    · cases e3
  · cases e3
def isN : W → Bool
  | .d .non => true
  | _ => false
def fIsN (neg : Bool) : W → W → M W := fun x y => mOf (if isN y then some (.d (.bl (if neg then !isN x else isN x))) else none)
theorem isN_v {G : Hp} {μ : Mu} {w : W} {v : V} (r : RepW K mg G μ w v) : decide (v = .non) = isN w := by
  cases w with
  | d d => cases r <;> rfl
  | ref a => obtain ⟨q, _, rfl⟩ := r; rfl
  | exn c fs => obtain ⟨a, cls, d, _, rfl, _⟩ := r; rfl
theorem isN_y {G : Hp} {μ : Mu} {w : W} {v : V} (r : RepW K mg G μ w v) (e : isN w = true) : v = .non := of_decide_eq_true ((isN_v r).trans e)
theorem opm_is : OpM K mg (fun x y H Q => y = .non ∧ Q (.bl (decide (x = .non))) H) (fIsN false) := fun G μ h H x y v u Q EX rh rx ry k => by
  obtain ⟨w, e, k⟩ := k.of rh
  split at e
  · rename_i c
    cases e
    refine ⟨isN_y ry c, ?_⟩
    rw [isN_v rx]
    exact k _ (.bl _)
  · cases e
theorem opm_isNot : OpM K mg (fun x y H Q => y = .non ∧ Q (.bl (!decide (x = .non))) H) (fIsN true) := fun G μ h H x y v u Q EX rh rx ry k => by
  obtain ⟨w, e, k⟩ := k.of rh
  split at e
  · rename_i c
    cases e
    refine ⟨isN_y ry c, ?_⟩
    rw [isN_v rx]
    exact k _ (.bl _)
  · cases e
def fAdd : W → W → M W := fun x y => mOf (match x, y with
  | .d (.int i), .d (.int j) => some (.d (.int (i + j)))
  | .d (.tup a), .d (.tup b) => if a.length + b.length ≤ sizeLine then some (.d (.tup (a ++ b))) else none
  | .d (.lst a), .d (.lst b) => if a.length + b.length ≤ sizeLine then some (.d (.lst (a ++ b))) else none
  | .d (.str a), .d (.str b) => if a.length + b.length ≤ sizeLine then some (.d (.str (a ++ b))) else none
  | _, _ => none)
def rAdd (K : PySem.W.Frag) : R2 := fun x y H Q => rI0 (fun i j => .int (i + j)) x y H Q ∨ rCatA K x y H Q ∨ rCat x y H Q ∨ ∃ i j, x = .str i ∧ y = .str j ∧ i.length + j.length ≤ sizeLine ∧ Q (.str (i ++ j)) H
theorem op_addAll {X : Cx} : OpR X (binaryOp .Add) (rAdd X.K) := or_op op_add (or_op op_catA (or_op op_cat op_add_str))
theorem nil_of {G : Hp} {ds : List D} (r : RepL K mg.f G ds []) : ds = [] := by cases r; rfl
theorem opm_add : OpM K mg (rAdd K) fAdd := fun G μ h H x y v u Q EX rh rx ry k => by
  unfold fAdd at k
  obtain ⟨w, e, k'⟩ := k.of rh
  split at e
  · cases e
    cases rx
    cases ry
    exact .inl ⟨_, _, rfl, rfl, k' _ (.int _)⟩
  · split at e
    · rename_i c
      cases e
      cases rx with
      | tup s1 r1 =>
        cases ry with
        | tup s2 r2 =>
          rename_i a1 xs1 a2 xs2
          refine .inr (.inl ⟨a1, a2, xs1, xs2, rfl, rfl, Evl.ex_t rh.ex s1, Evl.ex_t rh.ex s2, by rw [← r1.length, ← r2.length]; exact c, fun e0 => ?_, fun _ e0 => ?_, fun _ _ p hp => ?_⟩)
          · subst e0
            rw [nil_of r1] at k'
            exact k' _ (.tup s2 r2)
          · subst e0
            rw [nil_of r2, List.append_nil] at k'
            exact k' _ (.tup s1 r1)
          · simp only [mOf, if_pos c] at k
            exact Ret.tup (h := h) k rh (r1.append r2) p hp
    · cases e
  · split at e
    · rename_i c
      cases e
      cases rx with
      | lst s1 r1 =>
        cases ry with
        | lst s2 r2 =>
          refine .inr (.inr (.inl ⟨_, _, _, _, rfl, rfl, rh.ex _ _ s1, rh.ex _ _ s2, by rw [← r1.length, ← r2.length]; exact c, fun p hp => ?_⟩))
          simp only [mOf, if_pos c] at k
          exact Ret.lst (h := h) k rh (r1.append r2) p hp
    · cases e
  · split at e
    · rename_i c
      cases e
      cases rx
      cases ry
      exact .inr (.inr (.inr ⟨_, _, rfl, rfl, c, k' _ (.str _)⟩))
    · cases e
  · cases e
def fIx : W → W → M W := fun x y h => match y with
  | .d (.int i) => match x with
    | .d (.str z) => if z.length ≤ sizeLine then mOf ((atI z.cps.toList i).map fun c => .d (.str ⟨#[c]⟩)) h else none
    | .d (.tup ds) => mOf ((atI ds i).map .d) h
    | _ => match lstOf h x with
      | some ws => mOf (atI ws i) h
      | none => none
  | _ => none
theorem atI_rel {α β : Type} {P : α → β → Prop} {xs : List α} {ys : List β} {i : Int} {x : α} (hl : xs.length = ys.length) (e : atI xs i = some x) (g : ∀ j : Nat, xs[j]? = some x → ∃ y, ys[j]? = some y ∧ P x y) : ∃ y, atI ys i = some y ∧ P x y := by
  unfold atI at e ⊢
  rw [← hl]
  cases q : ixN xs.length i with
  | none => rw [q] at e; cases e
  | some j =>
    rw [q] at e
    obtain ⟨y, h1, h2⟩ := g j e
    exact ⟨y, h1, h2⟩
theorem opm_ix : OpM K mg (rIx K) fIx := fun G μ h H x y v u Q EX rh rx ry k => by
  obtain ⟨r, h', e, k⟩ := k
  unfold fIx at e
  split at e
  · rename_i i
    cases ry
    split at e
    · rename_i z
      cases rx
      split at e
      · rename_i c
        cases q : atI z.cps.toList i with
        | none => rw [q] at e; cases e
        | some cp => rw [q] at e; cases e; exact .inr (.inr ⟨z, i, cp, rfl, rfl, c, q, k _ _ _ Step.refl rh _ (.str _)⟩)
      · cases e
    · rename_i ds
      cases q : atI ds i with
      | none => rw [q] at e; cases e
      | some d =>
        rw [q] at e
        cases e
        cases rx with
        | tup s1 r1 =>
          obtain ⟨y, h1, h2⟩ := atI_rel r1.length q fun j ej => r1.get ej
          exact .inr (.inl ⟨_, _, i, y, rfl, rfl, Evl.ex_t rh.ex s1, h1, k _ _ _ Step.refl rh _ h2⟩)
    · split at e
      · rename_i ws e1
        obtain ⟨a, vs, rfl, s1, r1⟩ := lst_at rh rx e1
        cases q : atI ws i with
        | none => rw [q] at e; cases e
        | some w =>
          rw [q] at e
          cases e
          obtain ⟨y, h1, h2⟩ := atI_rel r1.length q fun j ej => r1.get ej
          exact .inl ⟨a, vs, i, y, rfl, rfl, s1, h1, k _ _ _ Step.refl rh _ h2⟩
      · cases e
  · cases e
end
end PM

end
section
set_option Elab.async false
set_option linter.all false
set_option maxRecDepth 100000
set_option maxHeartbeats 4000000
namespace PM
open PySem PySem.Spec PyProof.Rows L2
open Evl (Ex)
abbrev MA := Sl → M (List W)
abbrev MT := Sl → M Bool
def tA (K : PySem.W.Frag) (mg : MgX) (Wx : WX) (m : MA) : TA := fun σ H Q => ∃ G μ σA h, RelS K mg G μ σA σ ∧ RelH K mg G μ h H ∧
  Ret K mg G μ H (m σA h) (fun ws G' μ' _ H' => ∀ vs, RepWs K mg G' μ' ws vs → Q vs H') (fun cls d H' => Wx cls d σ H')
def tT (K : PySem.W.Frag) (mg : MgX) (Wx : WX) (m : MT) : TT := fun σ H Q => ∃ G μ σA h, RelS K mg G μ σA σ ∧ RelH K mg G μ h H ∧
  Ret K mg G μ H (m σA h) (fun b _ _ _ H' => Q b H') (fun cls d H' => Wx cls d σ H')
abbrev PMA (Wx : WX) (X : Cx) (es : List Expr) (m : MA) : Prop := PA X es (tA X.K X.mgx Wx m)
abbrev PMT (Wx : WX) (X : Cx) (e : Expr) (m : MT) : Prop := PT X e (tT X.K X.mgx Wx m)
abbrev PMW (Wx : WX) (X : Cx) (e : Expr) (m : MT) : Prop := PW X e (tT X.K X.mgx Wx m)
theorem pa_imp {X : Cx} {e : List Expr} {t u : TA} (p : PA X e t) (i : ∀ σ H Q, u σ H Q → t σ H Q) : PA X e u := ⟨fun pos pins s σ H Q I q => p.run pos pins s σ H Q I (i σ H Q q)⟩
theorem pt_imp {X : Cx} {e : Expr} {t u : TT} (p : PT X e t) (i : ∀ σ H Q, u σ H Q → t σ H Q) : PT X e u := ⟨fun pins s σ H Q I q => p.run pins s σ H Q I (i σ H Q q)⟩
theorem pw_imp {X : Cx} {e : Expr} {t u : TT} (p : PW X e t) (i : ∀ σ H Q, u σ H Q → t σ H Q) : PW X e u := ⟨fun w pins s σ H Q I q => p.run w pins s σ H Q I (i σ H Q q)⟩
section
variable {X : Cx} {Wx : WX} {a b e : Expr} {es : List Expr} {ma mb me : ME} {mas : MA} {pos : Pos}
def mNil : MA := fun _ => mPure []
def mCons (me : ME) (m : MA) : MA := fun σ => mBind (me σ) fun w => mBind (m σ) fun ws => mPure (w :: ws)
theorem pma_nil : PMA Wx X [] mNil := pa_imp pa_nil fun σ H Q ⟨G, μ, σA, h, rs, rh, k⟩ => Ret.pure k rh _ .nil
theorem pma_cons (he : PM Wx X e me) (ha : PMA Wx X es mas) (hs : starEach (e :: es) X.env = (false, eval e X.env) :: starEach es X.env := by rfl) : PMA Wx X (e :: es) (mCons me mas) :=
  pa_imp (pa_cons he ha hs) fun σ H Q ⟨G, μ, σA, h, rs, rh, k⟩ => ⟨G, μ, σA, h, rs, rh, k.bind.imp fun w G1 μ1 h1 H1 s1 rh1 k1 v rv => ⟨G1, μ1, σA, h1, rs.mono s1, rh1, k1.bind.imp fun ws G2 μ2 h2 H2 s2 rh2 k2 vs rvs =>
    Ret.pure k2 rh2 _ (.cons (rv.mono s2) rvs)⟩⟩
def mTup (m : MA) : ME := fun σ => mBind (m σ) fun ws => mOf (match unD ws with | some ds => if ds.length ≤ sizeLine then some (.d (.tup ds)) else none | none => none)
def mLst (m : MA) : ME := fun σ => mBind (m σ) fun ws => mOf (match unD ws with | some ds => if ds.length ≤ sizeLine then some (.d (.lst ds)) else none | none => none)
def mLstR (m : MA) : ME := fun σ => mBind (m σ) fun ws h => if ws.length ≤ sizeLine then some (.ok (.ref h.length), h ++ [.lst ws]) else none
theorem pm_tup {x1} (ha : PMA Wx X es mas) : PM Wx X (.Tuple es x1 pos) (mTup mas) :=
  pe_imp (pe_tup ha) fun σ H Q ⟨G, μ, σA, h, rs, rh, k⟩ => ⟨G, μ, σA, h, rs, rh, k.bind.imp fun ws G1 μ1 h1 H1 s1 rh1 k1 vs rvs => by
    have k2 := k1
    obtain ⟨w, e, _⟩ := k1.of rh1
    split at e
    · rename_i ds e1
      split at e
      · rename_i c
        cases e
        have r := repL_of rvs e1
        simp only [mOf, e1, if_pos c] at k2
        exact ⟨by rw [← r.length]; exact c, Ret.tup (h := h1) k2 rh1 r⟩
      · cases e
    · cases e⟩
theorem pm_lst (ha : PMA Wx X es mas) : PM Wx X (.List es pos) (mLst mas) :=
  pe_imp (pe_lst ha) fun σ H Q ⟨G, μ, σA, h, rs, rh, k⟩ => ⟨G, μ, σA, h, rs, rh, k.bind.imp fun ws G1 μ1 h1 H1 s1 rh1 k1 vs rvs => by
    have k2 := k1
    obtain ⟨w, e, _⟩ := k1.of rh1
    split at e
    · rename_i ds e1
      split at e
      · rename_i c
        cases e
        have r := repL_of rvs e1
        simp only [mOf, e1, if_pos c] at k2
        exact ⟨by rw [← r.length]; exact c, Ret.lst (h := h1) k2 rh1 r⟩
      · cases e
    · cases e⟩
theorem pm_lstR (ha : PMA Wx X es mas) : PM Wx X (.List es pos) (mLstR mas) :=
  pe_imp (pe_lst ha) fun σ H Q ⟨G, μ, σA, h, rs, rh, k⟩ => ⟨G, μ, σA, h, rs, rh, k.bind.imp fun ws G1 μ1 h1 H1 s1 rh1 k1 vs rvs => by
    obtain ⟨r, h', e, k⟩ := k1
    split at e
    · rename_i c
      cases e
      refine ⟨by rw [← rvs.length]; exact c, fun p hp => ?_⟩
      obtain ⟨n1, n2⟩ := rh1.newRef hp rvs
      refine k _ _ _ n2 n1 _ ⟨(p, p), ?_, rfl⟩
      rw [← rh1.len, List.getElem?_append_right (Nat.le_refl _)]
      simp
    · cases e⟩
def CallM (K : PySem.W.Frag) (mg : MgX) (r : List V → Hp → VK → Prop) (f : List W → M W) : Prop := ∀ (G : Hp) (μ : Mu) (h : AHp) (H : Hp) (ws : List W) (vs : List V) (Q : VK) (EX : XK), RelH K mg G μ h H → RepWs K mg G μ ws vs →
  Ret K mg G μ H (f ws h) (fun w G' μ' _ H' => ∀ v, RepW K mg G' μ' w v → Q v H') EX → r vs H Q
def mCB (f : List W → M W) (m : MA) : ME := fun σ => mBind (m σ) f
theorem t_cb {K : PySem.W.Frag} {mg : MgX} {r : List V → Hp → VK → Prop} {f : List W → M W} (o : CallM K mg r f) {σ : L2.St} {H : Hp} {Q : VK} (q : tE K mg Wx (mCB f mas) σ H Q) : tCB r (tA K mg Wx mas) σ H Q := by
  obtain ⟨G, μ, σA, h, rs, rh, k⟩ := q
  exact ⟨G, μ, σA, h, rs, rh, k.bind.imp fun ws G1 μ1 h1 H1 s1 rh1 k1 vs rvs => o G1 μ1 h1 H1 ws vs Q _ rh1 rvs k1⟩
theorem pm_callB {r : List V → Hp → VK → Prop} {f : List W → M W} {id : String} {x : Str} {p : Pos} (o : CallM X.K X.mgx r f) (hc : CallR X (.builtin id) r) (hg : Gl X x) (hm : X.mg x = none) (hv : bootBuiltins x = some (.builtin id)) (ha : PMA Wx X (e :: es) mas)
    (hn : x ≠ "__name__" := by decide) (hdb : (x == ("__debug__" : Str)) = false := by decide) (he : starEach (e :: es) X.env = (false, eval e X.env) :: starEach es X.env := by rfl) (hpl : (backTo pos (starEach es X.env)).any (·.1) = false := by rfl) :
    PM Wx X (.Call (.Name x p) (e :: es) [] pos) (mCB f mas) := pe_imp (pe_callB hc hg hm hv ha hn hdb he hpl) fun _ _ _ => t_cb o
theorem pm_callTy {r : List V → Hp → VK → Prop} {f : List W → M W} {T : String} {x : Str} {p : Pos} (o : CallM X.K X.mgx r f) (hc : CallR X (.type T) r) (hg : Gl X x) (hm : X.mg x = none) (hv : bootBuiltins x = some (.type T)) (ha : PMA Wx X (e :: es) mas)
    (hn : x ≠ "__name__" := by decide) (hdb : (x == ("__debug__" : Str)) = false := by decide) (he : starEach (e :: es) X.env = (false, eval e X.env) :: starEach es X.env := by rfl) (hpl : (backTo pos (starEach es X.env)).any (·.1) = false := by rfl) :
    PM Wx X (.Call (.Name x p) (e :: es) [] pos) (mCB f mas) := pe_imp (pe_callTy hc hg hm hv ha hn hdb he hpl) fun _ _ _ => t_cb o
def unB : W → Option Bool
  | .d (.bl b) => some b
  | _ => none
theorem unB_v {K : PySem.W.Frag} {mg : MgX} {G : Hp} {μ : Mu} {w : W} {v : V} {b : Bool} (r : RepW K mg G μ w v) (e : unB w = some b) : v = .bl b := by
  unfold unB at e
  split at e
  · cases e; cases r; rfl
  · cases e
theorem rep_of {K : PySem.W.Frag} {mg : MgX} {G : Hp} {μ : Mu} {w : W} {b : Bool} (e : unB w = some b) : w = .d (.bl b) := by
  unfold unB at e
  split at e
  · cases e; rfl
  · cases e
def mB (me : ME) : MT := fun σ => mBind (me σ) fun w => mOf (unB w)
theorem t_b {K : PySem.W.Frag} {mg : MgX} {σ : L2.St} {H : Hp} {Q : Bool → Hp → Prop} (q : tT K mg Wx (mB me) σ H Q) : tE K mg Wx me σ H fun x H1 => ∃ c, x = .bl c ∧ Q c H1 := by
  obtain ⟨G, μ, σA, h, rs, rh, k⟩ := q
  exact ⟨G, μ, σA, h, rs, rh, k.bind.imp fun w G1 μ1 h1 H1 s1 rh1 k1 v rv => by
    obtain ⟨b, e, k2⟩ := k1.of rh1
    exact ⟨b, unB_v rv e, k2⟩⟩
theorem pmt_val (he : PM Wx X e me) (hi : ∀ whole, isTrue e X.env whole = (do let v ← whole; standAt e.pos; holding [v] (truthy v)) := by intro _; rfl) : PMT Wx X e (mB me) := pt_imp (pt_val he hi) fun _ _ _ => t_b
theorem pmt_cmp {r : R2} {f : W → W → M W} {op : CmpOp} (ho : OpR X (compareOp op) r) (o : OpM X.K X.mgx r f) (ha : PM Wx X a ma) (hb : PM Wx X b mb) (hm : behindInMarks op b = false) : PMT Wx X (.Compare a [op] [b] pos) (mB (mBin f ma mb)) :=
  pt_imp (pt_cmpR ho ha hb hm) fun σ H Q q => t_bin o (t_b q)
def mNotT (m : MT) : MT := fun σ => mBind (m σ) fun b => mPure (!b)
def mAndT (m n : MT) : MT := fun σ => mBind (m σ) fun b => if b then n σ else mPure false
def mOrT (m n : MT) : MT := fun σ => mBind (m σ) fun b => if b then mPure true else n σ
variable {m n : MT} {rest : List Expr}
theorem pmt_not (h : PMT Wx X a m) : PMT Wx X (.UnaryOp .Not a pos) (mNotT m) := pt_imp (pt_not h) fun σ H Q ⟨G, μ, σA, h, rs, rh, k⟩ => ⟨G, μ, σA, h, rs, rh, k.bind.imp fun b G1 μ1 h1 H1 s1 rh1 k1 => Ret.pure k1 rh1⟩
theorem pmw_and1 (h : PMT Wx X a m) : PMW Wx X (.BoolOp .And [a] pos) m := pw_and1 h
theorem pmw_or1 (h : PMT Wx X a m) : PMW Wx X (.BoolOp .Or [a] pos) m := pw_or1 h
theorem pmw_and (h : PMT Wx X a m) (h2 : PMW Wx X (.BoolOp .And (b :: rest) pos) n) : PMW Wx X (.BoolOp .And (a :: b :: rest) pos) (mAndT m n) := pw_imp (pw_and h h2) fun σ H Q ⟨G, μ, σA, h, rs, rh, k⟩ => ⟨G, μ, σA, h, rs, rh, k.bind.imp fun b G1 μ1 h1 H1 s1 rh1 k1 => by
  cases b with
  | true => exact ⟨G1, μ1, σA, h1, rs.mono s1, rh1, k1⟩
  | false => exact Ret.pure k1 rh1⟩
theorem pmw_or (h : PMT Wx X a m) (h2 : PMW Wx X (.BoolOp .Or (b :: rest) pos) n) : PMW Wx X (.BoolOp .Or (a :: b :: rest) pos) (mOrT m n) := pw_imp (pw_or h h2) fun σ H Q ⟨G, μ, σA, h, rs, rh, k⟩ => ⟨G, μ, σA, h, rs, rh, k.bind.imp fun b G1 μ1 h1 H1 s1 rh1 k1 => by
  cases b with
  | true => exact Ret.pure k1 rh1
  | false => exact ⟨G1, μ1, σA, h1, rs.mono s1, rh1, k1⟩⟩
theorem PMW.t (h : PMW Wx X e m) : PMT Wx X e m := PW.pt h
def mAndV (ma mb : ME) : ME := fun σ => mBind (mBind (ma σ) fun w => mOf (unB w)) fun b => if b then mb σ else mPure (.d (.bl false))
def mOrV (ma mb : ME) : ME := fun σ => mBind (mBind (ma σ) fun w => mOf (unB w)) fun b => if b then mPure (.d (.bl true)) else mb σ
def mNotV (ma : ME) : ME := fun σ => mBind (mBind (ma σ) fun w => mOf (unB w)) fun b => mPure (.d (.bl (!b)))
theorem pm_one {op : BoolOp} (h : PM Wx X a ma) : PM Wx X (.BoolOp op [a] pos) ma := pe_one h
theorem pm_and (h : PM Wx X a ma) (h2 : PM Wx X (.BoolOp .And (b :: rest) pos) mb) : PM Wx X (.BoolOp .And (a :: b :: rest) pos) (mAndV ma mb) := pe_imp (pe_and h h2) fun σ H Q ⟨G, μ, σA, h, rs, rh, k⟩ => ⟨G, μ, σA, h, rs, rh, k.bind.bind.imp fun w G1 μ1 h1 H1 s1 rh1 k1 v rv => by
  obtain ⟨b, e, k2⟩ := k1.of rh1
  refine ⟨b, unB_v rv e, ?_⟩
  cases b with
  | true => exact ⟨G1, μ1, σA, h1, rs.mono s1, rh1, k2⟩
  | false => exact Ret.pure k2 rh1 _ (.bl _)⟩
theorem pm_or (h : PM Wx X a ma) (h2 : PM Wx X (.BoolOp .Or (b :: rest) pos) mb) : PM Wx X (.BoolOp .Or (a :: b :: rest) pos) (mOrV ma mb) := pe_imp (pe_or h h2) fun σ H Q ⟨G, μ, σA, h, rs, rh, k⟩ => ⟨G, μ, σA, h, rs, rh, k.bind.bind.imp fun w G1 μ1 h1 H1 s1 rh1 k1 v rv => by
  obtain ⟨b, e, k2⟩ := k1.of rh1
  refine ⟨b, unB_v rv e, ?_⟩
  cases b with
  | true => exact Ret.pure k2 rh1 _ (.bl _)
  | false => exact ⟨G1, μ1, σA, h1, rs.mono s1, rh1, k2⟩⟩
theorem pm_not (h : PM Wx X a ma) : PM Wx X (.UnaryOp .Not a pos) (mNotV ma) := pe_imp (pe_not h) fun σ H Q ⟨G, μ, σA, h, rs, rh, k⟩ => ⟨G, μ, σA, h, rs, rh, k.bind.bind.imp fun w G1 μ1 h1 H1 s1 rh1 k1 v rv => by
  obtain ⟨b, e, k2⟩ := k1.of rh1
  exact ⟨b, unB_v rv e, Ret.pure k2 rh1 _ (.bl _)⟩⟩
def mIf (m : MT) (ma mb : ME) : ME := fun σ => mBind (m σ) fun b => if b then ma σ else mb σ
theorem pm_if {c : Expr} (hc : PMT Wx X c m) (ha : PM Wx X a ma) (hb : PM Wx X b mb) : PM Wx X (.IfExp c a b pos) (mIf m ma mb) := pe_imp (pe_ifExp hc ha hb) fun σ H Q ⟨G, μ, σA, h, rs, rh, k⟩ => ⟨G, μ, σA, h, rs, rh, k.bind.imp fun b G1 μ1 h1 H1 s1 rh1 k1 => by
  cases b with
  | true => exact ⟨G1, μ1, σA, h1, rs.mono s1, rh1, k1⟩
  | false => exact ⟨G1, μ1, σA, h1, rs.mono s1, rh1, k1⟩⟩
def mNeg (ma : ME) : ME := fun σ => mBind (ma σ) fun w => mOf (match w with | .d (.int i) => some (.d (.int (-i))) | _ => none)
theorem pm_neg (h : PM Wx X a ma) : PM Wx X (.UnaryOp .USub a pos) (mNeg ma) := pe_imp (pe_un un_neg h) fun σ H Q ⟨G, μ, σA, h, rs, rh, k⟩ => ⟨G, μ, σA, h, rs, rh, k.bind.imp fun w G1 μ1 h1 H1 s1 rh1 k1 v rv => by
  obtain ⟨w', e, k2⟩ := k1.of rh1
  split at e
  · cases e
    cases rv
    exact ⟨_, rfl, k2 _ (.int _)⟩
  · cases e⟩
end
end PM

end
section
set_option Elab.async false
set_option linter.all false
set_option maxRecDepth 100000
set_option maxHeartbeats 4000000
namespace PM
open PySem PySem.Spec PyProof.Rows L2
open Evl (Ex)
inductive RS where
  | nx (σ : Sl)
  | rt (w : W)
  | bk (σ : Sl)
  | ct (σ : Sl)
  | exc (σ : Sl) (c : Str) (fs : List (Str × D))
abbrev MH := AHp → Option (RS × AHp)
abbrev MS := Sl → MH
def RetS (K : PySem.W.Frag) (mg : MgX) (Wx : WX) (D : Ends) (G : Hp) (μ : Mu) (H : Hp) (x : Option (RS × AHp)) : Prop :=
  ∃ r h', x = some (r, h') ∧ match r with
    | .nx σA => ∀ G' μ' H' σ, Step G μ H G' μ' H' → RelH K mg G' μ' h' H' → RelS K mg G' μ' σA σ → D.nx σ H'
    | .rt w => ∀ G' μ' H' v, Step G μ H G' μ' H' → RelH K mg G' μ' h' H' → RepW K mg G' μ' w v → D.rt v H'
    | .bk σA => ∀ G' μ' H' σ, Step G μ H G' μ' H' → RelH K mg G' μ' h' H' → RelS K mg G' μ' σA σ → D.bk σ H'
    | .ct σA => ∀ G' μ' H' σ, Step G μ H G' μ' H' → RelH K mg G' μ' h' H' → RelS K mg G' μ' σA σ → D.ct σ H'
    | .exc σA c fs => ∀ G' μ' H' σ cls d, Step G μ H G' μ' H' → RelH K mg G' μ' h' H' → RelS K mg G' μ' σA σ → IsExc K mg.f G' c fs cls d → Wx cls d σ H'
def tS (K : PySem.W.Frag) (mg : MgX) (Wx : WX) (m : MS) : TS := fun D σ H => ∃ G μ σA h, RelS K mg G μ σA σ ∧ RelH K mg G μ h H ∧ RetS K mg Wx D G μ H (m σA h)
abbrev PMS (Wx : WX) (X : Cx) (st : Stmt) (m : MS) : Prop := PS X st (tS X.K X.mgx Wx m)
abbrev PMSs (Wx : WX) (X : Cx) (sts : List Stmt) (m : MS) : Prop := PSs X sts (tS X.K X.mgx Wx m)
theorem ps_imp {X : Cx} {st : Stmt} {t u : TS} (p : PS X st t) (i : ∀ D σ H, u D σ H → t D σ H) : PS X st u := ⟨fun pins s σ H D I q => p.run pins s σ H D I (i D σ H q)⟩
theorem pss_imp {X : Cx} {st : List Stmt} {t u : TS} (p : PSs X st t) (i : ∀ D σ H, u D σ H → t D σ H) : PSs X st u := ⟨fun pins s σ H D I q => p.run pins s σ H D I (i D σ H q)⟩
def mThen {α : Type} (m : M α) (σ : Sl) (f : α → MH) : MH := fun h => match m h with
  | none => none
  | some (.exc c fs, h1) => some (.exc σ c fs, h1)
  | some (.ok a, h1) => f a h1
section
variable {K : PySem.W.Frag} {mg : MgX} {G G1 H H1 : Hp} {μ μ1 : Mu} {h : AHp} {α : Type} {Wx : WX} {D : Ends} {σA : Sl} {σ : L2.St}
theorem RetS.step (s1 : Step G μ H G1 μ1 H1) {x : Option (RS × AHp)} (r : RetS K mg Wx D G μ H x) : RetS K mg Wx D G1 μ1 H1 x := by
  obtain ⟨r, h', e, k⟩ := r
  refine ⟨r, h', e, ?_⟩
  cases r with
  | nx σ => exact fun G' μ' H' σ s rh rs => k G' μ' H' σ (s1.trans s) rh rs
  | rt w => exact fun G' μ' H' v s rh rs => k G' μ' H' v (s1.trans s) rh rs
  | bk σ => exact fun G' μ' H' σ s rh rs => k G' μ' H' σ (s1.trans s) rh rs
  | ct σ => exact fun G' μ' H' σ s rh rs => k G' μ' H' σ (s1.trans s) rh rs
  | exc σ c fs => exact fun G' μ' H' σ cls d s rh rs ix => k G' μ' H' σ cls d (s1.trans s) rh rs ix
theorem RetS.then {m : M α} {f : α → MH} (rs : RelS K mg G μ σA σ) (r : RetS K mg Wx D G μ H (mThen m σA f h)) :
    Ret K mg G μ H (m h) (fun a G1 μ1 h1 H1 => RetS K mg Wx D G1 μ1 H1 (f a h1)) (fun cls d H' => Wx cls d σ H') := by
  unfold mThen at r
  cases q : m h with
  | none => rw [q] at r; obtain ⟨r, h', e, k⟩ := r; cases e
  | some z =>
    obtain ⟨x, h1⟩ := z
    rw [q] at r
    cases x with
    | exc c fs =>
      obtain ⟨r, h', e, k⟩ := r
      cases e
      exact ⟨_, _, rfl, fun G' μ' H' cls d s rh ix => k G' μ' H' σ cls d s rh (rs.mono s) ix⟩
    | ok a => exact ⟨_, _, rfl, fun G1 μ1 H1 s1 rh1 => r.step s1⟩
end
section
variable {X : Cx} {Wx : WX} {e : Expr} {st : Stmt} {rest sts sts' : List Stmt} {me : ME} {m n : MS} {t : MT} {pos : Pos}
def mSkip : MS := fun σ h => some (.nx σ, h)
def mSeq (m n : MS) : MS := fun σ h => match m σ h with
  | some (.nx σ1, h1) => n σ1 h1
  | x => x
theorem pmss_nil : PMSs Wx X [] mSkip := pss_imp pss_nil fun D σ H ⟨G, μ, σA, h, rs, rh, r, h', e, k⟩ => by
  cases e
  exact k G μ H σ Step.refl rh rs
theorem RetS.nx {K : PySem.W.Frag} {mg : MgX} {D : Ends} {G H : Hp} {μ : Mu} {σA : Sl} {h : AHp} {σ : L2.St} (k : RetS K mg Wx D G μ H (some (.nx σA, h))) (rh : RelH K mg G μ h H) (rs : RelS K mg G μ σA σ) : D.nx σ H := by
  obtain ⟨r, h', e, k⟩ := k
  cases e
  exact k G μ H σ Step.refl rh rs
theorem RetS.swap {K : PySem.W.Frag} {mg : MgX} {D : Ends} {G H : Hp} {μ : Mu} {r : RS} {h' : AHp} {nx' : L2.St → Hp → Prop} (hr : ∀ σ, r ≠ .nx σ) (k : RetS K mg Wx D G μ H (some (r, h'))) : RetS K mg Wx { D with nx := nx' } G μ H (some (r, h')) := by
  obtain ⟨r', h1, e, k⟩ := k
  cases e
  refine ⟨r, h', rfl, ?_⟩
  cases r with
  | nx σ => exact absurd rfl (hr σ)
  | rt w => exact k
  | bk σ => exact k
  | ct σ => exact k
  | exc σ c fs => exact k
theorem t_seq {K : PySem.W.Frag} {mg : MgX} {D : Ends} {σ : L2.St} {H : Hp} (q : tS K mg Wx (mSeq m n) D σ H) : tSeq (tS K mg Wx m) (tS K mg Wx n) D σ H := by
  obtain ⟨G, μ, σA, h, rs, rh, k⟩ := q
  refine ⟨G, μ, σA, h, rs, rh, ?_⟩
  unfold mSeq at k
  cases q : m σA h with
  | none => rw [q] at k; obtain ⟨_, _, e, _⟩ := k; cases e
  | some z =>
    obtain ⟨r, h1⟩ := z
    rw [q] at k
    cases r with
    | nx σ1 => exact ⟨_, _, rfl, fun G' μ' H' σ' s rh' rs' => ⟨G', μ', σ1, h1, rs', rh', RetS.step s k⟩⟩
    | rt w => exact RetS.swap (fun _ z => nomatch z) k
    | bk σ => exact RetS.swap (fun _ z => nomatch z) k
    | ct σ => exact RetS.swap (fun _ z => nomatch z) k
    | exc σ c fs => exact RetS.swap (fun _ z => nomatch z) k
theorem pmss_cons (h1 : PMS Wx X st m) (h2 : PMSs Wx X rest n) : PMSs Wx X (st :: rest) (mSeq m n) := pss_imp (pss_cons h1 h2) fun _ _ _ => t_seq
theorem pmss_one (h1 : PMS Wx X st m) : PMSs Wx X [st] m := pss_one h1
def mExpr (me : ME) : MS := fun σ => mThen (me σ) σ fun _ => mSkip σ
theorem pms_expr (he : PM Wx X e me) (hs : swapsWith e none pos.line X.env = pure false := by rfl) : PMS Wx X (.Expr e pos) (mExpr me) := ps_imp (ps_expr he hs) fun D σ H ⟨G, μ, σA, h, rs, rh, k⟩ =>
  ⟨G, μ, σA, h, rs, rh, (RetS.then rs k).imp fun w G1 μ1 h1 H1 s1 rh1 k1 v rv => k1.nx rh1 (rs.mono s1)⟩
def mRet (me : ME) : MS := fun σ => mThen (me σ) σ fun w h => some (.rt w, h)
theorem pms_ret (he : PM Wx X e me) : PMS Wx X (.Return (some e) pos) (mRet me) := ps_imp (ps_ret he) fun D σ H ⟨G, μ, σA, h, rs, rh, k⟩ =>
  ⟨G, μ, σA, h, rs, rh, (RetS.then rs k).imp fun w G1 μ1 h1 H1 s1 rh1 k1 v rv => by
    obtain ⟨r, h', e, k2⟩ := k1
    cases e
    exact k2 _ _ _ _ Step.refl rh1 rv⟩
def mIfS (t : MT) (m n : MS) : MS := fun σ => mThen (t σ) σ fun b => if b then m σ else n σ
theorem pms_if {c : Expr} (hc : PMT Wx X c t) (h1 : PMSs Wx X sts m) (h2 : PMSs Wx X sts' n) : PMS Wx X (.If c sts sts' pos) (mIfS t m n) := ps_imp (ps_if hc h1 h2) fun D σ H ⟨G, μ, σA, h, rs, rh, k⟩ =>
  ⟨G, μ, σA, h, rs, rh, (RetS.then rs k).imp fun b G1 μ1 h1 H1 s1 rh1 k1 => by
    cases b with
    | true => exact ⟨G1, μ1, σA, h1, rs.mono s1, rh1, k1⟩
    | false => exact ⟨G1, μ1, σA, h1, rs.mono s1, rh1, k1⟩⟩
abbrev MG := W → Sl → Option Sl
def tG (K : PySem.W.Frag) (mg : MgX) (is : List Nat) (t : MG) : TG := fun v σ H Q => ∃ G μ σA h w σ1, RelS K mg G μ σA σ ∧ RelH K mg G μ h H ∧ RepW K mg G μ w v ∧ t w σA = some σ1 ∧ ∀ σ', RelS K mg G μ σ1 σ' → (∀ j, j ∉ is → σ'[j]? = σ[j]?) → σ'.length = σ.length → Q σ' H
def mgName (i : Nat) : MG := fun w σ => if i < σ.length then some (σ.set i (some w)) else none
theorem RelS.set {K : PySem.W.Frag} {mg : MgX} {G : Hp} {μ : Mu} {σA : Sl} {σ : L2.St} {i : Nat} {w : W} {v : V} (rs : RelS K mg G μ σA σ) (r : RepW K mg G μ w v) : RelS K mg G μ (σA.set i (some w)) (σ.set i (some v)) := by
  refine ⟨by simp [rs.1], fun j w' e => ?_⟩
  by_cases hj : i = j
  · subst hj
    by_cases hl : i < σA.length
    · rw [List.getElem?_set_self hl] at e
      cases e
      rw [List.getElem?_set_self (by rw [← rs.1]; exact hl)]
      exact ⟨v, rfl, r⟩
    · rw [List.getElem?_eq_none (by simp; omega)] at e
      cases e
  · rw [List.getElem?_set_ne hj] at e ⊢
    exact rs.2 j w' e
theorem pmg_name {i : Nat} {tg : Expr} (h : PG X tg (gName i)) : PG X tg (tG X.K X.mgx [i] (mgName i)) := ⟨fun pins s σ H v u Q I rv q => h.run pins s σ H v u Q I rv (by
  obtain ⟨G, μ, σA, h, w, σ1, rs, rh, r, e, k⟩ := q
  unfold mgName at e
  split at e
  · cases e
    exact k _ (rs.set r) (fun j hj => List.getElem?_set_ne (fun z => hj (by simp [z]))) (by simp)
  · cases e)⟩
def mAsg (me : ME) (t : MG) : MS := fun σ => mThen (me σ) σ fun w h => match t w σ with | some σ1 => some (.nx σ1, h) | none => none
theorem pms_asg {tg : Expr} {is : List Nat} {g : MG} (he : PM Wx X e me) (hg : PG X tg (tG X.K X.mgx is g)) (hs : swapsWithSole [tg] e pos.line X.env = pure false := by rfl) (hw : swappedStores [tg] e X.env = pure none := by rfl) (h1 : (assignEach [tg] X.env).map (·.2) = [assign tg X.env] := by rfl) : PMS Wx X (.Assign [tg] e pos) (mAsg me g) :=
  ps_imp (ps_asg he hg hs hw h1) fun D σ H ⟨G, μ, σA, h, rs, rh, k⟩ => ⟨G, μ, σA, h, rs, rh, (RetS.then rs k).imp fun w G1 μ1 h1 H1 s1 rh1 k1 v rv => by
    cases q : g w σA with
    | none => rw [q] at k1; obtain ⟨_, _, e, _⟩ := k1; cases e
    | some σ1 =>
      rw [q] at k1
      exact ⟨G1, μ1, σA, h1, w, σ1, rs.mono s1, rh1, rv, q, fun σ' rs' _ _ => k1.nx rh1 rs'⟩⟩
end
end PM

end
section
set_option Elab.async false
set_option linter.all false
set_option maxRecDepth 100000
set_option maxHeartbeats 4000000
namespace PM
open PySem PySem.Spec PyProof.Rows L2
open Evl (Ex)
section
variable {X : Cx} {Wx : WX} {e : Expr} {me : ME} {pos pos' : Pos}
theorem pms_set {i : Nat} {x : Str} (hN : X.N.Nodup) (hi : X.N[i]? = some x) (hx : Loc X.env.scope x) (he : PM Wx X e me) (hs : swapsWith e (some (.Name x pos')) pos.line X.env = pure false := by rfl) (hf : X.fn x = true ∨ X.env.scope.names.lookup x = some .local := by first | exact .inl rfl | exact .inr rfl | assumption) :
    PMS Wx X (.Assign [.Name x pos'] e pos) (mAsg me (mgName i)) := ps_imp (ps_set hN hi hx he hs hf) fun D σ H ⟨G, μ, σA, h, rs, rh, k⟩ => ⟨G, μ, σA, h, rs, rh, (RetS.then rs k).imp fun w G1 μ1 h1 H1 s1 rh1 k1 v rv => by
    cases q : mgName i w σA with
    | none => rw [q] at k1; obtain ⟨_, _, e, _⟩ := k1; cases e
    | some σ1 =>
      rw [q] at k1
      unfold mgName at q
      split at q
      · cases q
        exact k1.nx rh1 ((rs.mono s1).set rv)
      · cases q⟩
abbrev MGs := List W → Sl → Option Sl
def tGs (K : PySem.W.Frag) (mg : MgX) (is : List Nat) (t : MGs) : TGs := fun vs σ H Q => ∃ G μ σA h ws σ1, RelS K mg G μ σA σ ∧ RelH K mg G μ h H ∧ RepWs K mg G μ ws vs ∧ t ws σA = some σ1 ∧ ∀ σ', RelS K mg G μ σ1 σ' → (∀ j, j ∉ is → σ'[j]? = σ[j]?) → σ'.length = σ.length → Q σ' H
theorem pg_imp {tg : Expr} {t u : TG} (p : PG X tg t) (i : ∀ v σ H Q, u v σ H Q → t v σ H Q) : PG X tg u := ⟨fun pins s σ H v u Q I r q => p.run pins s σ H v u Q I r (i v σ H Q q)⟩
theorem pgs_imp {tg : List Expr} {t u : TGs} (p : PGs X tg t) (i : ∀ v σ H Q, u v σ H Q → t v σ H Q) : PGs X tg u := ⟨fun pins s σ H v u Q I r q => p.run pins s σ H v u Q I r (i v σ H Q q)⟩
def mgNil : MGs := fun ws σ => match ws with | [] => some σ | _ => none
def mgCons (t : MG) (u : MGs) : MGs := fun ws σ => match ws with | w :: r => (t w σ).bind fun σ1 => u r σ1 | [] => none
theorem pmgs_nil : PGs X [] (tGs X.K X.mgx [] mgNil) := pgs_imp pgs_nil fun vs σ H Q ⟨G, μ, σA, h, ws, σ1, rs, rh, r, e, k⟩ => by
  unfold mgNil at e
  split at e
  · cases e
    cases r
    exact ⟨rfl, k _ rs (fun _ _ => rfl) rfl⟩
  · cases e
theorem pmgs_cons {tg : Expr} {tgs : List Expr} {is js : List Nat} {t : MG} {u : MGs} (h1 : PG X tg (tG X.K X.mgx is t)) (h2 : PGs X tgs (tGs X.K X.mgx js u)) (h3 : ∀ t u, PG X tg t → PGs X tgs u → PGs X (tg :: tgs) (gCons t u)) : PGs X (tg :: tgs) (tGs X.K X.mgx (is ++ js) (mgCons t u)) :=
  pgs_imp (h3 _ _ h1 h2) fun vs σ H Q ⟨G, μ, σA, h, ws, σ1, rs, rh, r, e, k⟩ => by
    unfold mgCons at e
    split at e
    · rename_i w wr
      cases r with
      | cons r1 r2 =>
        cases q : t w σA with
        | none => rw [q] at e; cases e
        | some σ2 =>
          rw [q] at e
          exact ⟨_, _, rfl, G, μ, σA, h, w, σ2, rs, rh, r1, q, fun σ' rs' hs hl => ⟨G, μ, σ2, h, wr, σ1, rs', rh, r2, e, fun σ3 rs3 hs3 hl3 => k σ3 rs3 (fun j hj => (hs3 j fun z => hj (List.mem_append_right _ z)).trans (hs j fun z => hj (List.mem_append_left _ z))) (hl3.trans hl)⟩⟩
    · cases e
def mgTup (t : MGs) (n : Nat) : MG := fun w σ => match tupOf w with | some ds => if ds.length = n then t (ds.map .d) σ else none | none => none
theorem pmg_tup {es : List Expr} {k n : Nat} {is : List Nat} {t : MGs} (hc : X.calm = true) (h : PGs X es (tGs X.K X.mgx is t)) (hn : (assignEach es X.env).length = n := by rfl) (hst : (assignEach es X.env).findIdx? (·.1) = none := by rfl) :
    PG X (.Tuple es k pos) (tG X.K X.mgx is (mgTup t n)) := pg_imp (pg_tup hc h hn hst) fun v σ H Q ⟨G, μ, σA, h, w, σ1, rs, rh, r, e, k⟩ => by
  unfold mgTup at e
  split at e
  · rename_i ds e1
    split at e
    · rename_i c
      obtain ⟨a, vs, rfl, s1, s2, r1⟩ := tup_at rh r e1
      exact ⟨a, vs, rfl, s1, by rw [← r1.length]; exact c, G, μ, σA, h, _, σ1, rs, rh, repWs_of r1, e, k⟩
    · cases e
  · cases e
def Feeds (K : PySem.W.Frag) (mg : MgX) (G : Hp) (μ : Mu) (H : Hp) (J : It) (ws : List W) : Prop := ∀ G1 μ1 h1 H1, Ex G G1 → RelH K mg G1 μ1 h1 H1 → ∀ i,
  (∀ w, ws[i]? = some w → J.go i H1 ∧ ∀ x H2, J.yld i H1 x H2 → ∃ G2, Step G1 μ1 H1 G2 μ1 H2 ∧ RelH K mg G2 μ1 h1 H2 ∧ RepW K mg G2 μ1 w x) ∧ (ws.length ≤ i → J.stop i H1)
abbrev MI := Sl → M (List W)
def tI (K : PySem.W.Frag) (mg : MgX) (Wx : WX) (m : MI) : TI := fun σ H R => ∃ G μ σA h, RelS K mg G μ σA σ ∧ RelH K mg G μ h H ∧
  Ret K mg G μ H (m σA h) (fun ws G' μ' _ H' => ∀ J, Feeds K mg G' μ' H' J ws → R J H') (fun cls d H' => Wx cls d σ H')
def mLoop (t : MG) (body : MS) : List W → MS
  | [] => fun σ h => some (.nx σ, h)
  | w :: r => fun σ h => match t w σ with
    | none => none
    | some σ1 => match body σ1 h with
      | some (.nx σ2, h2) => mLoop t body r σ2 h2
      | some (.ct σ2, h2) => mLoop t body r σ2 h2
      | some (.bk σ2, h2) => some (.nx σ2, h2)
      | x => x
def mFor (mi : MI) (t : MG) (body : MS) : MS := fun σ => mThen (mi σ) σ fun ws => mLoop t body ws σ
theorem pi_imp {tg it : Expr} {t u : TI} (p : PI X tg it t) (i : ∀ σ H R, u σ H R → t σ H R) : PI X tg it u := ⟨fun pins s σ H R I q => p.run pins s σ H R I (i σ H R q)⟩
theorem pms_for {tg iter : Expr} {body : List Stmt} {mi : MI} {is : List Nat} {t : MG} {m : MS} (hp : PassesOwn (model X.prog X.w) X.A X.env X.xe) (hc : X.calm = true) (hi : PI X tg iter (tI X.K X.mgx Wx mi)) (hg : PG X tg (tG X.K X.mgx is t)) (hb : PMSs Wx X body m)
    (hs : ∀ x, foldedSetIterable iter X.env x = pure x := by intro _; rfl) : PMS Wx X (.For tg iter body [] pos) (mFor mi t m) := ps_imp (ps_for hp hc hi hg hb hs) fun D σ H ⟨G, μ, σA, h, rs, rh, k⟩ => by
  refine ⟨G, μ, σA, h, rs, rh, (RetS.then rs k).imp fun ws G1 μ1 h1 H1 s1 rh1 k1 J fd => ?_⟩
  refine ⟨fun i mm σ' H' => mm = ws.length - i ∧ ∃ G2 μ2 σ2 h2, Step G1 μ1 H1 G2 μ2 H' ∧ RelS X.K X.mgx G2 μ2 σ2 σ' ∧ RelH X.K X.mgx G2 μ2 h2 H' ∧ RetS X.K X.mgx Wx D G2 μ2 H' (mLoop t m (ws.drop i) σ2 h2), ⟨_, rfl, G1, μ1, σA, h1, Step.refl, rs.mono s1, rh1, k1⟩, ?_⟩
  rintro i mm σ' H' ⟨rfl, G2, μ2, σ2, h2, s2, rs2, rh2, k2⟩
  by_cases hi : i < ws.length
  · have ew : ws[i]? = some ws[i] := List.getElem?_eq_getElem hi
    obtain ⟨f1, _⟩ := fd G2 μ2 h2 H' s2.g rh2 i
    obtain ⟨go, yl⟩ := f1 _ ew
    have ed : ws.drop i = ws[i] :: ws.drop (i + 1) := List.drop_eq_getElem_cons hi
    rw [ed] at k2
    refine .inr ⟨go, fun σ3 H3 => ∃ G3 μ3 σ3' h3, Step G1 μ1 H1 G3 μ3 H3 ∧ RelS X.K X.mgx G3 μ3 σ3' σ3 ∧ RelH X.K X.mgx G3 μ3 h3 H3 ∧ RetS X.K X.mgx Wx D G3 μ3 H3 (mLoop t m (ws.drop (i + 1)) σ3' h3), fun σ3 H3 z => ⟨ws.length - (i + 1), by omega, rfl, z⟩, fun x H3 y => ?_⟩
    obtain ⟨G3, s3, rh3, rw3⟩ := yl x H3 y
    unfold mLoop at k2
    cases q : t ws[i] σ2 with
    | none => rw [q] at k2; obtain ⟨_, _, e, _⟩ := k2; cases e
    | some σ4 =>
      rw [q] at k2
      refine ⟨G3, μ2, σ2, h2, ws[i], σ4, rs2.mono s3, rh3, rw3, q, fun σ5 rs5 _ _ => ⟨G3, μ2, σ4, h2, rs5, rh3, ?_⟩⟩
      have k3 := RetS.step s3 k2
      dsimp only at k3
      cases q2 : m σ4 h2 with
      | none => rw [q2] at k3; obtain ⟨_, _, e, _⟩ := k3; cases e
      | some z =>
        obtain ⟨r, h5⟩ := z
        rw [q2] at k3
        cases r with
        | nx σ6 => exact ⟨_, _, rfl, fun G' μ' H' σ7 s7 rh7 rs7 => ⟨G', μ', σ6, h5, (s2.trans s3).trans s7, rs7, rh7, RetS.step s7 k3⟩⟩
        | ct σ6 => exact ⟨_, _, rfl, fun G' μ' H' σ7 s7 rh7 rs7 => ⟨G', μ', σ6, h5, (s2.trans s3).trans s7, rs7, rh7, RetS.step s7 k3⟩⟩
        | bk σ6 =>
          obtain ⟨_, _, e, k4⟩ := k3
          cases e
          exact ⟨_, _, rfl, k4⟩
        | rt w =>
          obtain ⟨_, _, e, k4⟩ := k3
          cases e
          exact ⟨_, _, rfl, k4⟩
        | exc σ6 c fs =>
          obtain ⟨_, _, e, k4⟩ := k3
          cases e
          exact ⟨_, _, rfl, k4⟩
  · obtain ⟨_, st⟩ := fd G2 μ2 h2 H' s2.g rh2 i
    rw [List.drop_eq_nil_of_le (by omega)] at k2
    exact .inl ⟨st (by omega), RetS.nx k2 rh2 rs2⟩
end
end PM

end
section
set_option Elab.async false
set_option linter.all false
set_option maxRecDepth 100000
set_option maxHeartbeats 4000000
namespace PM
open PySem PySem.Spec PyProof.Rows L2
open Evl (Ex)
section
variable {X : Cx} {Wx : WX} {tg e : Expr} {me : ME} {pos p : Pos}
def iSeq (K : PySem.W.Frag) (tl : TE) : TI := fun σ H R => tl σ H fun x H1 => (∃ a, x = .ref a ∧ (∃ xs, SqL K H1 a xs) ∧ R (Itl K a) H1) ∨ (∃ a, x = .ref a ∧ (∃ xs, SqT K H1 a xs) ∧ R (Itt K a) H1) ∨ ∃ y, x = .str y ∧ R (Its y) H1
theorem pi_seq {l : Expr} {tl : TE} (hl : PE X l tl) : PI X tg l (iSeq X.K tl) := by
  refine ⟨fun pins s σ H R I h => ?_⟩
  refine thn (hl.run pins s σ H _ I h) fun v s1 ⟨x, H1, I1, r1, q1⟩ => ?_
  rcases q1 with ⟨a, e, ⟨xs, hq⟩, q⟩ | ⟨a, e, ⟨xs, hq⟩, q⟩ | ⟨x, ex, q⟩
  · subst e
    cases r1
    obtain ⟨its, rv, p, hz⟩ := I1.list hq
    refine wpAny_pyIter_list p.isList ?_
    refine ⟨s1.heap.objs.size, [s1.heap.objs.size], _, _, H1, rfl, I1.kept (t' := s1.toks) fun b o e => Heap.get?_push_of_some _ e, turn_list a _, ⟨_, Heap.get?_push_size _ rfl, rfl, rfl⟩, fun b hb => ?_, q⟩
    have e : b = s1.heap.objs.size := by simpa using hb
    subst e
    exact I1.fpOk (Nat.le_refl _) (I1.hok.fresh (Nat.le_refl _))
  · subst e
    cases r1
    obtain ⟨its, rv, p, hz⟩ := I1.tuple hq
    refine wpAny_pyIter_tuple (show s1.heap.IsTuple a its.toArray from p) ?_
    refine ⟨s1.heap.objs.size, [s1.heap.objs.size], _, _, H1, rfl, I1.kept (t' := s1.toks) fun b o e => Heap.get?_push_of_some _ e, turn_tuple a _, ⟨_, Heap.get?_push_size _ rfl, rfl, rfl⟩, fun b hb => ?_, q⟩
    have e : b = s1.heap.objs.size := by simpa using hb
    subst e
    exact I1.fpOk (Nat.le_refl _) (I1.hok.fresh (Nat.le_refl _))
  · subst ex
    obtain ⟨t, rfl⟩ := r1
    cases ha : x.cps.all (· < 128)
    · exact wpAny_pyIter_wide ha (pi_one (tk := s1.toks) I1 _ (turn_str _ x t "str_iterator" (.inr rfl)) ⟨_, Heap.get?_push_size _ rfl, rfl, rfl⟩ q)
    · exact wpAny_pyIter_ascii ha (pi_one (tk := s1.toks) I1 _ (turn_str _ x t "str_ascii_iterator" (.inl rfl)) ⟨_, Heap.get?_push_size _ rfl, rfl, rfl⟩ q)
def itemsOf : W → Option (List W)
  | .d (.lst ds) => some (ds.map .d)
  | .d (.tup ds) => some (ds.map .d)
  | .d (.str x) => some (x.cps.toList.map fun c => .d (.str ⟨#[c]⟩))
  | _ => none
def mItems (me : ME) : MI := fun σ => mBind (me σ) fun w => mOf (itemsOf w)
theorem get_map_d {ds : List D} {i : Nat} {w : W} (h : (ds.map W.d)[i]? = some w) : ∃ d, ds[i]? = some d ∧ w = .d d := by
  rw [List.getElem?_map] at h
  cases q : ds[i]? with
  | none => rw [q] at h; cases h
  | some d => rw [q] at h; cases h; exact ⟨d, rfl, rfl⟩
theorem feeds_l {K : PySem.W.Frag} {mg : MgX} {G H : Hp} {μ : Mu} {a : Addr} {vs : List V} {ds : List D} (hg : G a = some (.lst vs)) (r : RepL K mg.f G ds vs) : Feeds K mg G μ H (Itl K a) (ds.map .d) := fun G1 μ1 h1 H1 s rh i => by
  have hs : H1 a = some (.lst vs) := rh.ex _ _ (s _ _ hg)
  have sq : SqL K H1 a vs := Evl.sq_of hs
  refine ⟨fun w ew => ?_, fun hl => ⟨vs, sq, by rw [← r.length]; simpa using hl⟩⟩
  obtain ⟨d, ed, rfl⟩ := get_map_d ew
  obtain ⟨v, ev, rv⟩ := r.get ed
  refine ⟨⟨vs, v, sq, ev⟩, fun x H2 ⟨e2, y⟩ => ?_⟩
  subst e2
  have : vs[i]? = some x := y vs sq
  rw [ev] at this
  cases this
  exact ⟨G1, Step.refl, rh, rv.mono s⟩
theorem feeds_t {K : PySem.W.Frag} {mg : MgX} {G H : Hp} {μ : Mu} {a : Addr} {vs : List V} {ds : List D} (hg : SqT K G a vs) (r : RepL K mg.f G ds vs) : Feeds K mg G μ H (Itt K a) (ds.map .d) := fun G1 μ1 h1 H1 s rh i => by
  have sq : SqT K H1 a vs := Evl.ex_t rh.ex (Evl.ex_t s hg)
  refine ⟨fun w ew => ?_, fun hl => ⟨vs, sq, by rw [← r.length]; simpa using hl⟩⟩
  obtain ⟨d, ed, rfl⟩ := get_map_d ew
  obtain ⟨v, ev, rv⟩ := r.get ed
  refine ⟨⟨vs, v, sq, ev⟩, fun x H2 ⟨e2, y⟩ => ?_⟩
  subst e2
  have : vs[i]? = some x := y vs sq
  rw [ev] at this
  cases this
  exact ⟨G1, Step.refl, rh, rv.mono s⟩
theorem feeds_s {K : PySem.W.Frag} {mg : MgX} {G H : Hp} {μ : Mu} {x : Str} : Feeds K mg G μ H (Its x) (x.cps.toList.map fun c => .d (.str ⟨#[c]⟩)) := fun G1 μ1 h1 H1 s rh i => by
  refine ⟨fun w ew => ?_, fun hl => by show x.cps.size ≤ i; simpa using hl⟩
  rw [List.getElem?_map] at ew
  cases q : x.cps.toList[i]? with
  | none => rw [q] at ew; cases ew
  | some c =>
    rw [q] at ew
    cases ew
    refine ⟨by have := (List.getElem?_eq_some_iff.mp q).1; show i < x.cps.size; simpa using this, fun v H2 ⟨e2, c', ec, ev⟩ => ?_⟩
    subst e2 ev
    rw [← Array.getElem?_toList, q] at ec
    cases ec
    exact ⟨G1, Step.refl, rh, .str _⟩
theorem pmi_seq (he : PM Wx X e me) : PI X tg e (tI X.K X.mgx Wx (mItems me)) := pi_imp (pi_seq he) fun σ H R ⟨G, μ, σA, h, rs, rh, k⟩ => ⟨G, μ, σA, h, rs, rh, k.bind.imp fun w G1 μ1 h1 H1 s1 rh1 k1 v rv => by
  obtain ⟨ws, e, k2⟩ := k1.of rh1
  unfold itemsOf at e
  split at e
  · cases e
    cases rv with
    | lst s r => exact .inl ⟨_, rfl, ⟨_, Evl.sq_of (rh1.ex _ _ s)⟩, k2 _ (feeds_l s r)⟩
  · cases e
    cases rv with
    | tup s r => exact .inr (.inl ⟨_, rfl, ⟨_, Evl.ex_t rh1.ex s⟩, k2 _ (feeds_t s r)⟩)
  · cases e
    cases rv
    exact .inr (.inr ⟨_, rfl, k2 _ feeds_s⟩)
  · cases e⟩
def rngW (lo : Int) (n : Nat) : List W := (List.range n).map fun i => .d (.int (lo + (i : Nat)))
theorem feeds_r {K : PySem.W.Frag} {mg : MgX} {G H : Hp} {μ : Mu} {lo : Int} {n : Nat} : Feeds K mg G μ H (Itr lo n) (rngW lo n) := fun G1 μ1 h1 H1 s rh i => by
  refine ⟨fun w ew => ?_, fun hl => by show n ≤ i; simpa [rngW] using hl⟩
  unfold rngW at ew
  rw [List.getElem?_map] at ew
  cases q : (List.range n)[i]? with
  | none => rw [q] at ew; cases ew
  | some c =>
    rw [q] at ew
    cases ew
    obtain ⟨hl, ec⟩ := List.getElem?_eq_some_iff.mp q
    rw [List.getElem_range] at ec
    subst ec
    refine ⟨by show i < n; simpa using hl, fun v H2 ⟨e2, ev⟩ => ?_⟩
    subst e2 ev
    exact ⟨G1, Step.refl, rh, .int _⟩
def mRng1 (m : MA) : MI := fun σ => mBind (m σ) fun ws => mOf (match ws with | [.d (.int j)] => if -(2 ^ 62) ≤ j ∧ j < 2 ^ 62 then some (rngW 0 j.toNat) else none | _ => none)
def mRng2 (m : MA) : MI := fun σ => mBind (m σ) fun ws => mOf (match ws with | [.d (.int i), .d (.int j)] => if -(2 ^ 62) ≤ i ∧ i < 2 ^ 62 ∧ -(2 ^ 62) ≤ j ∧ j < 2 ^ 62 then some (rngW i (j - i).toNat) else none | _ => none)
theorem pmi_rng1 {a : Expr} {m : MA} (hg : Gl X "range") (hm : X.mg "range" = none) (ha : PMA Wx X [a] m) (hs : starEach [a] X.env = [(false, eval a X.env)] := by rfl) : PI X tg (.Call (.Name "range" p) [a] [] pos) (tI X.K X.mgx Wx (mRng1 m)) :=
  pi_imp (pi_range1 hg hm ha hs) fun σ H R ⟨G, μ, σA, h, rs, rh, k⟩ => ⟨G, μ, σA, h, rs, rh, k.bind.imp fun ws G1 μ1 h1 H1 s1 rh1 k1 vs rv => by
    obtain ⟨ws', e, k2⟩ := k1.of rh1
    split at e
    · split at e
      · rename_i c
        cases e
        cases rv with
        | cons r1 r2 =>
          cases r2
          cases r1
          exact ⟨_, rfl, c.1, c.2, k2 _ feeds_r⟩
      · cases e
    · cases e⟩
theorem pmi_rng2 {a b : Expr} {m : MA} (hg : Gl X "range") (hm : X.mg "range" = none) (ha : PMA Wx X [a, b] m) (hq : ∀ ta, PA X [a, b] ta → PI X tg (.Call (.Name "range" p) [a, b] [] pos) (iRng2 ta)) : PI X tg (.Call (.Name "range" p) [a, b] [] pos) (tI X.K X.mgx Wx (mRng2 m)) :=
  pi_imp (hq _ ha) fun σ H R ⟨G, μ, σA, h, rs, rh, k⟩ => ⟨G, μ, σA, h, rs, rh, k.bind.imp fun ws G1 μ1 h1 H1 s1 rh1 k1 vs rv => by
    obtain ⟨ws', e, k2⟩ := k1.of rh1
    split at e
    · split at e
      · rename_i c
        cases e
        cases rv with
        | cons r1 r2 =>
          cases r2 with
          | cons r2 r3 =>
            cases r3
            cases r2
            cases r1
            exact ⟨_, _, rfl, c, k2 _ feeds_r⟩
      · cases e
    · cases e⟩
end
end PM

end
section
set_option Elab.async false
set_option linter.all false
set_option maxRecDepth 100000
set_option maxHeartbeats 4000000
namespace PM
open PySem PySem.Spec PyProof.Rows L2
open Evl (Ex)
section
variable {K : PySem.W.Frag} {mg : MgX} {G G' H H' : Hp} {μ : Mu} {h : AHp} {a : Nat} {q : Addr × Addr}
theorem AOk.same {o : AO} (e1 : H' q.1 = H q.1) (e2 : H' q.2 = H q.2) (k : AOk K mg G μ H q o) : AOk K mg G μ H' q o := by
  cases o with
  | dead => trivial
  | lst ws => obtain ⟨vs, a, b⟩ := k; exact ⟨vs, e1.trans a, b⟩
  | dct ks ws =>
    obtain ⟨vs, a, b⟩ := k
    refine ⟨vs, ?_, b⟩
    rcases a with ⟨kk, a1, a2, a3⟩ | ⟨xs, a1, a2⟩
    · exact .inl ⟨kk, a1, a2, e1.trans a3⟩
    · exact .inr ⟨xs, e1.trans a1, a2⟩
  | rol ws =>
    obtain ⟨vs, a, b⟩ := k
    refine ⟨vs, ?_, b⟩
    rcases a with (a | ⟨o, a⟩) | a
    · exact .inl (.inl (e1.trans a))
    · exact .inl (.inr ⟨o, e1.trans a⟩)
    · exact .inr a
  | inst c fs =>
    obtain ⟨C, vs, m, b, l, n, r⟩ := k
    refine ⟨C, vs, m, ?_, l, n, r⟩
    rcases b with ⟨b, z⟩ | ⟨b, z⟩
    · exact .inl ⟨e1.trans b, z⟩
    · exact .inr ⟨e1.trans b, e2.trans z⟩
theorem set_get {o o' : AO} {i : Nat} (e : (h.set a o')[i]? = some o) : (i = a ∧ o = o') ∨ (i ≠ a ∧ h[i]? = some o) := by
  by_cases z : i = a
  · subst z
    rw [List.getElem?_set] at e
    simp at e
    exact .inl ⟨rfl, e.2.symm⟩
  · rw [List.getElem?_set_ne (Ne.symm z)] at e
    exact .inr ⟨z, e⟩
theorem RelH.poke {o o' : AO} (rh : RelH K mg G μ h H) (e1 : μ[a]? = some q) (e2 : h[a]? = some o) (nd : o ≠ .dead) (hH : ∀ p, p ≠ q.1 → p ≠ q.2 → H' p = H p) (ht : (∃ u, H' q.1 = some u) ∧ ∃ u, H' q.2 = some u) (new : AOk K mg G μ H' q o') :
    RelH K mg G μ (h.set a o') H' ∧ Step G μ H G μ H' := by
  have hm := List.mem_of_getElem? e1
  obtain ⟨g1, g2⟩ := rh.free a o q e1 e2 nd
  have st : ∀ p u, H p = some u → ∃ u', H' p = some u' := fun p u hp => by
    by_cases z1 : p = q.1
    · rw [z1]; exact ht.1
    · by_cases z2 : p = q.2
      · rw [z2]; exact ht.2
      · exact ⟨u, (hH p z1 z2).trans hp⟩
  have s : Step G μ H G μ H' := ⟨Ex.refl G, ⟨[], by simp, by simp⟩, fun p u hp hn => (hH p (fun z => hn ⟨q, hm, .inl z⟩) (fun z => hn ⟨q, hm, .inr z⟩)).trans hp, st, fun _ _ _ _ hg => hg⟩
  refine ⟨⟨fun p u hp => ?_, by simp [rh.len], rh.sep, fun i oi r a1 a2 a3 => ?_, fun r hr => ?_, fun i oi r a1 a2 => ?_⟩, s⟩
  · exact (hH p (fun z => by rw [z, g1] at hp; cases hp) (fun z => by rw [z, g2] at hp; cases hp)).trans (rh.ex p u hp)
  · rcases set_get a2 with ⟨rfl, rfl⟩ | ⟨z, a4⟩
    · rw [e1] at a1; cases a1; exact ⟨g1, g2⟩
    · exact rh.free i oi r a1 a4 a3
  · obtain ⟨⟨o1, z1⟩, o2, z2⟩ := rh.there r hr
    exact ⟨st _ _ z1, st _ _ z2⟩
  · rcases set_get a2 with ⟨rfl, rfl⟩ | ⟨z, a4⟩
    · rw [e1] at a1; cases a1; exact new
    · obtain ⟨n1, n2, n3, n4⟩ := rh.sep i a r q a1 e1 z
      exact (rh.ok i oi r a1 a4).same (hH _ n1 n2) (hH _ n3 n4)
theorem RelH.write {ws ws' : List W} {vs' : List V} (rh : RelH K mg G μ h H) (e1 : μ[a]? = some q) (e2 : h[a]? = some (.lst ws)) (r : RepWs K mg G μ ws' vs') : RelH K mg G μ (h.set a (.lst ws')) (upd H q.1 (.lst vs')) ∧ Step G μ H G μ (upd H q.1 (.lst vs')) := by
  refine rh.poke e1 e2 (fun z => nomatch z) (fun p z1 _ => upd_ne z1) ⟨⟨_, upd_same⟩, ?_⟩ ⟨vs', upd_same, r⟩
  by_cases z : q.2 = q.1
  · rw [z]; exact ⟨_, upd_same⟩
  · rw [upd_ne z]; exact (rh.there q (List.mem_of_getElem? e1)).2
theorem RelH.freeze {o : AO} {u : HO} (rh : RelH K mg G μ h H) (e1 : μ[a]? = some q) (e2 : h[a]? = some o) (nd : o ≠ .dead) (eg : Ex G G') (eh : Ex G' H) (hG : ∀ p, p ≠ q.1 → p ≠ q.2 → G' p = G p) :
    RelH K mg G' μ (h.set a .dead) H ∧ Step G μ H G' μ H := by
  have hm := List.mem_of_getElem? e1
  have s : Step G μ H G' μ H := ⟨eg, ⟨[], by simp, by simp⟩, fun _ _ hp _ => hp, fun _ o hp => ⟨o, hp⟩, fun p o hp hn hg => (hG p (fun z => hn ⟨q, hm, .inl z⟩) (fun z => hn ⟨q, hm, .inr z⟩)).trans hg⟩
  refine ⟨⟨eh, by simp [rh.len], rh.sep, fun i oi r a1 a2 a3 => ?_, rh.there, fun i oi r a1 a2 => ?_⟩, s⟩
  · rcases set_get a2 with ⟨rfl, rfl⟩ | ⟨z, a4⟩
    · exact absurd rfl a3
    · obtain ⟨n1, n2, n3, n4⟩ := rh.sep i a r q a1 e1 z
      obtain ⟨y1, y2⟩ := rh.free i oi r a1 a4 a3
      exact ⟨(hG _ n1 n2).trans y1, (hG _ n3 n4).trans y2⟩
  · rcases set_get a2 with ⟨rfl, rfl⟩ | ⟨z, a4⟩
    · trivial
    · exact (rh.ok i oi r a1 a4).mono s (Ex.refl H)
theorem RelH.freezeL {ws : List W} {ds : List D} (rh : RelH K mg G μ h H) (e1 : μ[a]? = some q) (e2 : h[a]? = some (.lst ws)) (e3 : unD ws = some ds) :
    ∃ G', RelH K mg G' μ (h.set a .dead) H ∧ Step G μ H G' μ H ∧ Rep K mg.f G' (.lst ds) (.ref q.1) := by
  obtain ⟨vs, hv, r⟩ := rh.ok a _ q e1 e2
  obtain ⟨g1, g2⟩ := rh.free a _ q e1 e2 (fun z => nomatch z)
  have eg : Ex G (upd G q.1 (.lst vs)) := Ex.new g1
  obtain ⟨r1, s1⟩ := rh.freeze (u := .lst vs) (G' := upd G q.1 (.lst vs)) e1 e2 (fun z => nomatch z) eg (fun p u hp => by
    by_cases z : p = q.1
    · subst z; rw [upd_same] at hp; cases hp; exact hv
    · rw [upd_ne z] at hp; exact rh.ex p u hp) (fun p z _ => upd_ne z)
  exact ⟨_, r1, s1, .lst upd_same ((repL_of r e3).mono eg)⟩
theorem RelH.freezeO {o : AO} {u : HO} (rh : RelH K mg G μ h H) (e1 : μ[a]? = some q) (e2 : h[a]? = some o) (nd : o ≠ .dead) (hv : H q.1 = some u) :
    RelH K mg (upd G q.1 u) μ (h.set a .dead) H ∧ Step G μ H (upd G q.1 u) μ H ∧ Ex G (upd G q.1 u) := by
  obtain ⟨g1, g2⟩ := rh.free a _ q e1 e2 nd
  have eg : Ex G (upd G q.1 u) := Ex.new g1
  obtain ⟨r1, s1⟩ := rh.freeze (u := u) (G' := upd G q.1 u) e1 e2 nd eg (fun p z hp => by
    by_cases y : p = q.1
    · subst y; rw [upd_same] at hp; cases hp; exact hv
    · rw [upd_ne y] at hp; exact rh.ex p z hp) (fun p z _ => upd_ne z)
  exact ⟨r1, s1, eg⟩
end
def frzL (h : AHp) (w : W) : Option (D × AHp) := match w with
  | .ref a => match h[a]? with
    | some (.lst ws) => (unD ws).map fun ds => (.lst ds, h.set a .dead)
    | some (.dct ks ws) => (unD ws).map fun ds => (.dct ks ds, h.set a .dead)
    | _ => none
  | _ => none
theorem frzL_ok {K : PySem.W.Frag} {mg : MgX} {G H : Hp} {μ : Mu} {h h' : AHp} {w : W} {v : V} {d : D} (rh : RelH K mg G μ h H) (e : frzL h w = some (d, h')) (rv : RepW K mg G μ w v) : ∃ G', RelH K mg G' μ h' H ∧ Step G μ H G' μ H ∧ Rep K mg.f G' d v := by
  unfold frzL at e
  split at e
  · rename_i a
    obtain ⟨q, eq, rfl⟩ := rv
    split at e
    · rename_i ws e1
      cases z : unD ws with
      | none => rw [z] at e; cases e
      | some ds =>
        rw [z] at e; cases e
        exact rh.freezeL eq e1 z
    · rename_i ks ws e1
      cases z : unD ws with
      | none => rw [z] at e; cases e
      | some ds =>
        rw [z] at e; cases e
        obtain ⟨vs, dd, r⟩ := rh.ok a _ q eq e1
        rcases dd with ⟨kk, rfl, l, hk⟩ | ⟨xs, hk, rk, tk, vv⟩
        · obtain ⟨r1, s1, eg⟩ := rh.freezeO eq e1 (fun z => nomatch z) hk
          exact ⟨_, r1, s1, .dK upd_same l ((repL_of r z).mono eg)⟩
        · obtain ⟨r1, s1, eg⟩ := rh.freezeO eq e1 (fun z => nomatch z) hk
          exact ⟨_, r1, s1, .dN upd_same (rk.mono eg) tk vv ((repL_of r z).mono eg)⟩
    · cases e
  · cases e
section
variable {X : Cx} {Wx : WX} {e : Expr} {sts : List Stmt} {me : ME} {m : MS} {pos apos : Pos}
def mFrzE (me : ME) : ME := fun σ => mBind (me σ) fun w h => match frzL h w with | some (d, h') => some (.ok (.d d), h') | none => none
theorem pm_frz (he : PM Wx X e me) : PM Wx X e (mFrzE me) := pe_imp he fun σ H Q ⟨G, μ, σA, h, rs, rh, k⟩ => ⟨G, μ, σA, h, rs, rh, k.bind.imp fun w G1 μ1 h1 H1 s1 rh1 k1 v rv => by
  obtain ⟨r, h', e, k2⟩ := k1
  split at e
  · rename_i d h2 e1
    cases e
    obtain ⟨G2, r2, s2, rp⟩ := frzL_ok rh1 e1 rv
    exact k2 _ _ _ s2 r2 _ rp
  · cases e⟩
def mFrz (i : Nat) (m : MS) : MS := fun σ h => match σ[i]? with
  | some (some w) => match frzL h w with
    | some (d, h') => m (σ.set i (some (.d d))) h'
    | none => none
  | _ => none
theorem pmss_frz (i : Nat) (hm : PMSs Wx X sts m) : PMSs Wx X sts (mFrz i m) := pss_imp hm fun D σ H ⟨G, μ, σA, h, rs, rh, k⟩ => by
  unfold mFrz at k
  split at k
  · rename_i w ew
    split at k
    · rename_i d h2 e1
      obtain ⟨v, ev, rv⟩ := rs.2 i _ ew
      obtain ⟨G2, r2, s2, rp⟩ := frzL_ok rh e1 rv
      refine ⟨G2, μ, _, _, ?_, r2, k.step s2⟩
      have rs2 := (rs.mono s2).set (i := i) (w := .d d) (v := v) rp
      have es : σ.set i (some v) = σ := by
        refine List.ext_getElem? fun j => ?_
        by_cases z : i = j
        · subst z
          rw [List.getElem?_set_self (List.getElem?_eq_some_iff.mp ev).1, ev]
        · rw [List.getElem?_set_ne z]
      rw [es] at rs2
      exact rs2
    · obtain ⟨_, _, e, _⟩ := k; cases e
  · obtain ⟨_, _, e, _⟩ := k; cases e
end
end PM

end
section
set_option Elab.async false
set_option linter.all false
set_option maxRecDepth 100000
set_option maxHeartbeats 4000000
namespace PM
open PySem PySem.Spec PyProof.Rows L2
open Evl (Ex)
section
variable {K : PySem.W.Frag} {mg : MgX} {G H : Hp} {μ : Mu}
theorem RepWs.append : ∀ {ws xs : List W} {vs us : List V}, RepWs K mg G μ ws vs → RepWs K mg G μ xs us → RepWs K mg G μ (ws ++ xs) (vs ++ us)
  | _, _, _, _, .nil, s => s
  | _, _, _, _, .cons a b, s => .cons a (RepWs.append b s)
theorem RepWs.set {w : W} {v : V} (r : RepW K mg G μ w v) : ∀ {ws : List W} {vs : List V} (i : Nat), RepWs K mg G μ ws vs → RepWs K mg G μ (ws.set i w) (vs.set i v)
  | _, _, _, .nil => .nil
  | _, _, 0, .cons _ t => .cons r t
  | _, _, i + 1, .cons q t => .cons q (RepWs.set r i t)
end
section
variable {X : Cx} {Wx : WX} {o e i : Expr} {es : List Expr} {mo me mi : ME} {ma : MA} {t : MT} {m : MS} {sts : List Stmt} {pos apos : Pos}
def MethM (K : PySem.W.Frag) (mg : MgX) (r : V → List V → Hp → VK → Prop) (f : W → List W → M W) : Prop := ∀ (G : Hp) (μ : Mu) (h : AHp) (H : Hp) (x : W) (ws : List W) (v : V) (vs : List V) (Q : VK) (EX : XK), RelH K mg G μ h H → RepW K mg G μ x v → RepWs K mg G μ ws vs →
  Ret K mg G μ H (f x ws h) (fun w G' μ' _ H' => ∀ v, RepW K mg G' μ' w v → Q v H') EX → r v vs H Q
def mMethL (f : W → List W → M W) (mo : ME) (ma : MA) : ME := fun σ => mBind (mo σ) fun w h => if (lstOf h w).isSome then mBind (ma σ) (f w) h else none
theorem t_methL {K : PySem.W.Frag} {mg : MgX} {r : V → List V → Hp → VK → Prop} {f : W → List W → M W} (om : MethM K mg r f) {σ : L2.St} {H : Hp} {Q : VK} (q : tE K mg Wx (mMethL f mo ma) σ H Q) : tBM K "list" r (tE K mg Wx mo) (tA K mg Wx ma) σ H Q := by
  obtain ⟨G, μ, σA, h, rs, rh, k⟩ := q
  refine ⟨G, μ, σA, h, rs, rh, k.bind.imp fun w G1 μ1 h1 H1 s1 rh1 k1 v rv => ?_⟩
  split at k1
  · rename_i c
    obtain ⟨ws, ew⟩ := Option.isSome_iff_exists.mp c
    obtain ⟨a, vs, rfl, sq, _⟩ := lst_at rh1 rv ew
    exact ⟨.inl ⟨rfl, vs, sq⟩, G1, μ1, σA, h1, rs.mono s1, rh1, k1.bind.imp fun xs G2 μ2 h2 H2 s2 rh2 k2 us ru => om G2 μ2 h2 H2 w xs _ us Q _ rh2 (rv.mono s2) ru k2⟩
  · obtain ⟨_, _, e, _⟩ := k1; cases e
def fApp : W → List W → M W := fun w ws h => match w, ws with
  | .ref a, [x] => match h[a]? with
    | some (.lst xs) => if xs.length < sizeLine then some (.ok (.d .non), h.set a (.lst (xs ++ [x]))) else none
    | _ => none
  | _, _ => none
theorem mm_app {K : PySem.W.Frag} {mg : MgX} : MethM K mg rAppend fApp := fun G μ h H x ws v vs Q EX rh rx rws ⟨r, h', e, k⟩ => by
  unfold fApp at e
  split at e
  · rename_i a y
    split at e
    · rename_i xs e1
      split at e
      · rename_i c
        cases e
        obtain ⟨q, eq, rfl⟩ := rx
        cases rws with
        | cons r1 r2 =>
          cases r2
          obtain ⟨us, hu, ru⟩ := rh.ok _ _ q eq e1
          obtain ⟨n1, n2⟩ := rh.write eq e1 (ru.append (.cons r1 .nil))
          exact ⟨q.1, us, _, rfl, rfl, hu, by rw [← ru.length]; exact c, k _ _ _ n2 n1 _ .non⟩
      · cases e
    · cases e
  · cases e
def mPut (me mo mi : ME) : MS := fun σ => mThen (mBind (me σ) fun w => mBind (mo σ) fun x => mBind (mi σ) fun y => mPure (w, x, y)) σ fun z h => match z.2.1, z.2.2 with
  | .ref a, .d (.int k) => match h[a]? with
    | some (.lst xs) => match ixN xs.length k with
      | some j => some (.nx σ, h.set a (.lst (xs.set j z.1)))
      | none => none
    | _ => none
  | _, _ => none
theorem pms_put {p : Pos} (he : PM Wx X e me) (ho : PM Wx X o mo) (hi : PM Wx X i mi) (hps : ∀ te to ti, PE X e te → PE X o to → PE X i ti → PS X (.Assign [.Subscript o i p] e pos) (tAsg te (gSub to ti rSetL))) :
    PMS Wx X (.Assign [.Subscript o i p] e pos) (mPut me mo mi) := ps_imp (hps _ _ _ he ho hi) fun D σ H ⟨G, μ, σA, h, rs, rh, k⟩ => by
  have k0 := RetS.then rs k
  refine ⟨G, μ, σA, h, rs, rh, k0.bind.imp fun w G1 μ1 h1 H1 s1 rh1 k1 v rv => ⟨G1, μ1, σA, h1, rs.mono s1, rh1, k1.bind.imp fun x G2 μ2 h2 H2 s2 rh2 k2 u ru => ⟨G2, μ2, σA, h2, (rs.mono s1).mono s2, rh2, k2.bind.imp fun y G3 μ3 h3 H3 s3 rh3 k3 z rz => ?_⟩⟩⟩
  have k4 := Ret.pure k3 rh3
  obtain ⟨r, h', e, k5⟩ := k4
  dsimp only at e
  split at e
  · rename_i a kk
    split at e
    · rename_i xs e1
      split at e
      · rename_i j ej
        cases e
        obtain ⟨q, eq, rfl⟩ := ru.mono s3
        cases rz
        obtain ⟨us, hu, rus⟩ := rh3.ok a _ q eq e1
        obtain ⟨n1, n2⟩ := rh3.write eq e1 (rus.set ((rv.mono s2).mono s3) j)
        exact ⟨q.1, us, kk, j, rfl, rfl, hu, by rw [← rus.length]; exact ej, k5 _ _ _ σ n2 n1 ((((rs.mono s1).mono s2).mono s3).mono n2)⟩
      · cases e
    · cases e
  · cases e
def mBrk : MS := fun σ h => some (.bk σ, h)
def mCnt : MS := fun σ h => some (.ct σ, h)
theorem pms_pass : PMS Wx X (.Pass pos) mSkip := ps_imp ps_pass fun D σ H ⟨G, μ, σA, h, rs, rh, k⟩ => k.nx rh rs
theorem pms_brk : PMS Wx X (.Break pos) mBrk := ps_imp ps_break fun D σ H ⟨G, μ, σA, h, rs, rh, r, h', e, k⟩ => by
  cases e
  exact k _ _ _ σ Step.refl rh rs
theorem pms_cnt : PMS Wx X (.Continue pos) mCnt := ps_imp ps_continue fun D σ H ⟨G, μ, σA, h, rs, rh, r, h', e, k⟩ => by
  cases e
  exact k _ _ _ σ Step.refl rh rs
def mWhile (t : MT) (m : MS) : Nat → MS
  | 0 => fun _ _ => none
  | n + 1 => fun σ => mThen (t σ) σ fun b h => if b then (match m σ h with
      | some (.nx σ2, h2) => mWhile t m n σ2 h2
      | some (.ct σ2, h2) => mWhile t m n σ2 h2
      | some (.bk σ2, h2) => some (.nx σ2, h2)
      | x => x) else some (.nx σ, h)
theorem pms_while {c : Expr} (n : Nat) (hp : PassesOwn (model X.prog X.w) X.A X.env X.xe) (hc : PMT Wx X c t) (hb : PMSs Wx X sts m) : PMS Wx X (.While c sts [] pos) (mWhile t m n) := ps_imp (ps_while hp hc hb) fun D σ H ⟨G, μ, σA, h, rs, rh, k⟩ => by
  refine ⟨fun n σ H => ∃ G μ σA h, RelS X.K X.mgx G μ σA σ ∧ RelH X.K X.mgx G μ h H ∧ RetS X.K X.mgx Wx D G μ H (mWhile t m n σA h), ⟨n, G, μ, σA, h, rs, rh, k⟩, ?_⟩
  rintro n σ H ⟨G, μ, σA, h, rs, rh, k⟩
  cases n with
  | zero => obtain ⟨_, _, e, _⟩ := k; cases e
  | succ n =>
    unfold mWhile at k
    refine ⟨G, μ, σA, h, rs, rh, (RetS.then rs k).imp fun b G1 μ1 h1 H1 s1 rh1 k1 => ?_⟩
    cases b with
    | false => exact RetS.nx k1 rh1 (rs.mono s1)
    | true =>
      refine ⟨fun σ3 H3 => ∃ G μ σA h, RelS X.K X.mgx G μ σA σ3 ∧ RelH X.K X.mgx G μ h H3 ∧ RetS X.K X.mgx Wx D G μ H3 (mWhile t m n σA h), fun σ3 H3 z => ⟨n, Nat.lt_succ_self n, z⟩, G1, μ1, σA, h1, rs.mono s1, rh1, ?_⟩
      have k2 : RetS X.K X.mgx Wx D G1 μ1 H1 (match m σA h1 with
        | some (.nx σ2, h2) => mWhile t m n σ2 h2
        | some (.ct σ2, h2) => mWhile t m n σ2 h2
        | some (.bk σ2, h2) => some (.nx σ2, h2)
        | x => x) := k1
      cases q2 : m σA h1 with
      | none => rw [q2] at k2; obtain ⟨_, _, e, _⟩ := k2; cases e
      | some z =>
        obtain ⟨r, h5⟩ := z
        rw [q2] at k2
        cases r with
        | nx σ6 => exact ⟨_, _, rfl, fun G' μ' H' σ7 s7 rh7 rs7 => ⟨G', μ', σ6, h5, rs7, rh7, RetS.step s7 k2⟩⟩
        | ct σ6 => exact ⟨_, _, rfl, fun G' μ' H' σ7 s7 rh7 rs7 => ⟨G', μ', σ6, h5, rs7, rh7, RetS.step s7 k2⟩⟩
        | bk σ6 =>
          obtain ⟨_, _, e, k4⟩ := k2
          cases e
          exact ⟨_, _, rfl, k4⟩
        | rt w =>
          obtain ⟨_, _, e, k4⟩ := k2
          cases e
          exact ⟨_, _, rfl, k4⟩
        | exc σ6 c fs =>
          obtain ⟨_, _, e, k4⟩ := k2
          cases e
          exact ⟨_, _, rfl, k4⟩
end
end PM

end
section
set_option Elab.async false
set_option linter.all false
set_option maxRecDepth 100000
set_option maxHeartbeats 4000000
namespace PM
open PySem PySem.Spec PyProof.Rows L2 N1
open Evl (Ex)
abbrev MF := List W → M W
def spM (K : PySem.W.Frag) (mg : MgW) (n : Nat) (f : MF) : Sp := fun vs H Q E => vs.length = n ∧ ∃ G μ ws h, RepWs K (.of mg) G μ ws vs ∧ RelH K (.of mg) G μ h H ∧ Ret K (.of mg) G μ H (f ws h) (fun w G' μ' _ H' => ∀ v, RepW K (.of mg) G' μ' w v → Q v H') E
theorem mgx_calm {X : Cx} (hc : X.calm = true) : X.mgx = .of X.mgw := by
  unfold L2.Cx.mgx
  rw [hc]
  rfl
def W.low (n : Nat) : W → Bool
  | .d _ => true
  | .ref a => decide (a < n)
  | .exn _ _ => true
def lowO (n : Nat) : Option W → Bool
  | some w => w.low n
  | none => true
def AO.low (n : Nat) : AO → Bool
  | .dead => true
  | .lst ws => ws.all (W.low n)
  | .rol ws => ws.all (W.low n)
  | .dct _ ws => ws.all (W.low n)
  | .inst _ fs => fs.all (lowO n)
def lowR (n : Nat) : R W → Bool
  | .ok w => w.low n
  | .exc _ _ => true
def cutR (n : Nat) (r : R W) (h' : AHp) : Option (R W × AHp) :=
  if (h'.take n).all (AO.low n) && lowR n r then some (r, h'.take n) else none
def startA (n : Nat) (ws : List W) : Sl := ws.map some ++ List.replicate (n - ws.length) none
def mFn (n : Nat) (m : MS) : MF := fun ws h => match m (startA n ws) h with
  | some (.rt w, h') => cutR h.length (.ok w) h'
  | some (.nx _, h') => cutR h.length (.ok (.d .non)) h'
  | some (.exc _ c fs, h') => cutR h.length (.exc c fs) h'
  | _ => none
section
variable {K : PySem.W.Frag} {mg : MgX} {G H : Hp} {μ more : Mu} {h : AHp} {n : Nat}
theorem W.low_rep {w : W} {v : V} (l : w.low μ.length = true) (r : RepW K mg G (μ ++ more) w v) : RepW K mg G μ w v := by
  cases w with
  | d d => exact r
  | ref a =>
    obtain ⟨q, e, z⟩ := r
    have : a < μ.length := of_decide_eq_true l
    rw [List.getElem?_append_left this] at e
    exact ⟨q, e, z⟩
  | exn c fs => exact r
theorem lows_rep : ∀ {ws : List W} {vs : List V}, ws.all (W.low μ.length) = true → RepWs K mg G (μ ++ more) ws vs → RepWs K mg G μ ws vs
  | _, _, _, .nil => .nil
  | _, _, l, .cons a b => by
    rw [List.all_cons, Bool.and_eq_true] at l
    exact .cons (W.low_rep l.1 a) (lows_rep l.2 b)
theorem RelH.cut (rh : RelH K mg G (μ ++ more) h H) (l : (h.take μ.length).all (AO.low μ.length) = true) : RelH K mg G μ (h.take μ.length) H := by
  have hl := rh.len
  rw [List.length_append] at hl
  have up : ∀ (i : Nat) (q : Addr × Addr), μ[i]? = some q → (μ ++ more)[i]? = some q := fun i q e => by rw [List.getElem?_append_left (List.getElem?_eq_some_iff.mp e).1]; exact e
  have dn : ∀ (i : Nat) (o : AO), (h.take μ.length)[i]? = some o → h[i]? = some o ∧ o.low μ.length = true := fun i o e => by
    refine ⟨?_, (List.all_eq_true.mp l) o (List.mem_of_getElem? e)⟩
    have : i < μ.length := by have := (List.getElem?_eq_some_iff.mp e).1; rw [List.length_take] at this; omega
    rw [List.getElem?_take_of_lt this] at e
    exact e
  refine ⟨rh.ex, by rw [List.length_take]; omega, fun i j q r a b => rh.sep i j q r (up i q a) (up j r b), fun i o q a b c => rh.free i o q (up i q a) (dn i o b).1 c, fun q hq => rh.there q (List.mem_append_left _ hq), fun i o q a b => ?_⟩
  obtain ⟨b1, b2⟩ := dn i o b
  have k := rh.ok i o q (up i q a) b1
  cases o with
  | dead => trivial
  | lst ws => obtain ⟨vs, z, r⟩ := k; exact ⟨vs, z, lows_rep b2 r⟩
  | rol ws => obtain ⟨vs, z, r⟩ := k; exact ⟨vs, z, lows_rep b2 r⟩
  | dct ks ws => obtain ⟨vs, z, r⟩ := k; exact ⟨vs, z, lows_rep b2 r⟩
  | inst c fs =>
    obtain ⟨C, vs, z1, z2, z3, z4, r⟩ := k
    refine ⟨C, vs, z1, z2, z3, z4, fun i w e => ?_⟩
    obtain ⟨v, y1, y2⟩ := r i w e
    exact ⟨v, y1, W.low_rep ((List.all_eq_true.mp b2) (some w) (List.mem_of_getElem? e)) y2⟩
theorem startA_rel {N : List Str} {ws : List W} {vs : List V} (r : RepWs K mg G μ ws vs) : RelS K mg G μ (startA N.length ws) (L2.start N vs) := by
  have hl := r.length
  refine ⟨by simp [startA, L2.start, hl], fun i w e => ?_⟩
  unfold startA at e
  by_cases z : i < ws.length
  · rw [List.getElem?_append_left (by simpa using z), List.getElem?_map] at e
    cases q : ws[i]? with
    | none => rw [q] at e; cases e
    | some w' =>
      rw [q] at e
      cases e
      obtain ⟨v, ev, rv⟩ := r.get q
      refine ⟨v, ?_, rv⟩
      unfold L2.start
      rw [List.getElem?_append_left (by rw [List.length_map]; omega), List.getElem?_map, ev]
      rfl
  · rw [List.getElem?_append_right (by simpa using z), List.getElem?_replicate] at e
    split at e <;> cases e
end
section
variable {P : Program} {w : World} {K : PySem.W.Frag} {mg : MgX} {base : Heap}
theorem fn_ret {G H : Hp} {μ : Mu} {h : AHp} {ws : List W} {n : Nat} {m : MS} {Q : VK} {E : XK} (rh : RelH K mg G μ h H) (k : Ret K mg G μ H (mFn n m ws h) (fun w G' μ' _ H' => ∀ v, RepW K mg G' μ' w v → Q v H') E) :
    RetS K mg (fun cls d _ H => E cls d H) { nx := fun _ H' => Q .non H', rt := Q } G μ H (m (startA n ws) h) := by
  obtain ⟨r, h', e, k⟩ := k
  unfold mFn at e
  have key : ∀ (r0 : R W) (h1 : AHp), cutR h.length r0 h1 = some (r, h') → r = r0 ∧ h' = h1.take μ.length ∧ (h1.take μ.length).all (AO.low μ.length) = true ∧ lowR μ.length r0 = true := fun r0 h1 z => by
    unfold cutR at z
    rw [← rh.len] at z
    split at z
    · rename_i c
      rw [Bool.and_eq_true] at c
      cases z
      exact ⟨rfl, rfl, c.1, c.2⟩
    · cases z
  have stp : ∀ {G' μ' H'}, Step G μ H G' μ' H' → Step G μ H G' μ H' := fun s => ⟨s.g, ⟨[], by simp, by simp⟩, s.fr, s.st, s.gn⟩
  cases q : m (startA n ws) h with
  | none => rw [q] at e; cases e
  | some z =>
    obtain ⟨rr, h1⟩ := z
    rw [q] at e
    cases rr with
    | rt w =>
      obtain ⟨rfl, rfl, c1, c2⟩ := key _ _ e
      refine ⟨_, _, rfl, fun G' μ' H' v s rh' rv => ?_⟩
      obtain ⟨more, em, _⟩ := s.m
      subst em
      exact k G' μ H' (stp s) (rh'.cut c1) v (W.low_rep c2 rv)
    | nx σ =>
      obtain ⟨rfl, rfl, c1, c2⟩ := key _ _ e
      refine ⟨_, _, rfl, fun G' μ' H' v s rh' rv => ?_⟩
      obtain ⟨more, em, _⟩ := s.m
      subst em
      exact k G' μ H' (stp s) (rh'.cut c1) _ .non
    | exc σ c fs =>
      obtain ⟨rfl, rfl, c1, c2⟩ := key _ _ e
      refine ⟨_, _, rfl, fun G' μ' H' v cls d s rh' rv ix => ?_⟩
      obtain ⟨more, em, _⟩ := s.m
      subst em
      exact k G' μ H' cls d (stp s) (rh'.cut c1) ix
    | bk σ => cases e
    | ct σ => cases e
end
section
variable {P : Program} {w : World} {K : PySem.W.Frag} {mg : Str → Option Value} {base : Heap}
theorem fnM {x qual : Str} {st : Stmt} {f : Addr} {N ps : List Str} {k : Nat} {m : MS} (D : Def1 K x qual st [] f) (S : FnScope N ps (defScope st))
    (hb : ∀ (kV doc pm : Value) (an : Option Addr) (cdv ct : Value) (us : List Value), us.length = ps.length → bindArgs (PySem.W.fnOf x qual (defArgs st) (defBody st) (defScope st) .none kV doc pm an cdv ct) ⟨us, []⟩ = pure (ps.zip us))
    (hbody : ∀ (cdv : Value) (A : Around) (outer : List Env) (s : Shared) (H : Hp) (E : XK), Room k (A.deeper (envOfC qual (defScope st) s.heap.objs.size f cdv)) →
      PMSs (fun cls d _ H => E cls d H) (cxOf (CX P w) P w K mg base N qual (defScope st) f cdv A outer s H E) (defBody st) m) : FnR P w K mg base (CX P w) (k + 1) f (spM K ⟨mg, w⟩ ps.length (mFn N.length m)) := by
  refine def_R D S hb (fun vs H Q E h => h.1) (fun cdv A outer s H vs Q E hr h => ?_)
  obtain ⟨hl, G, μ, ws, hA, rv, rh, k⟩ := h
  exact ⟨_, hbody cdv A outer s H E hr, G, μ, _, hA, startA_rel rv, rh, fn_ret rh k⟩
end
section
variable {X : Cx} {Wx : WX} {e : Expr} {es : List Expr} {ma : MA} {f : Addr} {k n : Nat} {mf : MF} {x : Str} {p pos : Pos}
def tCallS (sp : Sp) (E : L2.St → XK) (t : TA) : TE := fun σ H Q => t σ H fun vs H1 => sp vs H1 Q (E σ)
theorem pe_callRS {sp : Sp} {t : TA} {E : L2.St → XK} {CX : CXT} (F : FnR X.prog X.w X.K X.mg X.base CX k f sp) (hr : Room k X.A) (hg : Gl X x) (hm : X.mg x = some (.ref f)) (hk : PySem.W.keepIn X.K (.ref f) = true) (hx : ∀ σ, PassesAt CX X σ (E σ))
    (ha : PA X (e :: es) t) (hdb : (x == ("__debug__" : Str)) = false := by decide) (he : starEach (e :: es) X.env = (false, eval e X.env) :: starEach es X.env := by rfl) (hpl : (backTo pos (starEach es X.env)).any (·.1) = false := by rfl) :
    PE X (.Call (.Name x p) (e :: es) [] pos) (tCallS sp E t) := by
  refine ⟨fun pins s σ H Q I h => ?_⟩
  refine wpAny_Call_Name_kw (ld_glob I hg hm ?_ hdb)
  refine PySem.W.callWith_K (h₀ := X.base) I.ok.mod.kin hk (thn (ha.run pos pins s σ H _ I h) fun us s1 ⟨vs, H1, I1, r, q⟩ => ⟨I1.kIn, ?_⟩) he hpl
  refine wpAny_call (codeAny_mono (F X.A X.stack s1 H1 us vs Q (E σ) hr I1.env0 r q) fun r s' hq => ?_)
  cases r with
  | error e => exact hx σ pins H1 s1 e s' I1 hq
  | ok fl =>
    cases fl with
    | ret u => exact I1.after hq
    | next => exact False.elim hq
    | brk => exact False.elim hq
    | cont => exact False.elim hq
def mCall (n : Nat) (mf : MF) (ma : MA) : ME := fun σ => mBind (ma σ) fun ws => if ws.length = n then mf ws else mFail
theorem pm_call (hc : X.calm = true) (F : FnR X.prog X.w X.K X.mg X.base (CX X.prog X.w) k f (spM X.K X.mgw n mf)) (hr : Room k X.A) (hg : Gl X x) (hm : X.mg x = some (.ref f)) (hk : PySem.W.keepIn X.K (.ref f) = true) (tk : Takes X Wx) (ha : PMA Wx X (e :: es) ma)
    (hdb : (x == ("__debug__" : Str)) = false := by decide) (he : starEach (e :: es) X.env = (false, eval e X.env) :: starEach es X.env := by rfl) (hpl : (backTo pos (starEach es X.env)).any (·.1) = false := by rfl) :
    PM Wx X (.Call (.Name x p) (e :: es) [] pos) (mCall n mf ma) := pe_imp (pe_callRS F hr hg hm hk (fun σ => passAt tk σ) ha hdb he hpl) fun σ H Q ⟨G, μ, σA, h, rs, rh, k⟩ =>
  ⟨G, μ, σA, h, rs, rh, k.bind.imp fun ws G1 μ1 h1 H1 s1 rh1 k1 vs rv => by
    rw [mgx_calm hc] at rv rh1 k1
    split at k1
    · rename_i c
      exact ⟨by rw [← rv.length]; exact c, G1, μ1, ws, h1, rv, rh1, k1⟩
    · obtain ⟨_, _, e, _⟩ := k1; cases e⟩
end
end PM

end
section
set_option Elab.async false
set_option linter.all false
set_option maxRecDepth 100000
set_option maxHeartbeats 4000000
namespace PM
open PySem PySem.Spec PyProof.Rows L2 N1
open Evl (Ex)
abbrev WF : WX := fun _ _ _ _ => False
theorem takes_F {X : Cx} : Takes X WF := fun u s' ⟨a, B, sI, pins, σ, H, cls, d, e, I, nb, up, sky, na, os, ag, w⟩ => w.elim
def mNoX {α : Type} (m : M α) : M α := fun h => match m h with
  | some (.ok a, h') => some (.ok a, h')
  | _ => none
def wipeA (σ : Sl) : List Nat → Sl
  | [] => σ
  | v :: vs => (wipeA σ vs).set v none
section
variable {K : PySem.W.Frag} {mg : MgX} {G H : Hp} {μ : Mu} {h : AHp} {α : Type}
theorem Ret.noX {m : M α} {Q : α → Hp → Mu → AHp → Hp → Prop} {EX EX' : XK} (k : Ret K mg G μ H (mNoX m h) Q EX) : Ret K mg G μ H (m h) Q EX' := by
  obtain ⟨r, h', e, k⟩ := k
  unfold mNoX at e
  split at e
  · rename_i a h1 e1
    cases e
    exact ⟨_, _, e1, k⟩
  · cases e
theorem RelS.unset {σA : Sl} {σ : L2.St} (rs : RelS K mg G μ σA σ) (i : Nat) : RelS K mg G μ (σA.set i none) (σ.set i none) := by
  refine ⟨by simp [rs.1], fun j w e => ?_⟩
  by_cases z : i = j
  · subst z
    by_cases hl : i < σA.length
    · rw [List.getElem?_set_self hl] at e; cases e
    · rw [List.getElem?_eq_none (by simp; omega)] at e; cases e
  · rw [List.getElem?_set_ne z] at e ⊢
    exact rs.2 j w e
theorem RelS.wipe {σA : Sl} {σ : L2.St} (rs : RelS K mg G μ σA σ) : ∀ vs : List Nat, RelS K mg G μ (wipeA σA vs) (wipe σ vs)
  | [] => rs
  | v :: vs => (RelS.wipe rs vs).unset v
theorem wipe_get (σ : L2.St) : ∀ (vs : List Nat) (j : Nat), (wipe σ vs)[j]? = if j ∈ vs then (if j < σ.length then some none else none) else σ[j]?
  | [], j => by simp [wipe]
  | v :: vs, j => by
    unfold wipe
    by_cases z : v = j
    · subst z
      rw [if_pos List.mem_cons_self]
      by_cases hl : v < σ.length
      · rw [List.getElem?_set_self (by rw [wipe_length]; exact hl), if_pos hl]
      · rw [List.getElem?_eq_none (by rw [List.length_set, wipe_length]; omega), if_neg hl]
    · rw [List.getElem?_set_ne z, wipe_get σ vs j]
      simp only [List.mem_cons, Ne.symm z, false_or]
theorem wipe_same {σ σ2 : L2.St} {vs : List Nat} (hl : σ2.length = σ.length) (hs : ∀ j, j ∉ vs → σ2[j]? = (wipe σ vs)[j]?) : wipe σ2 vs = wipe σ vs := by
  refine List.ext_getElem? fun j => ?_
  rw [wipe_get, wipe_get]
  by_cases m : j ∈ vs
  · rw [if_pos m, if_pos m, hl]
  · rw [if_neg m, if_neg m, hs j m, wipe_get, if_neg m]
theorem RelH.aside (rh : RelH K mg G μ h H) {p : Addr} (o : HO) (hg : G p = none) (ho : ¬ Own μ p) : RelH K mg G μ h (upd H p o) := by
  have ne : ∀ q ∈ μ, q.1 ≠ p ∧ q.2 ≠ p := fun q hq => ⟨fun z => ho ⟨q, hq, .inl z.symm⟩, fun z => ho ⟨q, hq, .inr z.symm⟩⟩
  refine ⟨fun a u ha => ?_, rh.len, rh.sep, rh.free, fun q hq => ?_, fun i oi q a b => ?_⟩
  · rw [upd_ne (fun z => by rw [z, hg] at ha; cases ha)]; exact rh.ex a u ha
  · obtain ⟨n1, n2⟩ := ne q hq
    rw [upd_ne n1, upd_ne n2]; exact rh.there q hq
  · obtain ⟨n1, n2⟩ := ne q (List.mem_of_getElem? a)
    exact (rh.ok i oi q a b).same (upd_ne n1) (upd_ne n2)
end
section
variable {K : PySem.W.Frag} {mg : MgX} {G H : Hp} {μ : Mu} {h : AHp}
theorem RelH.adopt (rh : RelH K mg G μ h H) {p : Addr} {o : HO} (hp : H p = some o) (hg : G p = none) (ho : ¬ Own μ p) : RelH K mg (upd G p o) μ h H := by
  have e : Ex G (upd G p o) := Ex.new hg
  have mo : ∀ {w v}, RepW K mg G μ w v → RepW K mg (upd G p o) μ w v := fun {w v} r => by
    cases w with
    | d d => exact Rep.mono e r
    | ref a => exact r
    | exn c fs =>
      obtain ⟨a, cls, d, e1, e2, e3⟩ := r
      exact ⟨a, cls, d, e1, e2, e3.mono e⟩
  have mos : ∀ {ws vs}, RepWs K mg G μ ws vs → RepWs K mg (upd G p o) μ ws vs := fun r => by
    induction r with
    | nil => exact .nil
    | cons a _ ih => exact .cons (mo a) ih
  refine ⟨fun a u ha => ?_, rh.len, rh.sep, fun i oi q a b c => ?_, rh.there, fun i oi q a b => ?_⟩
  · by_cases z : a = p
    · subst z; rw [upd_same] at ha; cases ha; exact hp
    · rw [upd_ne z] at ha; exact rh.ex a u ha
  · obtain ⟨y1, y2⟩ := rh.free i oi q a b c
    have hm := List.mem_of_getElem? a
    rw [upd_ne (fun z => ho ⟨q, hm, .inl z.symm⟩), upd_ne (fun z => ho ⟨q, hm, .inr z.symm⟩)]
    exact ⟨y1, y2⟩
  · have k := rh.ok i oi q a b
    cases oi with
    | dead => trivial
    | lst ws => obtain ⟨vs, z, r⟩ := k; exact ⟨vs, z, mos r⟩
    | rol ws => obtain ⟨vs, z, r⟩ := k; exact ⟨vs, z, mos r⟩
    | dct ks ws => obtain ⟨vs, z, r⟩ := k; exact ⟨vs, z.mono e (Ex.refl H), mos r⟩
    | inst c fs =>
      obtain ⟨C, vs, z1, z2, z3, z4, r⟩ := k
      exact ⟨C, vs, z1, z2, z3, z4, fun i w ew => by
        obtain ⟨v, y1, y2⟩ := r i w ew
        exact ⟨v, y1, mo y2⟩⟩
theorem Ret.bindB {α β : Type} {m : M α} {f : α → M β} {G3 H3 : Hp} {μ3 : Mu} {Q : β → Hp → Mu → AHp → Hp → Prop} {EX EX' : XK} (k : Ret K mg G μ H (mBind (mNoX m) f h) Q EX) : Ret K mg G3 μ3 H3 (m h) (fun a _ _ h' _ => Ret K mg G μ H (f a h') Q EX) EX' := by
  obtain ⟨r, h', e, k⟩ := k
  unfold mBind mNoX at e
  cases q : m h with
  | none => rw [q] at e; cases e
  | some z =>
    obtain ⟨x, h1⟩ := z
    rw [q] at e
    cases x with
    | exc c fs => cases e
    | ok a => exact ⟨_, _, rfl, fun _ _ _ _ _ => ⟨r, h', e, k⟩⟩
theorem own_step {G1 G2 H1 H2 : Hp} {μ1 μ2 : Mu} (s : Step G1 μ1 H1 G2 μ2 H2) {p : Addr} {o : HO} (hp : H1 p = some o) (hn : ¬ Own μ1 p) : ¬ Own μ2 p := fun ⟨q, hq, hz⟩ => by
  obtain ⟨more, em, hm⟩ := s.m
  rw [em] at hq
  rcases List.mem_append.mp hq with z | z
  · exact hn ⟨q, z, hz⟩
  · obtain ⟨y1, y2⟩ := hm q z
    rcases hz with rfl | rfl
    · rw [hp] at y1; cases y1
    · rw [hp] at y2; cases y2
end
def mComp1 (t : MG) (tt : MT) (te : ME) (σ : Sl) : List W → List D → M W
  | [], acc => mPure (.d (.lst acc))
  | w :: r, acc => match t w σ with
    | none => mFail
    | some σ1 => mBind (mNoX (tt σ1)) fun b => if b then mBind (mNoX (te σ1)) fun y => (match y with
        | .d d => if acc.length < sizeLine then mComp1 t tt te σ r (acc ++ [d]) else mFail
        | _ => mFail) else mComp1 t tt te σ r acc
def mComp (mi : MI) (t : MG) (tt : MT) (te : ME) (vs : List Nat) : ME := fun σ => mBind (mi σ) fun ws => mComp1 t tt te (wipeA σ vs) ws []
section
variable {K : PySem.W.Frag} {mg : MgX}
structure CompAt (K : PySem.W.Frag) (mg : MgX) (G1 : Hp) (μ1 : Mu) (H1 : Hp) (Dl : Addr) (t : MG) (tt : MT) (te : ME) (σ : Sl) (r : List W) (Q : VK) (EX : XK) (H : Hp) : Prop where
  go : ∃ G μ h ds vs, Step G1 μ1 H1 G μ H ∧ RelH K mg G μ h H ∧ H Dl = some (.lst vs) ∧ RepL K mg.f G ds vs ∧ G Dl = none ∧ ¬ Own μ Dl ∧ Ret K mg G1 μ1 H1 (mComp1 t tt te σ r ds h) (fun w G' μ' _ H' => ∀ v, RepW K mg G' μ' w v → Q v H') EX
theorem t_comp {Wx : WX} {mi : MI} {t : MG} {tt : MT} {te : ME} {vs : List Nat} {σ : L2.St} {H : Hp} {Q : VK} (q : tE K mg Wx (mComp mi t tt te vs) σ H Q) :
    tLc (tI K mg Wx mi) (tG K mg vs t) (tT K mg WF tt) (tE K mg WF te) vs σ H Q := by
  obtain ⟨G, μ, σA, h, rs, rh, k⟩ := q
  refine ⟨G, μ, σA, h, rs, rh, k.bind.imp fun ws G1 μ1 h1 H1 s1 rh1 k1 J fd Dl hD => ?_⟩
  have hg1 : G1 Dl = none := Evl.fresh_back rh1.ex hD
  have ho1 : ¬ Own μ1 Dl := fun ⟨z, hz, hh⟩ => by
    obtain ⟨⟨o1, y1⟩, o2, y2⟩ := rh1.there z hz
    rcases hh with e | e
    · rw [← e, hD] at y1; cases y1
    · rw [← e, hD] at y2; cases y2
  have st0 : Step G1 μ1 H1 G1 μ1 (upd H1 Dl (.lst [])) := ⟨Ex.refl _, ⟨[], by simp, by simp⟩, fun p o hp _ => by rw [upd_ne (ne_of_none hp hD)]; exact hp, fun p o hp => ⟨o, by rw [upd_ne (ne_of_none hp hD)]; exact hp⟩, fun _ _ _ _ hg => hg⟩
  have rh0 := rh1.aside (.lst []) hg1 ho1
  refine ⟨fun i mm H' => mm = ws.length - i ∧ CompAt K mg G1 μ1 H1 Dl t tt te (wipeA σA vs) (ws.drop i) Q (fun cls d H' => Wx cls d σ H') H', ⟨_, rfl, ⟨G1, μ1, h1, [], [], st0, rh0, upd_same, .nil, hg1, ho1, k1⟩⟩, ?_⟩
  rintro i mm H' ⟨rfl, ⟨G2, μ2, h2, ds, us, s2, rh2, hDl, rds, hg2, ho2, k2⟩⟩
  by_cases hi : i < ws.length
  · have ew : ws[i]? = some ws[i] := List.getElem?_eq_getElem hi
    obtain ⟨f1, _⟩ := fd G2 μ2 h2 H' s2.g rh2 i
    obtain ⟨go, yl⟩ := f1 _ ew
    have ed : ws.drop i = ws[i] :: ws.drop (i + 1) := List.drop_eq_getElem_cons hi
    rw [ed] at k2
    refine .inr ⟨go, fun H3 => CompAt K mg G1 μ1 H1 Dl t tt te (wipeA σA vs) (ws.drop (i + 1)) Q (fun cls d H' => Wx cls d σ H') H3, fun H3 z => ⟨ws.length - (i + 1), by omega, rfl, z⟩, fun x H3 y => ?_⟩
    obtain ⟨G3, s3, rh3, rw3⟩ := yl x H3 y
    have hDl3 : H3 Dl = some (.lst us) := s3.fr _ _ hDl ho2
    unfold mComp1 at k2
    cases q : t ws[i] (wipeA σA vs) with
    | none => rw [q] at k2; obtain ⟨_, _, e, _⟩ := k2; cases e
    | some σ4 =>
      rw [q] at k2
      refine ⟨G3, μ2, wipeA σA vs, h2, ws[i], σ4, ((((rs.mono s1).mono s2).wipe vs).mono s3), rh3, rw3, q, fun σ5 rs5 hs5 hl5 => ⟨wipe_same (hl5.trans (wipe_length σ vs)) hs5, ?_⟩⟩
      refine ⟨G3, μ2, σ4, h2, rs5, rh3, (Ret.bindB k2).imp fun b G4 μ4 h4 H4 s4 rh4 k4 => ?_⟩
      have hDl4 : H4 Dl = some (.lst us) := s4.fr _ _ hDl3 ho2
      have ho4 : ¬ Own μ4 Dl := own_step s4 hDl3 ho2
      have hg4 : G4 Dl = none := s4.gn _ _ hDl3 ho2 (s3.gn _ _ hDl ho2 hg2)
      cases b with
      | false => exact ⟨G4, μ4, h4, ds, us, ((s2.trans s3).trans s4), rh4, hDl4, (rds.mono s3.g).mono s4.g, hg4, ho4, k4⟩
      | true =>
        refine ⟨G4, μ4, σ4, h4, rs5.mono s4, rh4, (Ret.bindB k4).imp fun y5 G5 μ5 h5 H5 s5 rh5 k5 v rv => ?_⟩
        have hDl5 : H5 Dl = some (.lst us) := s5.fr _ _ hDl4 ho4
        have ho5 : ¬ Own μ5 Dl := own_step s5 hDl4 ho4
        have hg5 : G5 Dl = none := s5.gn _ _ hDl4 ho4 hg4
        have s15 : Step G1 μ1 H1 G5 μ5 H5 := ((s2.trans s3).trans s4).trans s5
        split at k5
        · rename_i d
          split at k5
          · rename_i c
            have r5 : RepL K mg.f G5 ds us := ((rds.mono s3.g).mono s4.g).mono s5.g
            have st6 : Step G1 μ1 H1 G5 μ5 (upd H5 Dl (.lst (us ++ [v]))) := ⟨s15.g, s15.m, fun p o hp hn => by rw [upd_ne (ne_of_none hp hD)]; exact s15.fr p o hp hn, fun p o hp => by rw [upd_ne (ne_of_none hp hD)]; exact s15.st p o hp, s15.gn⟩
            exact ⟨us, hDl5, by rw [← r5.length]; exact c, G5, μ5, h5, ds ++ [d], us ++ [v], st6, rh5.aside _ hg5 ho5, upd_same, r5.append (.cons rv .nil), hg5, ho5, k5⟩
          · obtain ⟨_, _, e, _⟩ := k5; cases e
        · obtain ⟨_, _, e, _⟩ := k5; cases e
  · obtain ⟨_, st⟩ := fd G2 μ2 h2 H' s2.g rh2 i
    rw [List.drop_eq_nil_of_le (by omega)] at k2
    refine .inl ⟨st (by omega), ?_⟩
    obtain ⟨r, h', e, k3⟩ := k2
    cases e
    have n1 := rh2.adopt hDl hg2 ho2
    have n2 : Step G1 μ1 H1 (upd G2 Dl (.lst us)) μ2 H' := ⟨s2.g.trans (Ex.new hg2), s2.m, s2.fr, s2.st, fun p o hp hn hg => by rw [upd_ne (ne_of_none hp hD)]; exact s2.gn p o hp hn hg⟩
    exact k3 _ _ _ n2 n1 _ (.lst upd_same (rds.mono (Ex.new hg2)))
end
section
variable {X : Cx} {Wx : WX} {elt tg iter c : Expr} {ifs : List Expr} {scope : Scope} {own : List (Str × Nat)} {pos : Pos} {mi : MI} {t : MG} {tt : MT} {te : ME}
theorem pm_comp (hc : X.calm = true) (hN : X.N.Nodup) (hi : PI X tg iter (tI X.K X.mgx Wx mi)) (ok : BlkOk X.N X.env.scope scope own)
    (hg : ∀ (s : Shared) (H : Hp) (C : Addr) (cl : List (Str × Addr)) (fp : List Addr), PG (X.blk s H scope (compEnvC scope cl C X.env) fp) tg (tG X.K X.mgx (own.map (·.2)) t)) (ht : ∀ (s : Shared) (H : Hp) (C : Addr) (cl : List (Str × Addr)) (fp : List Addr), PTs (X.blk s H scope (compEnvC scope cl C X.env) fp) ifs (tT X.K X.mgx WF tt))
    (he : ∀ (s : Shared) (H : Hp) (C : Addr) (cl : List (Str × Addr)) (fp : List Addr), PE (X.blk s H scope (compEnvC scope cl C X.env) fp) elt (tE X.K X.mgx WF te)) (hs : ∀ x, foldedSetIterable iter X.env x = pure x := by intro _; rfl) :
    PM Wx X (.ListComp elt [⟨tg, iter, ifs, 0⟩] scope pos) (mComp mi t tt te (own.map (·.2))) := pe_imp (pe_lc hc hN hi ok hg ht he hs) fun _ _ _ => t_comp
def mYes : MT := fun _ => mPure true
theorem pmts_nil : PTs X [] (tT X.K X.mgx Wx mYes) := ⟨fun pins s σ H Q I ⟨G, μ, σA, h, rs, rh, k⟩ => pts_nil.run pins s σ H Q I (Ret.pure k rh)⟩
theorem pmts_one (h : PMT Wx X c tt) : PTs X [c] (tT X.K X.mgx Wx tt) := pts_one h
end
end PM

end
section
set_option Elab.async false
set_option linter.all false
set_option maxRecDepth 100000
set_option maxHeartbeats 4000000
namespace PM
open PySem PySem.Spec PyProof.Rows L2 N1
open Evl (Ex)
section
variable {K : PySem.W.Frag} {mg : MgX}
theorem one_of {G : Hp} {μ : Mu} {w : W} {vs : List V} (r : RepWs K mg G μ [w] vs) : ∃ v, vs = [v] ∧ RepW K mg G μ w v := by
  cases r with
  | cons a b => cases b; exact ⟨_, rfl, a⟩
theorem two_of {G : Hp} {μ : Mu} {w x : W} {vs : List V} (r : RepWs K mg G μ [w, x] vs) : ∃ v u, vs = [v, u] ∧ RepW K mg G μ w v ∧ RepW K mg G μ x u := by
  cases r with
  | cons a b =>
    obtain ⟨u, rfl, c⟩ := one_of b
    exact ⟨_, _, rfl, a, c⟩
def fLen : List W → M W := fun ws h => match ws with
  | [.d (.str x)] => if x.length ≤ sizeLine then some (.ok (.d (.int (x.length : Nat))), h) else none
  | [.d (.tup ds)] => some (.ok (.d (.int (ds.length : Nat))), h)
  | [w] => match lstOf h w with | some ys => some (.ok (.d (.int (ys.length : Nat))), h) | none => none
  | _ => none
theorem cm_len : CallM K mg (fun xs H Q => ∃ x n, xs = [x] ∧ LenV K x H n ∧ Q (.int (n : Nat)) H) fLen := fun G μ h H ws vs Q EX rh r ⟨rr, h', e, k⟩ => by
  unfold fLen at e
  split at e
  · split at e
    · rename_i c
      cases e
      obtain ⟨v, rfl, rv⟩ := one_of r
      cases rv
      exact ⟨_, _, rfl, ⟨c, rfl⟩, k _ _ _ Step.refl rh _ (.int _)⟩
    · cases e
  · cases e
    obtain ⟨v, rfl, rv⟩ := one_of r
    cases rv with
    | tup s q => exact ⟨_, _, rfl, .inr ⟨_, Evl.ex_t rh.ex s, q.length⟩, k _ _ _ Step.refl rh _ (.int _)⟩
  · split at e
    · rename_i w _ _ ys e1
      cases e
      obtain ⟨v, rfl, rv⟩ := one_of r
      obtain ⟨a, us, rfl, sq, ru⟩ := lst_at rh rv e1
      exact ⟨_, _, rfl, .inl ⟨_, sq, ru.length⟩, k _ _ _ Step.refl rh _ (.int _)⟩
    · cases e
  · cases e
def fInt : List W → M W := fun ws => mOf (match ws with | [.d (.int i)] => some (.d (.int i)) | [.d (.bl b)] => some (.d (.int (if b then 1 else 0))) | _ => none)
theorem cm_int : CallM K mg (fun xs H Q => (∃ i, xs = [.int i] ∧ Q (.int i) H) ∨ ∃ k, xs = [.bl k] ∧ Q (.int (if k then 1 else 0)) H) fInt := fun G μ h H ws vs Q EX rh r k => by
  obtain ⟨w, e, k2⟩ := k.of rh
  split at e
  · cases e
    obtain ⟨v, rfl, rv⟩ := one_of r
    cases rv
    exact .inl ⟨_, rfl, k2 _ (.int _)⟩
  · cases e
    obtain ⟨v, rfl, rv⟩ := one_of r
    cases rv
    exact .inr ⟨_, rfl, k2 _ (.int _)⟩
  · cases e
def fList : List W → M W := fun ws h => match ws with
  | [.d (.tup ds)] => mPure (.d (.lst ds)) h
  | [w] => match lstOf h w with
    | some ys => (match unD ys with | some ds => mPure (.d (.lst ds)) h | none => none)
    | none => none
  | _ => none
theorem cm_list : CallM K mg (fun xs H Q => ∃ p ys, xs = [.ref p] ∧ (SqL K H p ys ∨ SqT K H p ys) ∧ ∀ l, H l = none → Q (.ref l) (upd H l (.lst ys))) fList := fun G μ h H ws vs Q EX rh r k => by
  have k0 := k
  obtain ⟨rr, h', e, _⟩ := k
  unfold fList at e k0
  split at e
  · obtain ⟨v, rfl, rv⟩ := one_of r
    cases rv with
    | tup s q => exact ⟨_, _, rfl, .inr (Evl.ex_t rh.ex s), Ret.lst k0 rh q⟩
  · split at e
    · rename_i w _ ys e1
      split at e
      · rename_i ds e2
        obtain ⟨v, rfl, rv⟩ := one_of r
        obtain ⟨a, us, rfl, sq, ru⟩ := lst_at rh rv e1
        simp only [e1, e2] at k0
        exact ⟨_, _, rfl, .inl sq, Ret.lst (h := h) k0 rh (repL_of ru e2)⟩
      · cases e
    · cases e
  · cases e
def fListR : List W → M W := fun ws h => match ws with
  | [.d (.tup ds)] => some (.ok (.ref h.length), h ++ [.lst (ds.map .d)])
  | [w] => match lstOf h w with
    | some ys => some (.ok (.ref h.length), h ++ [.lst ys])
    | none => none
  | _ => none
theorem ref_new {G H : Hp} {μ : Mu} {h : AHp} {p : Addr} (rh : RelH K mg G μ h H) : RepW K mg G (μ ++ [(p, p)]) (.ref h.length) (.ref p) := ⟨(p, p), by rw [← rh.len, List.getElem?_append_right (Nat.le_refl _)]; simp, rfl⟩
theorem cm_listR : CallM K mg (fun xs H Q => ∃ p ys, xs = [.ref p] ∧ (SqL K H p ys ∨ SqT K H p ys) ∧ ∀ l, H l = none → Q (.ref l) (upd H l (.lst ys))) fListR := fun G μ h H ws vs Q EX rh r ⟨rr, h', e, k⟩ => by
  unfold fListR at e
  split at e
  · cases e
    obtain ⟨v, rfl, rv⟩ := one_of r
    cases rv with
    | tup s q =>
      refine ⟨_, _, rfl, .inr (Evl.ex_t rh.ex s), fun l hl => ?_⟩
      obtain ⟨n1, n2⟩ := rh.newRef hl (repWs_of q)
      exact k _ _ _ n2 n1 _ (ref_new rh)
  · split at e
    · rename_i w _ ys e1
      cases e
      obtain ⟨v, rfl, rv⟩ := one_of r
      obtain ⟨a, us, rfl, sq, ru⟩ := lst_at rh rv e1
      refine ⟨_, _, rfl, .inl sq, fun l hl => ?_⟩
      obtain ⟨n1, n2⟩ := rh.newRef hl ru
      exact k _ _ _ n2 n1 _ (ref_new rh)
    · cases e
  · cases e
def fTuple : List W → M W := fun ws h => match ws with
  | [.d (.tup ds)] => mPure (.d (.tup ds)) h
  | [w] => match lstOf h w with
    | some ys => (match unD ys with | some ds => mPure (.d (.tup ds)) h | none => none)
    | none => none
  | _ => none
theorem cm_tuple : CallM K mg (fun xs H Q => ∃ p ys, xs = [.ref p] ∧ ((SqL K H p ys ∧ ∀ l, H l = none → Q (.ref l) (upd H l (.tup ys))) ∨ (SqT K H p ys ∧ Q (.ref p) H))) fTuple := fun G μ h H ws vs Q EX rh r k => by
  have k0 := k
  obtain ⟨rr, h', e, _⟩ := k
  unfold fTuple at e k0
  split at e
  · obtain ⟨v, rfl, rv⟩ := one_of r
    have k1 := Ret.pure k0 rh
    cases rv with
    | tup s q => exact ⟨_, _, rfl, .inr ⟨Evl.ex_t rh.ex s, k1 _ (.tup s q)⟩⟩
  · split at e
    · rename_i w _ ys e1
      split at e
      · rename_i ds e2
        obtain ⟨v, rfl, rv⟩ := one_of r
        obtain ⟨a, us, rfl, sq, ru⟩ := lst_at rh rv e1
        simp only [e1, e2] at k0
        exact ⟨_, _, rfl, .inl ⟨sq, Ret.tup (h := h) k0 rh (repL_of ru e2)⟩⟩
      · cases e
    · cases e
  · cases e
def unBs : List W → Option (List Bool)
  | [] => some []
  | .d (.bl b) :: r => (unBs r).map (b :: ·)
  | _ :: _ => none
def unIs : List W → Option (List Int)
  | [] => some []
  | .d (.int b) :: r => (unIs r).map (b :: ·)
  | _ :: _ => none
theorem unBs_v {G : Hp} {μ : Mu} : ∀ {ws : List W} {vs : List V} {bs : List Bool}, RepWs K mg G μ ws vs → unBs ws = some bs → vs = bs.map V.bl
  | [], _, _, .nil, e => by cases e; rfl
  | .d (.bl b) :: r, _, _, .cons a t, e => by
    unfold unBs at e
    cases q : unBs r with
    | none => rw [q] at e; cases e
    | some z => rw [q] at e; cases e; cases a; rw [unBs_v t q]; rfl
  | .d .non :: _, _, _, _, e => by cases e
  | .d (.int _) :: _, _, _, _, e => by cases e
  | .d (.str _) :: _, _, _, _, e => by cases e
  | .d (.tup _) :: _, _, _, _, e => by cases e
  | .d (.lst _) :: _, _, _, _, e => by cases e
  | .d (.obj _ _) :: _, _, _, _, e => by cases e
  | .d (.byt _) :: _, _, _, _, e => by cases e
  | .d (.dct _ _) :: _, _, _, _, e => by cases e
  | .ref _ :: _, _, _, _, e => by cases e
  | .exn _ _ :: _, _, _, _, e => by cases e
theorem unIs_v {G : Hp} {μ : Mu} : ∀ {ws : List W} {vs : List V} {bs : List Int}, RepWs K mg G μ ws vs → unIs ws = some bs → vs = bs.map V.int
  | [], _, _, .nil, e => by cases e; rfl
  | .d (.int b) :: r, _, _, .cons a t, e => by
    unfold unIs at e
    cases q : unIs r with
    | none => rw [q] at e; cases e
    | some z => rw [q] at e; cases e; cases a; rw [unIs_v t q]; rfl
  | .d .non :: _, _, _, _, e => by cases e
  | .d (.bl _) :: _, _, _, _, e => by cases e
  | .d (.str _) :: _, _, _, _, e => by cases e
  | .d (.tup _) :: _, _, _, _, e => by cases e
  | .d (.lst _) :: _, _, _, _, e => by cases e
  | .d (.obj _ _) :: _, _, _, _, e => by cases e
  | .d (.byt _) :: _, _, _, _, e => by cases e
  | .d (.dct _ _) :: _, _, _, _, e => by cases e
  | .ref _ :: _, _, _, _, e => by cases e
  | .exn _ _ :: _, _, _, _, e => by cases e
def fBs (g : List Bool → Bool) : List W → M W := fun ws h => match ws with
  | [w] => match lstOf h w with
    | some ys => mOf ((unBs ys).map fun bs => .d (.bl (g bs))) h
    | none => none
  | _ => none
def fSum : List W → M W := fun ws h => match ws with
  | [w] => match lstOf h w with
    | some ys => mOf ((unIs ys).map fun bs => .d (.int bs.sum)) h
    | none => none
  | _ => none
theorem cm_bs (g : List Bool → Bool) : CallM K mg (fun vs H Q => ∃ (a : Addr) (bs : List Bool), vs = [V.ref a] ∧ SqL K H a (bs.map V.bl) ∧ Q (.bl (g bs)) H) (fBs g) := fun G μ h H ws vs Q EX rh r k => by
  unfold fBs at k
  split at k
  · rename_i w
    split at k
    · rename_i ys e1
      obtain ⟨z, e, k2⟩ := k.of rh
      cases q : unBs ys with
      | none => rw [q] at e; cases e
      | some bs =>
        rw [q] at e
        cases e
        obtain ⟨v, rfl, rv⟩ := one_of r
        obtain ⟨a, us, rfl, sq, ru⟩ := lst_at rh rv e1
        rw [unBs_v ru q] at sq
        exact ⟨_, _, rfl, sq, k2 _ (.bl _)⟩
    · obtain ⟨_, _, e, _⟩ := k; cases e
  · obtain ⟨_, _, e, _⟩ := k; cases e
theorem cm_sum : CallM K mg (rSum K) fSum := fun G μ h H ws vs Q EX rh r k => by
  unfold fSum at k
  split at k
  · rename_i w
    split at k
    · rename_i ys e1
      obtain ⟨z, e, k2⟩ := k.of rh
      cases q : unIs ys with
      | none => rw [q] at e; cases e
      | some bs =>
        rw [q] at e
        cases e
        obtain ⟨v, rfl, rv⟩ := one_of r
        obtain ⟨a, us, rfl, sq, ru⟩ := lst_at rh rv e1
        rw [unIs_v ru q] at sq
        exact ⟨_, _, rfl, sq, k2 _ (.int _)⟩
    · obtain ⟨_, _, e, _⟩ := k; cases e
  · obtain ⟨_, _, e, _⟩ := k; cases e
end
end PM

end
section
set_option Elab.async false
set_option linter.all false
set_option maxRecDepth 100000
set_option maxHeartbeats 4000000
namespace PM
open PySem PySem.Spec PyProof.Rows L2 N1
open Evl (Ex)
abbrev MO := Sl → M (Option Int)
def tO (K : PySem.W.Frag) (mg : MgX) (Wx : WX) (m : MO) : TO := fun σ H Q => ∃ G μ σA h, RelS K mg G μ σA σ ∧ RelH K mg G μ h H ∧
  Ret K mg G μ H (m σA h) (fun o _ _ _ H' => Q o H') (fun cls d H' => Wx cls d σ H')
theorem po_imp {X : Cx} {e : Option Expr} {t u : TO} (p : PO X e t) (i : ∀ σ H Q, u σ H Q → t σ H Q) : PO X e u := ⟨fun pins s σ H Q I q => p.run pins s σ H Q I (i σ H Q q)⟩
def cutL {α : Type} (xs : List α) (lo hi : Option Int) : List α := (xs.drop (HT.sIx xs.length 0 lo)).take (HT.sIx xs.length xs.length hi - HT.sIx xs.length 0 lo)
section
variable {K : PySem.W.Frag} {mg : MgX} {G : Hp}
theorem RepL.cut {ds : List D} {vs : List V} (r : RepL K mg.f G ds vs) (lo hi : Option Int) : RepL K mg.f G (cutL ds lo hi) (cutV vs lo hi) := by
  unfold cutL cutV
  rw [r.length]
  exact (r.drop _).take _
end
def SlM (K : PySem.W.Frag) (mg : MgX) (r : V → Option Int → Option Int → Hp → VK → Prop) (f : W → Option Int → Option Int → M W) : Prop := ∀ (G : Hp) (μ : Mu) (h : AHp) (H : Hp) (x : W) (v : V) (lo hi : Option Int) (Q : VK) (EX : XK), RelH K mg G μ h H → RepW K mg G μ x v →
  Ret K mg G μ H (f x lo hi h) (fun w G' μ' _ H' => ∀ v, RepW K mg G' μ' w v → Q v H') EX → r v lo hi H Q
def rSl (K : PySem.W.Frag) : V → Option Int → Option Int → Hp → VK → Prop := fun x lo hi H Q => rSlA K x lo hi H Q ∨ rSlL K x lo hi H Q
theorem sl_all {X : Cx} : L2.SlR X (rSl X.K) := L2.SlR.or sl_tupA sl_list
def fSl : W → Option Int → Option Int → M W := fun x lo hi h => match x with
  | .d (.tup ds) => mPure (.d (.tup (cutL ds lo hi))) h
  | _ => match lstOf h x with
    | some ws => (match unD ws with | some ds => mPure (.d (.lst (cutL ds lo hi))) h | none => none)
    | none => none
section
variable {K : PySem.W.Frag} {mg : MgX}
theorem cut_whole {ds : List D} {lo hi : Option Int} {n : Nat} (e : ds.length = n) (h : HT.sIx n 0 lo = 0 ∧ HT.sIx n n hi = n) : cutL ds lo hi = ds := by
  subst e
  unfold cutL
  rw [h.1, h.2]
  simp
theorem slm : SlM K mg (rSl K) fSl := fun G μ h H x v lo hi Q EX rh rx k => by
  have k0 := k
  obtain ⟨r, h', e, _⟩ := k
  unfold fSl at e k0
  split at e
  · rename_i ds
    cases rx with
    | tup s q =>
      refine .inl ⟨_, _, rfl, Evl.ex_t rh.ex s, fun c => ?_, fun _ p hp => ?_⟩
      · have k1 := Ret.pure k0 rh
        rw [cut_whole q.length c] at k1
        exact k1 _ (.tup s q)
      · exact Ret.tup k0 rh (q.cut lo hi) p hp
  · split at e
    · rename_i ws e1
      split at e
      · rename_i ds e2
        obtain ⟨a, us, rfl, sq, ru⟩ := lst_at rh rx e1
        simp only [e1, e2] at k0
        exact .inr ⟨a, us, rfl, sq, Ret.lst (h := h) k0 rh ((repL_of ru e2).cut lo hi)⟩
      · cases e
    · cases e
end
section
variable {X : Cx} {Wx : WX} {e a b c : Expr} {lo hi : Option Expr} {me ma mb mc : ME} {ml mu : MO} {pos p2 : Pos}
def mNoPart : MO := fun _ => mPure none
def mPart (me : ME) : MO := fun σ => mBind (me σ) fun w => mOf (match w with | .d (.int i) => some (some i) | _ => none)
theorem pmo_none : PO X none (tO X.K X.mgx Wx mNoPart) := po_imp po_none fun σ H Q ⟨G, μ, σA, h, rs, rh, k⟩ => Ret.pure k rh
theorem pmo_some (he : PM Wx X e me) : PO X (some e) (tO X.K X.mgx Wx (mPart me)) := po_imp (po_some he) fun σ H Q ⟨G, μ, σA, h, rs, rh, k⟩ => ⟨G, μ, σA, h, rs, rh, k.bind.imp fun w G1 μ1 h1 H1 s1 rh1 k1 v rv => by
  obtain ⟨o, e, k2⟩ := k1.of rh1
  split at e
  · cases e
    cases rv
    exact ⟨_, rfl, k2⟩
  · cases e⟩
def mSlice (me : ME) (ml mu : MO) : ME := fun σ => mBind (me σ) fun x => mBind (ml σ) fun lo => mBind (mu σ) fun hi => fSl x lo hi
theorem pm_slice (he : PM Wx X e me) (hl : PO X lo (tO X.K X.mgx Wx ml)) (hu : PO X hi (tO X.K X.mgx Wx mu)) : PM Wx X (.Subscript e (.Slice lo hi none p2) pos) (mSlice me ml mu) :=
  pe_imp (pe_slice sl_all he hl hu) fun σ H Q ⟨G, μ, σA, h, rs, rh, k⟩ => ⟨G, μ, σA, h, rs, rh, k.bind.imp fun x G1 μ1 h1 H1 s1 rh1 k1 v rv => ⟨G1, μ1, σA, h1, rs.mono s1, rh1, k1.bind.imp fun l G2 μ2 h2 H2 s2 rh2 k2 =>
    ⟨G2, μ2, σA, h2, (rs.mono s1).mono s2, rh2, k2.bind.imp fun u G3 μ3 h3 H3 s3 rh3 k3 => slm G3 μ3 h3 H3 x v l u Q _ rh3 ((rv.mono s2).mono s3) k3⟩⟩⟩
variable {op op' : CmpOp} {r r' : R2} {f f' : W → W → M W}
def mChain (f f' : W → W → M W) (ma mb mc : ME) : ME := fun σ => mBind (ma σ) fun x => mBind (mb σ) fun y => mBind (mBind (f x y) fun w => mOf (unB w)) fun k => if k then mBind (mc σ) fun z => f' y z else mPure (.d (.bl false))
theorem pm_chain (ho : OpR X (compareOp op) r) (ho' : OpR X (compareOp op') r') (o : OpM X.K X.mgx r f) (o' : OpM X.K X.mgx r' f') (ha : PM Wx X a ma) (hb : PM Wx X b mb) (hc : PM Wx X c mc) (hm : lastMarks [op, op'] [b, c] = false := by with_unfolding_all rfl) :
    PM Wx X (.Compare a [op, op'] [b, c] pos) (mChain f f' ma mb mc) := pe_imp (pe_chain ho ho' ha hb hc hm) fun σ H Q ⟨G, μ, σA, h, rs, rh, k⟩ => ⟨G, μ, σA, h, rs, rh, k.bind.imp fun x G1 μ1 h1 H1 s1 rh1 k1 v rv => ⟨G1, μ1, σA, h1, rs.mono s1, rh1, k1.bind.imp fun y G2 μ2 h2 H2 s2 rh2 k2 u ru =>
      o G2 μ2 h2 H2 x y v u _ _ rh2 (rv.mono s2) ru (k2.bind.bind.imp fun w G3 μ3 h3 H3 s3 rh3 k3 z rz => by
        obtain ⟨b, e, k4⟩ := k3.of rh3
        refine ⟨b, unB_v rz e, ?_⟩
        cases b with
        | false => exact Ret.pure k4 rh3 _ (.bl _)
        | true => exact ⟨G3, μ3, σA, h3, ((rs.mono s1).mono s2).mono s3, rh3, (Ret.bind k4).imp fun z' G4 μ4 h4 H4 s4 rh4 k5 t rt => o' G4 μ4 h4 H4 y z' u t Q _ rh4 ((ru.mono s3).mono s4) rt k5⟩)⟩⟩
theorem pmt_chain (ho : OpR X (compareOp op) r) (ho' : OpR X (compareOp op') r') (o : OpM X.K X.mgx r f) (o' : OpM X.K X.mgx r' f') (ha : PM Wx X a ma) (hb : PM Wx X b mb) (hc : PM Wx X c mc) (hm : lastMarks [op, op'] [b, c] = false := by with_unfolding_all rfl) :
    PMT Wx X (.Compare a [op, op'] [b, c] pos) (mB (mChain f f' ma mb mc)) := pt_imp (pt_chain ho ho' ha hb hc hm) fun σ H Q q => by
  obtain ⟨G, μ, σA, h, rs, rh, k⟩ := t_b q
  exact ⟨G, μ, σA, h, rs, rh, k.bind.imp fun x G1 μ1 h1 H1 s1 rh1 k1 v rv => ⟨G1, μ1, σA, h1, rs.mono s1, rh1, k1.bind.imp fun y G2 μ2 h2 H2 s2 rh2 k2 u ru =>
      o G2 μ2 h2 H2 x y v u _ _ rh2 (rv.mono s2) ru (k2.bind.bind.imp fun w G3 μ3 h3 H3 s3 rh3 k3 z rz => by
        obtain ⟨b, e, k4⟩ := k3.of rh3
        refine ⟨b, unB_v rz e, ?_⟩
        cases b with
        | false => exact Ret.pure k4 rh3 _ (.bl _)
        | true => exact ⟨G3, μ3, σA, h3, ((rs.mono s1).mono s2).mono s3, rh3, (Ret.bind k4).imp fun z' G4 μ4 h4 H4 s4 rh4 k5 t rt => o' G4 μ4 h4 H4 y z' u t _ _ rh4 ((ru.mono s3).mono s4) rt k5⟩)⟩⟩
end
end PM

end
section
set_option Elab.async false
set_option linter.all false
set_option maxRecDepth 100000
set_option maxHeartbeats 4000000
namespace PM
open PySem PySem.Spec PyProof.Rows L2 N1
open Evl (Ex)
def tyN (h : AHp) : W → Option String
  | .d .non => some "NoneType"
  | .d (.bl _) => some "bool"
  | .d (.int _) => some "int"
  | .d (.str _) => some "str"
  | .d (.tup _) => some "tuple"
  | .d (.lst _) => some "list"
  | .ref a => match h[a]? with | some (.lst _) => some "list" | _ => none
  | _ => none
section
variable {K : PySem.W.Frag} {mg : MgX}
theorem tyN_at {G H : Hp} {μ : Mu} {h : AHp} {w : W} {v : V} {n : String} (rh : RelH K mg G μ h H) (r : RepW K mg G μ w v) (e : tyN h w = some n) : TyX K H v (.type n) := by
  unfold tyN at e
  split at e
  · cases e; cases r; exact .base .non
  · cases e; cases r; exact .base (.bl _)
  · cases e; cases r; exact .base (.int _)
  · cases e; cases r; exact .base (.str _)
  · cases e
    cases r with
    | tup s q =>
      rcases s with (s | ⟨o, s⟩) | ⟨o, its, n, s, c, _⟩
      · exact .base (.tup (rh.ex _ _ s))
      · exact .fTuple (rh.ex _ _ s)
      · exact .kTuple s c
  · cases e
    cases r with
    | lst s q => exact .base (.lst (rh.ex _ _ s))
  · split at e
    · rename_i a ws e1
      cases e
      obtain ⟨q, eq, rfl⟩ := r
      obtain ⟨vs, z1, z2⟩ := rh.ok _ _ _ eq e1
      exact .base (.lst z1)
    · cases e
  · cases e
end
section
variable {X : Cx} {Wx : WX} {e : Expr} {me : ME} {pos p p2 : Pos}
def mIsi (T : String) (me : ME) : ME := fun σ => mBind (me σ) fun w h => match tyN h w with
  | some n => mOf ((kitB n T).map fun b => .d (.bl b)) h
  | none => none
theorem pm_isi {T : String} {x : Str} (he : PM Wx X e me) (hg : Gl X "isinstance") (hm : X.mg "isinstance" = none) (hgT : Gl X x) (hmT : X.mg x = none) (hvT : bootBuiltins x = some (.type T)) (hnT : x ≠ "__name__" := by decide) (hdT : (x == ("__debug__" : Str)) = false := by decide)
    (hs : starEach [e, .Name x p2] X.env = (false, eval e X.env) :: starEach [.Name x p2] X.env := by rfl) (hs2 : starEach [.Name x p2] X.env = (false, eval (.Name x p2) X.env) :: starEach [] X.env := by rfl) (hpl : (backTo pos (starEach [.Name x p2] X.env)).any (·.1) = false := by rfl) :
    PM Wx X (.Call (.Name "isinstance" p) [e, .Name x p2] [] pos) (mIsi T me) :=
  pe_imp (pe_callB call_isi hg hm (by decide +kernel) (pa_cons he (pa_cons (pe_bltn hgT hmT hvT (v := .ty T) rfl hnT hdT) pa_nil hs2) hs) (by decide) (by decide) hs hpl) fun σ H Q ⟨G, μ, σA, h, rs, rh, k⟩ =>
    ⟨G, μ, σA, h, rs, rh, k.bind.imp fun w G1 μ1 h1 H1 s1 rh1 k1 v rv => by
      split at k1
      · rename_i n en
        obtain ⟨z, ez, k2⟩ := k1.of rh1
        cases q : kitB n T with
        | none => rw [q] at ez; cases ez
        | some b =>
          rw [q] at ez
          cases ez
          exact ⟨v, .ty T, .type n, .type T, b, rfl, .ty T, tyN_at rh1 rv en, kit_ty q, k2 _ (.bl b)⟩
      · obtain ⟨_, _, e, _⟩ := k1; cases e⟩
end
end PM

end
section
set_option Elab.async false
set_option linter.all false
set_option maxRecDepth 100000
set_option maxHeartbeats 4000000
namespace PM
open PySem PySem.Spec PyProof.Rows L2 N1
open Evl (Ex)
structure SlF (K : PySem.W.Frag) (mg : Str → Option Value) (c f : Str) (i : Nat) (C p : Addr) : Prop where
  at_ : mg c = some (.ref C)
  cls : SlX.SCls K C
  sl : SlX.Slot1 K C f p i
def attrA (h : AHp) (c : Str) (i : Nat) : W → Option W
  | .d (.obj c' fs) => if c' = c then (fs[i]?).map .d else none
  | .ref a => match h[a]? with
    | some (.inst c' fs) => if c' = c then (match fs[i]? with | some (some w) => some w | _ => none) else none
    | _ => none
  | _ => none
section
variable {X : Cx} {Wx : WX} {e o : Expr} {me mo : ME} {pos pos' : Pos} {c f : Str} {i : Nat} {C p : Addr}
def mAttr (c : Str) (i : Nat) (me : ME) : ME := fun σ => mBind (me σ) fun w h => mOf (attrA h c i w) h
theorem attr_at {K : PySem.W.Frag} {mg : MgX} {G H : Hp} {μ : Mu} {h : AHp} {w z : W} {v : V} (F : SlF K mg.f.f c f i C p) (rh : RelH K mg G μ h H) (r : RepW K mg G μ w v) (e : attrA h c i w = some z) :
    ∃ a dx vs u, v = .ref a ∧ SlX.Slt H a C dx vs ∧ vs[i]? = some (some u) ∧ RepW K mg G μ z u := by
  unfold attrA at e
  split at e
  · rename_i c' fs
    split at e
    · rename_i hc
      subst hc
      cases q : fs[i]? with
      | none => rw [q] at e; cases e
      | some d =>
        rw [q] at e
        cases e
        cases r with
        | obj m s rl =>
          rw [F.at_] at m
          cases m
          obtain ⟨u, eu, ru⟩ := rl.get q
          exact ⟨_, _, _, u, rfl, slt_mono rh.ex s, by rw [List.getElem?_map, eu]; rfl, ru⟩
    · cases e
  · rename_i a
    split at e
    · rename_i c' fs e1
      split at e
      · rename_i hc
        subst hc
        split at e
        · rename_i w' e2
          cases e
          obtain ⟨q, eq, rfl⟩ := r
          obtain ⟨C', vs, m, s, _, _, ro⟩ := rh.ok _ _ _ eq e1
          rw [F.at_] at m
          cases m
          obtain ⟨u, eu, ru⟩ := ro i _ e2
          exact ⟨_, _, _, u, rfl, s, eu, ru⟩
        · cases e
      · cases e
    · cases e
  · cases e
theorem pm_attr (F : SlF X.K X.mg c f i C p) (he : PM Wx X e me) (hb : attributeBase e f X.env (eval e X.env) = eval e X.env := by rfl) : PM Wx X (.Attribute e f pos) (mAttr c i me) :=
  pe_imp (SlX.pe_sl he hb) fun σ H Q ⟨G, μ, σA, h, rs, rh, k⟩ => ⟨G, μ, σA, h, rs, rh, k.bind.imp fun w G1 μ1 h1 H1 s1 rh1 k1 v rv => by
    obtain ⟨z, ez, k2⟩ := k1.of rh1
    obtain ⟨a, dx, vs, u, rfl, s, eu, ru⟩ := attr_at F rh1 rv ez
    exact ⟨a, C, dx, p, vs, i, u, rfl, s, F.cls, F.sl, eu, k2 u ru⟩⟩
def mProp (c : Str) (mf : MF) (me : ME) : ME := fun σ => mBind (me σ) fun w h => match w with
  | .d (.obj c' _) => if c' = c then mf [w] h else none
  | .ref a => (match h[a]? with | some (.inst c' _) => if c' = c then mf [w] h else none | _ => none)
  | _ => none
def isOb (h : AHp) (c : Str) : W → Bool
  | .d (.obj c' _) => decide (c' = c)
  | .ref a => match h[a]? with | some (.inst c' _) => decide (c' = c) | _ => false
  | _ => false
theorem ob_at {K : PySem.W.Frag} {mg : MgX} {G H : Hp} {μ : Mu} {h : AHp} {w : W} {v : V} (hm : mg c = some (.ref C)) (rh : RelH K mg G μ h H) (r : RepW K mg G μ w v) (e : isOb h c w = true) :
    ∃ a dx vs, v = .ref a ∧ SlX.Slt H a C dx vs := by
  unfold isOb at e
  split at e
  · have hc := of_decide_eq_true e
    subst hc
    cases r with
    | obj m s rl =>
      rw [hm] at m
      cases m
      exact ⟨_, _, _, rfl, slt_mono rh.ex s⟩
  · split at e
    · rename_i a c' fs e1
      have hc := of_decide_eq_true e
      subst hc
      obtain ⟨q, eq, rfl⟩ := r
      obtain ⟨C', vs, m, s, _, _, ro⟩ := rh.ok _ _ _ eq e1
      rw [hm] at m
      cases m
      exact ⟨_, _, _, rfl, s⟩
    · cases e
  · cases e
end
end PM

end
section
set_option Elab.async false
set_option linter.all false
set_option maxRecDepth 100000
set_option maxHeartbeats 4000000
namespace PM
open PySem PySem.Spec PyProof.Rows L2 N1
open Evl (Ex)
def putA (i : Nat) (w : W) (fs : List (Option W)) : List (Option W) := (fs ++ List.replicate (i + 1 - fs.length) Option.none).set i (some w)
section
variable {K : PySem.W.Frag} {mg : MgX} {G : Hp} {μ : Mu}
theorem putA_rep {i : Nat} {w : W} {v : V} {fs : List (Option W)} {vs : List (Option V)} (hl : vs.length = fs.length) (r : RepO K mg G μ fs vs) (rw_ : RepW K mg G μ w v) : RepO K mg G μ (putA i w fs) (SlX.putS i v vs) := by
  intro j x e
  unfold putA at e
  by_cases z : i = j
  · subst z
    rw [List.getElem?_set] at e
    simp at e
    obtain ⟨_, e⟩ := e
    subst e
    exact ⟨v, SlX.putS_get i v vs, rw_⟩
  · rw [List.getElem?_set_ne z] at e
    by_cases hj : j < fs.length
    · rw [List.getElem?_append_left hj] at e
      obtain ⟨u, eu, ru⟩ := r j x e
      exact ⟨u, (SlX.putS_ne (Ne.symm z)).mpr eu, ru⟩
    · rw [List.getElem?_append_right (by omega), List.getElem?_replicate] at e
      split at e <;> cases e
theorem putA_len {i : Nat} {w : W} {v : V} {fs : List (Option W)} {vs : List (Option V)} (hl : vs.length = fs.length) : (SlX.putS i v vs).length = (putA i w fs).length := by
  unfold putA SlX.putS
  simp [hl]
end
section
variable {X : Cx} {Wx : WX} {e o : Expr} {me mo : ME} {pos pos' : Pos} {c f : Str} {i : Nat} {C p : Addr}
def mSto (c : Str) (i : Nat) (me mo : ME) : MS := fun σ => mThen (mBind (me σ) fun w => mBind (mo σ) fun x => mPure (w, x)) σ fun z h => match z.2 with
  | .ref a => (match h[a]? with
    | some (.inst c' fs) => if c' = c then some (.nx σ, h.set a (.inst c (putA i z.1 fs))) else none
    | _ => none)
  | _ => none
theorem pms_sto (F : SlF X.K X.mg c f i C p) (he : PM Wx X e me) (ho : PM Wx X o mo) (hs : swapsWith e (some (.Attribute o f pos')) pos.line X.env = pure false := by rfl) : PMS Wx X (.Assign [.Attribute o f pos'] e pos) (mSto c i me mo) :=
  ps_imp (SlX.ps_sl ho he hs) fun D σ H ⟨G, μ, σA, h, rs, rh, k⟩ => by
    have k0 := RetS.then rs k
    refine ⟨G, μ, σA, h, rs, rh, k0.bind.imp fun w G1 μ1 h1 H1 s1 rh1 k1 v rv => ⟨G1, μ1, σA, h1, rs.mono s1, rh1, k1.bind.imp fun x G2 μ2 h2 H2 s2 rh2 k2 u ru => ?_⟩⟩
    have k3 := Ret.pure k2 rh2
    obtain ⟨r, h', e, k4⟩ := k3
    dsimp only at e
    split at e
    · rename_i a
      split at e
      · rename_i c' fs e1
        split at e
        · rename_i hc
          subst hc
          cases e
          obtain ⟨q, eq, rfl⟩ := ru
          obtain ⟨C', vs, m, s, hl, nq, ro⟩ := rh2.ok _ _ _ eq e1
          have m : X.mg _ = _ := m
          rw [F.at_] at m
          cases m
          obtain ⟨n1, n2⟩ := rh2.poke (H' := SlX.slH H2 q.1 C q.2 (SlX.putS i v vs)) (o' := .inst c' (putA i w fs)) eq e1 (fun z => nomatch z) (fun b z1 z2 => SlX.slH_ne z1 z2) (by
            rcases SlX.slH_slt (H := H2) (a := q.1) (C := C) (dx := q.2) (vs := SlX.putS i v vs) nq with ⟨y, _⟩ | ⟨y1, y2⟩
            · refine ⟨⟨_, y⟩, ?_⟩
              unfold SlX.slH
              rw [upd_ne nq]
              exact ⟨_, upd_same⟩
            · exact ⟨⟨_, y1⟩, _, y2⟩) ⟨C, _, F.at_, SlX.slH_slt nq, putA_len hl, nq, putA_rep hl ro (rv.mono s2)⟩
          exact ⟨q.1, C, q.2, p, vs, i, rfl, s, F.cls, F.sl, k4 _ _ _ σ n2 n1 (((rs.mono s1).mono s2).mono n2)⟩
        · cases e
      · cases e
    · cases e
end
end PM

end
section
set_option Elab.async false
set_option linter.all false
set_option maxRecDepth 100000
set_option maxHeartbeats 4000000
namespace PM
open PySem PySem.Spec PyProof.Rows L2 N1
open Evl (Ex)
section
variable {K : PySem.W.Frag} {mg : MgX} {G H : Hp} {μ : Mu} {h : AHp}
theorem RelH.newTwo {H' : Hp} {x y : Addr} {o : AO} (rh : RelH K mg G μ h H) (hx : H x = none) (hy : H y = none) (e : Ex H H') (tx : ∃ u, H' x = some u) (ty : ∃ u, H' y = some u) (new : ∀ (_ : Step G μ H G (μ ++ [(x, y)]) H'), AOk K mg G (μ ++ [(x, y)]) H' (x, y) o) :
    RelH K mg G (μ ++ [(x, y)]) (h ++ [o]) H' ∧ Step G μ H G (μ ++ [(x, y)]) H' := by
  have gx : G x = none := Evl.fresh_back rh.ex hx
  have gy : G y = none := Evl.fresh_back rh.ex hy
  have s : Step G μ H G (μ ++ [(x, y)]) H' := ⟨Ex.refl G, ⟨[(x, y)], rfl, fun q hq => by simp at hq; subst hq; exact ⟨hx, hy⟩⟩, fun a o ha _ => e a o ha, fun a o ha => ⟨o, e a o ha⟩, fun _ _ _ _ hg => hg⟩
  have split : ∀ (i : Nat) (q : Addr × Addr), (μ ++ [(x, y)])[i]? = some q → μ[i]? = some q ∨ (i = μ.length ∧ q = (x, y)) := fun i q a => by
    rcases Nat.lt_trichotomy i μ.length with z | z | z
    · rw [List.getElem?_append_left z] at a; exact .inl a
    · subst z; rw [List.getElem?_append_right (Nat.le_refl _)] at a; simp at a; exact .inr ⟨rfl, a.symm⟩
    · rw [List.getElem?_append_right (by omega), List.getElem?_eq_none (by simp; omega)] at a; cases a
  have old : ∀ (i : Nat) (q : Addr × Addr), μ[i]? = some q → q.1 ≠ x ∧ q.2 ≠ x ∧ q.1 ≠ y ∧ q.2 ≠ y := fun i q a => by
    obtain ⟨⟨o1, z1⟩, o2, z2⟩ := rh.there q (List.mem_of_getElem? a)
    exact ⟨fun z => (by rw [z, hx] at z1; cases z1), fun z => (by rw [z, hx] at z2; cases z2), fun z => (by rw [z, hy] at z1; cases z1), fun z => (by rw [z, hy] at z2; cases z2)⟩
  have hA : ∀ (i : Nat) (u : AO) (q : Addr × Addr), μ[i]? = some q → (h ++ [o])[i]? = some u → h[i]? = some u := fun i u q a b => by
    have := (List.getElem?_eq_some_iff.mp a).1
    rw [rh.len] at this
    rw [List.getElem?_append_left this] at b
    exact b
  refine ⟨⟨fun a u ha => e a u (rh.ex a u ha), by simp [rh.len], fun i j q r a b n => ?_, fun i u q a b c => ?_, fun q hq => ?_, fun i u q a b => ?_⟩, s⟩
  · rcases split i q a with a1 | ⟨a1, rfl⟩
    · rcases split j r b with b1 | ⟨b1, rfl⟩
      · exact rh.sep i j q r a1 b1 n
      · obtain ⟨z1, z2, z3, z4⟩ := old i q a1
        exact ⟨z1, z3, z2, z4⟩
    · rcases split j r b with b1 | ⟨b1, rfl⟩
      · obtain ⟨z1, z2, z3, z4⟩ := old j r b1
        exact ⟨fun z => z1 z.symm, fun z => z2 z.symm, fun z => z3 z.symm, fun z => z4 z.symm⟩
      · exact absurd (a1.trans b1.symm) n
  · rcases split i q a with a1 | ⟨a1, rfl⟩
    · exact rh.free i u q a1 (hA i u q a1 b) c
    · exact ⟨gx, gy⟩
  · rcases List.mem_append.mp hq with z | z
    · obtain ⟨⟨o1, z1⟩, o2, z2⟩ := rh.there q z
      exact ⟨⟨o1, e _ _ z1⟩, o2, e _ _ z2⟩
    · simp at z; subst z; exact ⟨tx, ty⟩
  · rcases split i q a with a1 | ⟨a1, rfl⟩
    · exact (rh.ok i u q a1 (hA i u q a1 b)).mono s e
    · rw [a1, rh.len, List.getElem?_append_right (Nat.le_refl _)] at b
      simp at b
      subst b
      exact new s
def unO : List (Option W) → Option (List D)
  | [] => some []
  | some (.d x) :: r => (unO r).map (x :: ·)
  | _ :: _ => none
theorem unO_rep : ∀ {fs : List (Option W)} {vs : List (Option V)} {ds : List D}, vs.length = fs.length → RepO K mg G μ fs vs → unO fs = some ds → ∃ us, vs = us.map some ∧ RepL K mg.f G ds us
  | [], [], _, _, _, e => by cases e; exact ⟨[], rfl, .nil⟩
  | some (.d x) :: r, v :: vs, ds, hl, ro, e => by
    unfold unO at e
    cases q : unO r with
    | none => rw [q] at e; cases e
    | some z =>
      rw [q] at e
      cases e
      obtain ⟨u, eu, ru⟩ := ro 0 _ rfl
      obtain ⟨us, rfl, rl⟩ := unO_rep (fs := r) (vs := vs) (by simpa using hl) (fun i w e => ro (i + 1) w (by simpa using e)) q
      have ev : v = some u := by simpa using eu
      subst ev
      exact ⟨u :: us, rfl, .cons ru rl⟩
  | none :: _, _, _, _, _, e => by cases e
  | some (.ref _) :: _, _, _, _, _, e => by cases e
  | some (.d _) :: _, [], _, hl, _, _ => by simp at hl
  | [], _ :: _, _, hl, _, _ => by simp at hl
theorem RelH.freezeI {a : Nat} {q : Addr × Addr} {c : Str} {fs : List (Option W)} {ds : List D} (rh : RelH K mg G μ h H) (e1 : μ[a]? = some q) (e2 : h[a]? = some (.inst c fs)) (e3 : unO fs = some ds) :
    ∃ G', RelH K mg G' μ (h.set a .dead) H ∧ Step G μ H G' μ H ∧ Rep K mg.f G' (.obj c ds) (.ref q.1) := by
  obtain ⟨C, vs, m, s, hl, nq, ro⟩ := rh.ok a _ q e1 e2
  obtain ⟨g1, g2⟩ := rh.free a _ q e1 e2 (fun z => nomatch z)
  obtain ⟨us, rfl, rl⟩ := unO_rep hl ro e3
  have eg : Ex G (fun p => if p = q.1 ∨ p = q.2 then H p else G p) := fun p u hp => by
    have : ¬ (p = q.1 ∨ p = q.2) := fun z => by
      rcases z with z | z
      · rw [z, g1] at hp; cases hp
      · rw [z, g2] at hp; cases hp
    show (if p = q.1 ∨ p = q.2 then H p else G p) = some u
    rw [if_neg this]; exact hp
  obtain ⟨r1, s1⟩ := rh.freeze (u := .own 0) (G' := fun p => if p = q.1 ∨ p = q.2 then H p else G p) e1 e2 (fun z => nomatch z) eg (fun p u hp => by
    by_cases z : p = q.1 ∨ p = q.2
    · have hp' : (if p = q.1 ∨ p = q.2 then H p else G p) = some u := hp
      rw [if_pos z] at hp'; exact hp'
    · have hp' : (if p = q.1 ∨ p = q.2 then H p else G p) = some u := hp
      rw [if_neg z] at hp'; exact rh.ex p u hp') (fun p z1 z2 => by
        show (if p = q.1 ∨ p = q.2 then H p else G p) = G p
        rw [if_neg (fun z => z.elim z1 z2)])
  refine ⟨_, r1, s1, .obj (dx := q.2) m ?_ (rl.mono eg)⟩
  have k1 : (if q.1 = q.1 ∨ q.1 = q.2 then H q.1 else G q.1) = H q.1 := if_pos (.inl rfl)
  have k2 : (if q.2 = q.1 ∨ q.2 = q.2 then H q.2 else G q.2) = H q.2 := if_pos (.inr rfl)
  rcases s with ⟨s, z⟩ | ⟨s, z⟩
  · exact .inl ⟨k1.trans s, z⟩
  · exact .inr ⟨k1.trans s, k2.trans z⟩
end
end PM

end
section
set_option Elab.async false
set_option linter.all false
set_option maxRecDepth 100000
set_option maxHeartbeats 4000000
namespace PM
open PySem PySem.Spec PyProof.Rows L2 N1
open Evl (Ex)
section
variable {X : Cx} {Wx : WX} {e : Expr} {es : List Expr} {ma : MA} {f C : Addr} {k n : Nat} {mf : MF} {x c : Str} {p pos : Pos}
def tMakeS (C : Addr) (sp : Sp) (E : L2.St → XK) (t : TA) : TE := fun σ H Q => t σ H fun vs H1 => ∀ x dx, H1 x = Option.none → H1 dx = Option.none → dx ≠ x →
  sp (V.ref x :: vs) (upd (upd H1 dx (.own x)) x (.ins C dx [])) (fun v H2 => v = .non ∧ Q (.ref x) H2) (E σ)
theorem run_makeS {CX : CXT} {sp : Sp} {E : XK} {pins : List (Addr × Obj)} {σ : L2.St} {H : Hp} {s : Shared} {Q : VK} {us : List Value} {vs : List V} (M : Mk X.K C f) (F : FnR X.prog X.w X.K X.mg X.base CX k f sp) (hr : Room (k + 1) X.A) (hx : PassesAt CX X σ E) (I : Inv X pins σ H s) (r : Vals vs us)
    (h : ∀ x dx, H x = Option.none → H dx = Option.none → dx ≠ x → sp (V.ref x :: vs) (upd (upd H dx (.own x)) x (.ins C dx [])) (fun v H2 => v = .non ∧ Q (.ref x) H2) E) :
    wpAny (model X.prog X.w) X.A (call (.ref C) us) (EP X pins σ Q) X.xe s := by
  have hq := h (s.heap.objs.size + 1) s.heap.objs.size (I.hok.fresh (Nat.le_succ _)) (I.hok.fresh (Nat.le_refl _)) (Nat.ne_of_lt (Nat.lt_succ_self _))
  have I2 := Inv.made (C := C) I
  have r2 : Vals (V.ref (s.heap.objs.size + 1) :: vs) (Value.ref (s.heap.objs.size + 1) :: us) := .cons rfl r
  refine wpAny_call (make_map (f := f) I.kIn M.makes M.init (beq_iff_eq.mp M.fn) (codeAny_mono (F _ X.stack _ _ (Value.ref (s.heap.objs.size + 1) :: us) _ _ E (hr.make C us []) (I2.env0.make C us []) r2 hq) fun r s' hq' => ?_))
  cases r with
  | error e => exact hx pins _ _ e s' I2 hq'
  | ok fl =>
    cases fl with
    | ret u =>
      obtain ⟨v, H', I3, rv, ev, q3⟩ := I2.after hq'
      subst ev
      exact ⟨rv, ⟨V.ref (s.heap.objs.size + 1), H', I3, rfl, q3⟩⟩
    | next => exact False.elim hq'
    | brk => exact False.elim hq'
    | cont => exact False.elim hq'
theorem pe_makeS {CX : CXT} {sp : Sp} {t : TA} {E : L2.St → XK} (M : Mk X.K C f) (F : FnR X.prog X.w X.K X.mg X.base CX k f sp) (hr : Room (k + 1) X.A) (hg : Gl X x) (hm : X.mg x = some (.ref C)) (hx : ∀ σ, PassesAt CX X σ (E σ)) (ha : PA X (e :: es) t) (hdb : (x == ("__debug__" : Str)) = false := by decide)
    (he : starEach (e :: es) X.env = (false, eval e X.env) :: starEach es X.env := by rfl) (hpl : (backTo pos (starEach es X.env)).any (·.1) = false := by rfl) : PE X (.Call (.Name x p) (e :: es) [] pos) (tMakeS C sp E t) := by
  refine ⟨fun pins s σ H Q I h => ?_⟩
  refine wpAny_Call_Name_kw (ld_glob I hg hm ?_ hdb)
  refine PySem.W.callWith_K (h₀ := X.base) I.ok.mod.kin M.kp (thn (ha.run pos pins s σ H _ I h) fun us s1 ⟨vs, H1, I1, r, q⟩ => ⟨I1.kIn, ?_⟩) he hpl
  exact run_makeS M F hr (hx σ) I1 r q
end
end PM

end
section
set_option Elab.async false
set_option linter.all false
set_option maxRecDepth 100000
set_option maxHeartbeats 4000000
namespace PM
open PySem PySem.Spec PyProof.Rows L2 N1
open Evl (Ex)
def mkEnd (c : Str) (n : Nat) : Option (R W × AHp) → Option (R W × AHp)
  | some (.ok w, h') => if isN w then (match h'[n]? with
      | some (.inst c' fs) => if c' = c then (match unO fs with | some ds => cutR n (.ok (.d (.obj c ds))) h' | none => none) else none
      | _ => none) else none
  | some (.exc c fs, h') => cutR n (.exc c fs) h'
  | none => none
def mMake (c : Str) (n : Nat) (mf : MF) (ma : MA) : ME := fun σ => mBind (ma σ) fun ws h => if ws.length + 1 = n then mkEnd c h.length (mf (.ref h.length :: ws) (h ++ [.inst c []])) else none
section
variable {K : PySem.W.Frag} {mg : MgX} {G H G' H' : Hp} {μ μ' : Mu} {h : AHp}
theorem Step.cut (s : Step G μ H G' μ' H') : Step G μ H G' μ H' := ⟨s.g, ⟨[], by simp, by simp⟩, s.fr, s.st, s.gn⟩
theorem cut_at {n : Nat} {r r0 : R W} {h' h1 : AHp} (z : cutR n r0 h1 = some (r, h')) : r = r0 ∧ h' = h1.take n ∧ (h1.take n).all (AO.low n) = true ∧ lowR n r0 = true := by
  unfold cutR at z
  split at z
  · rename_i c
    rw [Bool.and_eq_true] at c
    cases z
    exact ⟨rfl, rfl, c.1, c.2⟩
  · cases z
end
section
variable {X : Cx} {Wx : WX} {e : Expr} {es : List Expr} {ma : MA} {f C : Addr} {k n : Nat} {mf : MF} {c : Str} {p pos : Pos}
theorem pm_make (hcm : X.calm = true) (M : Mk X.K C f) (F : FnR X.prog X.w X.K X.mg X.base (CX X.prog X.w) k f (spM X.K X.mgw n mf)) (hr : Room (k + 1) X.A) (hg : Gl X c) (hm : X.mg c = some (.ref C)) (tk : Takes X Wx) (ha : PMA Wx X (e :: es) ma) (hdb : (c == ("__debug__" : Str)) = false := by decide)
    (he : starEach (e :: es) X.env = (false, eval e X.env) :: starEach es X.env := by rfl) (hpl : (backTo pos (starEach es X.env)).any (·.1) = false := by rfl) : PM Wx X (.Call (.Name c p) (e :: es) [] pos) (mMake c n mf ma) :=
  pe_imp (pe_makeS M F hr hg hm (fun σ => passAt tk σ) ha hdb he hpl) fun σ H Q ⟨G, μ, σA, h, rs, rh, k⟩ => ⟨G, μ, σA, h, rs, rh, k.bind.imp fun ws G1 μ1 h1 H1 s1 rh1 k1 vs rv a dx na nd ne => by
    rw [mgx_calm hcm] at rv rh1 k1
    split at k1
    · rename_i hn
      obtain ⟨n1, n2⟩ := rh1.newTwo (H' := upd (upd H1 dx (.own a)) a (.ins C dx [])) (x := a) (y := dx) (o := .inst c []) na nd (fun b u hb => by rw [upd_ne (ne_of_none hb na), upd_ne (ne_of_none hb nd)]; exact hb) ⟨_, upd_same⟩ (by rw [upd_ne ne]; exact ⟨_, upd_same⟩)
        (fun _ => ⟨C, [], hm, .inl ⟨upd_same, rfl⟩, rfl, ne, fun i w z => by simp at z⟩)
      refine ⟨by simp [← rv.length, ← hn], G1, μ1 ++ [(a, dx)], .ref h1.length :: ws, h1 ++ [.inst c []], .cons ⟨(a, dx), by rw [← rh1.len, List.getElem?_append_right (Nat.le_refl _)]; simp, rfl⟩ (rv.mono n2), n1, ?_⟩
      obtain ⟨r, h', e', k2⟩ := k1
      cases q : mf (.ref h1.length :: ws) (h1 ++ [.inst c []]) with
      | none => rw [q] at e'; cases e'
      | some z =>
        obtain ⟨r0, h2⟩ := z
        rw [q] at e'
        refine ⟨r0, h2, rfl, ?_⟩
        cases r0 with
        | exc c2 fs =>
          obtain ⟨rfl, rfl, c1, c2⟩ := cut_at e'
          intro G2 μ2 H2 cls d s2 rh2 ix
          obtain ⟨more, em, _⟩ := s2.m
          rw [List.append_assoc] at em
          subst em
          rw [← rh1.len] at c1 k2
          exact k2 G2 μ1 H2 cls d (n2.trans s2).cut (rh2.cut c1) ix
        | ok w =>
          intro G2 μ2 H2 s2 rh2 v rw_
          unfold mkEnd at e'
          dsimp only at e'
          split at e'
          · rename_i hw
            refine ⟨isN_y rw_ hw, ?_⟩
            split at e'
            · rename_i c' fs e2
              split at e'
              · rename_i hc
                subst hc
                split at e'
                · rename_i ds e3
                  obtain ⟨rfl, rfl, c1, c2⟩ := cut_at e'
                  obtain ⟨more, em, _⟩ := s2.m
                  have eq : μ2[h1.length]? = some (a, dx) := by
                    rw [em, List.append_assoc, ← rh1.len, List.getElem?_append_right (Nat.le_refl _)]; simp
                  obtain ⟨G3, r3, s3, rp⟩ := rh2.freezeI eq e2 e3
                  rw [List.append_assoc] at em
                  subst em
                  have tk : (h2.set h1.length AO.dead).take h1.length = h2.take h1.length := by
                    refine List.ext_getElem? fun j => ?_
                    by_cases hj : j < h1.length
                    · rw [List.getElem?_take_of_lt hj, List.getElem?_take_of_lt hj, List.getElem?_set_ne (by omega)]
                    · rw [List.getElem?_eq_none (by rw [List.length_take]; omega), List.getElem?_eq_none (by rw [List.length_take]; omega)]
                  rw [← rh1.len] at tk c1 k2 r3
                  have r4 := r3.cut (by rw [tk]; exact c1)
                  rw [tk] at r4
                  exact k2 G3 μ1 H2 ((n2.trans s2).trans s3).cut r4 _ rp
                · cases e'
              · cases e'
            · cases e'
          · cases e'
    · obtain ⟨_, _, e, _⟩ := k1; cases e⟩
end
end PM

end
section
set_option Elab.async false
set_option linter.all false
set_option maxRecDepth 100000
set_option maxHeartbeats 4000000
namespace PM
open PySem PySem.Spec PyProof.Rows L2 N1
open Evl (Ex)
abbrev E0 : XK := fun _ _ _ => False
theorem pass_E0 {X : Cx} : Passes (CX X.prog X.w) X E0 := passes_call (W := WF) takes_F fun _ _ _ _ h => h
section
variable {X : Cx} {Wx : WX} {e o : Expr} {es : List Expr} {me mo : ME} {ma : MA} {f C p g : Addr} {k n : Nat} {mf : MF} {c a : Str} {pos apos : Pos}
def mOb1 (c : Str) (mf : MF) (me : ME) : ME := fun σ => mBind (me σ) fun w h => if isOb h c w then mNoX (mf [w]) h else none
theorem ret_noX {K : PySem.W.Frag} {mg : MgX} {G H : Hp} {μ : Mu} {h : AHp} {m : M W} {Q : VK} {EX EX' : XK} (k : Ret K mg G μ H (mNoX m h) (fun w G' μ' _ H' => ∀ v, RepW K mg G' μ' w v → Q v H') EX) : Ret K mg G μ H (m h) (fun w G' μ' _ H' => ∀ v, RepW K mg G' μ' w v → Q v H') EX' := Ret.noX k
theorem t_ob1 {K : PySem.W.Frag} {mg : MgW} {σ : L2.St} {H : Hp} {Q : VK} (hm : mg c = some (.ref C)) (q : tE K (.of mg) Wx (mOb1 c mf me) σ H Q) : SlX.tPropSl C (spM K mg 1 mf) E0 (tE K (.of mg) Wx me) σ H Q := by
  obtain ⟨G, μ, σA, h, rs, rh, k⟩ := q
  refine ⟨G, μ, σA, h, rs, rh, k.bind.imp fun w G1 μ1 h1 H1 s1 rh1 k1 v rv => ?_⟩
  split at k1
  · rename_i ho
    obtain ⟨a, dx, vs, rfl, s⟩ := ob_at hm rh1 rv ho
    exact ⟨a, dx, vs, rfl, s, rfl, G1, μ1, [w], h1, .cons rv .nil, rh1, ret_noX k1⟩
  · obtain ⟨_, _, e, _⟩ := k1; cases e
theorem pm_prop (hcm : X.calm = true) (hm : X.mg c = some (.ref C)) (hp : PE X (.Attribute e a pos) (SlX.tPropSl C (spM X.K X.mgw 1 mf) E0 (tE X.K X.mgx Wx me))) : PM Wx X (.Attribute e a pos) (mOb1 c mf me) := by
  unfold PM
  rw [mgx_calm hcm] at hp ⊢
  exact pe_imp hp fun _ _ _ => t_ob1 hm
def mMeth (c : Str) (n : Nat) (mf : MF) (mo : ME) (ma : MA) : ME := fun σ => mBind (mo σ) fun w h => if isOb h c w then mBind (ma σ) (fun ws => if ws.length + 1 = n then mNoX (mf (w :: ws)) else mFail) h else none
theorem t_meth {K : PySem.W.Frag} {mg : MgW} {σ : L2.St} {H : Hp} {Q : VK} (hm : mg c = some (.ref C)) (q : tE K (.of mg) Wx (mMeth c n mf mo ma) σ H Q) : SlX.tMethSl C (spM K mg n mf) E0 (tE K (.of mg) Wx mo) (tA K (.of mg) Wx ma) σ H Q := by
  obtain ⟨G, μ, σA, h, rs, rh, k⟩ := q
  refine ⟨G, μ, σA, h, rs, rh, k.bind.imp fun w G1 μ1 h1 H1 s1 rh1 k1 v rv => ?_⟩
  split at k1
  · rename_i ho
    obtain ⟨a, dx, vs, rfl, s⟩ := ob_at hm rh1 rv ho
    refine ⟨a, dx, vs, rfl, s, G1, μ1, σA, h1, rs.mono s1, rh1, k1.bind.imp fun ws G2 μ2 h2 H2 s2 rh2 k2 us ru => ?_⟩
    split at k2
    · rename_i hn
      exact ⟨by simp [← ru.length, ← hn], G2, μ2, w :: ws, h2, .cons (rv.mono s2) ru, rh2, ret_noX k2⟩
    · obtain ⟨_, _, e, _⟩ := k2; cases e
  · obtain ⟨_, _, e, _⟩ := k1; cases e
def fOwn (c : Str) (mf : MF) : W → W → M W := fun x y h => if isOb h c x && isOb h c y then mNoX (mf [x, y]) h else none
theorem opm_own {K : PySem.W.Frag} {mg : MgW} (hm : mg c = some (.ref C)) (hf : PySem.W.notFirst K C (.ref C) = true) : OpM K (.of mg) (SlX.rOwn K C (spM K mg 2 mf) E0) (fOwn c mf) := fun G μ h H x y v u Q EX rh rx ry k => by
  unfold fOwn at k
  split at k
  · rename_i ho
    rw [Bool.and_eq_true] at ho
    obtain ⟨a, dx, vs, rfl, s⟩ := ob_at hm rh rx ho.1
    obtain ⟨b, dy, us, rfl, s'⟩ := ob_at hm rh ry ho.2
    exact ⟨a, dx, vs, b, C, dy, us, rfl, rfl, s, s', hf, rfl, G, μ, [x, y], h, .cons rx (.cons ry .nil), rh, ret_noX k⟩
  · obtain ⟨_, _, e, _⟩ := k; cases e
end
end PM

end
section
set_option Elab.async false
set_option linter.all false
set_option maxRecDepth 100000
set_option maxHeartbeats 4000000
namespace PM
open PySem PySem.Spec PyProof.Rows L2 N1
open Evl (Ex)
theorem mul_same (l : Addr) (items : Array Value) (n : Nat) (x : Int) (u : Tok) (c0 : (decide (x < -(2 ^ 63)) || decide (x ≥ 2 ^ 63)) = false) (c1 : (items.isEmpty || x == 1) = true) :
    Meets (Builtin.«tuple.__mul__» ⟨[.ref l, .int x u], []⟩) (fun _ R s => (∃ dd sl, s.heap.get? l = some { cls := .type "tuple", dict := dd, data := .seq items n, slots := sl }) ∧ R (.ok (.ret (Value.ref l))) s) :=
  .of_wp fun prog w A R s h => by
    obtain ⟨hp, g, d, tk, os⟩ := s
    obtain ⟨⟨dd, sl, hl⟩, h⟩ := h
    have f1 := AutoSeq1.idx_int
    wp_walk using wpAny_loadPart' hl
    repeat (first
      | (refine wpAny_ite_false (decide_eq_false (by rw [c0]; exact Bool.false_ne_true)) ?_; wp_walk using wpAny_loadPart' hl)
      | (refine wpAny_ite_true (decide_eq_true c1) ?_; wp_walk using wpAny_loadPart' hl))
    exact ⟨_, rfl, h⟩
theorem mul_zero (l : Addr) (items : Array Value) (n : Nat) (x : Int) (u : Tok) (c0 : (decide (x < -(2 ^ 63)) || decide (x ≥ 2 ^ 63)) = false) (c1 : (items.isEmpty || x == 1) = false) (c2 : (decide (x ≤ 0) || items.isEmpty) = true) :
    Meets (Builtin.«tuple.__mul__» ⟨[.ref l, .int x u], []⟩) (fun _ R s => (∃ dd sl, s.heap.get? l = some { cls := .type "tuple", dict := dd, data := .seq items n, slots := sl }) ∧
      R (.ok (.ret (Value.ref s.heap.objs.size))) { s with heap := s.heap.push { cls := Value.type "tuple", data := Data.seq #[] }, toks := s.toks }) :=
  .of_wp fun prog w A R s h => by
    obtain ⟨hp, g, d, tk, os⟩ := s
    obtain ⟨⟨dd, sl, hl⟩, h⟩ := h
    have f1 := AutoSeq1.idx_int
    wp_walk using wpAny_loadPart' hl
    repeat (first
      | (refine wpAny_ite_false (decide_eq_false (by rw [c0]; exact Bool.false_ne_true)) ?_; wp_walk using wpAny_loadPart' hl)
      | (refine wpAny_ite_false (decide_eq_false (by rw [c1]; exact Bool.false_ne_true)) ?_; wp_walk using wpAny_loadPart' hl)
      | (refine wpAny_ite_true (decide_eq_true c2) ?_; wp_walk using wpAny_loadPart' hl))
    exact ⟨_, rfl, h⟩
def rRepS (K : PySem.W.Frag) : R2 := fun x y H Q => ∃ l k xs, x = .ref l ∧ y = .int k ∧ SqT K H l xs ∧ (-1000 ≤ k ∧ k ≤ 1000) ∧ ((xs = [] ∨ k = 1) ∧ Q (.ref l) H ∨ (xs ≠ [] ∧ k ≤ 0) ∧ ∀ p, H p = none → Q (.ref p) (upd H p (.tup [])))
theorem op_repS {X : Cx} : OpR X (binaryOp .Mult) (rRepS X.K) := by
  intro pins s σ H x y v u Q I rx ry h
  obtain ⟨l, k, xs, rfl, rfl, hT, hk, q⟩ := h
  cases rx
  obtain ⟨t, rfl⟩ := ry
  obtain ⟨its, r, ⟨⟨cls, dd, data, sl⟩, ho, hc, n, hd⟩, hs⟩ := I.tuple hT
  simp only at hc hd
  subst hc hd
  have hle : its.length = xs.length := r.length.symm
  have c0 : (decide (k < -(2 ^ 63)) || decide (k ≥ 2 ^ 63)) = false := by
    rw [decide_eq_false (by omega), decide_eq_false (by omega)] <;> rfl
  refine wpAny_binaryOp_repeat_ref (T := "tuple") (U := "int") (by decide) ⟨_, ho, rfl⟩ (fun s' => typeIs_int s' k t) noFill_tuple_mul F.fills_int_mul F.slot_int_rmul repeat_tuple F.slot_int_index.lookup (call_meets F.slot_int_rmul (typeIs_int s k t) F.entry_int_rmul (F.args_int_rmul_2 _ _) (int_rmul_tuple k t l its.toArray n dd sl) ⟨ho, rfl, ⟨_, ho, rfl⟩, ?_⟩)
  rcases q with ⟨c, q⟩ | ⟨⟨c, c'⟩, q⟩
  · have c1 : (its.toArray.isEmpty || k == 1) = true := by
      rcases c with rfl | rfl
      · have : its = [] := List.eq_nil_of_length_eq_zero hle
        subst this
        rfl
      · simp
    exact call_meets F.slot_tuple_mul ⟨_, ho, rfl⟩ F.entry_tuple_mul (F.args_tuple_mul_2 _ _) (mul_same l its.toArray n k t c0 c1) ⟨⟨_, _, ho⟩, .ref l, H, I, rfl, q⟩
  · have hi : its.toArray.isEmpty = false := by
      cases its with
      | nil => exact absurd (List.eq_nil_of_length_eq_zero hle.symm) c
      | cons a b => rfl
    have c1 : (its.toArray.isEmpty || k == 1) = false := by
      rw [hi, Bool.false_or]
      exact beq_eq_false_iff_ne.mpr (by omega)
    have c2 : (decide (k ≤ 0) || its.toArray.isEmpty) = true := by rw [decide_eq_true c']; rfl
    refine call_meets F.slot_tuple_mul ⟨_, ho, rfl⟩ F.entry_tuple_mul (F.args_tuple_mul_2 _ _) (mul_zero l its.toArray n k t c0 c1 c2) ⟨⟨_, _, ho⟩, ?_⟩
    refine ⟨.ref s.heap.objs.size, _, I.laid (t' := s.toks) (o := .tup []) (fun b ob q => Heap.get?_push_of_some _ q) (Nat.le_refl _) ?_, rfl, q _ (I.hok.fresh (Nat.le_refl _))⟩
    exact ⟨Nat.zero_le _, [], .nil, IsTup.new _ _⟩
end PM

end
section
set_option Elab.async false
set_option linter.all false
set_option maxRecDepth 100000
set_option maxHeartbeats 4000000
set_option exponentiation.threshold 10000
namespace PM
open PySem PySem.Spec PyProof.Rows L2 N1
section
variable {K : PySem.W.Frag} {mg : MgX}
def fSub : W → W → M W := fI fun i j => some (.int (i - j))
theorem opm_sub : OpM K mg (rI0 fun i j => .int (i - j)) fSub := opm_I0 fun i j _ => .int _
def fLt : W → W → M W := fI fun i j => some (.bl (decide (i < j)))
theorem opm_lt : OpM K mg (rI0 fun i j => .bl (decide (i < j))) fLt := opm_I0 fun i j _ => .bl _
def fLe : W → W → M W := fI fun i j => some (.bl (decide (i ≤ j)))
theorem opm_le : OpM K mg (rI0 fun i j => .bl (decide (i ≤ j))) fLe := opm_I0 fun i j _ => .bl _
def fGt : W → W → M W := fI fun i j => some (.bl (decide (j < i)))
theorem opm_gt : OpM K mg (rI0 fun i j => .bl (decide (j < i))) fGt := opm_I0 fun i j _ => .bl _
def fGe : W → W → M W := fI fun i j => some (.bl (decide (j ≤ i)))
theorem opm_ge : OpM K mg (rI0 fun i j => .bl (decide (j ≤ i))) fGe := opm_I0 fun i j _ => .bl _
def fMulI (i j : Int) : Option D := if ((-(2 ^ 64) < i ∧ i < 2 ^ 64) ∨ (-(2 ^ 64) < j ∧ j < 2 ^ 64)) then some (.int (i * j)) else none
theorem opm_mulI : OpM K mg (rI CMul fun i j => .int (i * j)) (fI fMulI) := opm_I fun i j d e => by
  unfold fMulI at e
  split at e
  · rename_i c
    cases e
    exact ⟨c, fun _ => .int _⟩
  · cases e
def fModI (i j : Int) : Option D := if 0 < j then some (.int (i % j)) else none
theorem opm_mod : OpM K mg (rI (fun _ j => 0 < j) fun i j => .int (i % j)) (fI fModI) := opm_I fun i j d e => by
  unfold fModI at e
  split at e
  · rename_i c
    cases e
    exact ⟨c, fun _ => .int _⟩
  · cases e
def fDivI (i j : Int) : Option D := if 0 < j ∧ j.natAbs.log2 < 9000 then some (.int (i / j)) else none
theorem opm_fdiv : OpM K mg (rI CDivW fun i j => .int (i / j)) (fI fDivI) := opm_I fun i j d e => by
  unfold fDivI at e
  split at e
  · rename_i c
    cases e
    exact ⟨c, fun _ => .int _⟩
  · cases e
def fPowI (i j : Int) : Option D := if 0 ≤ j ∧ j ≤ 1000000 ∧ i.natAbs < 2 ^ 64 then some (.int (i ^ j.toNat)) else none
theorem opm_pow : OpM K mg (rI CPow fun i j => .int (i ^ j.toNat)) (fI fPowI) := opm_I fun i j d e => by
  unfold fPowI at e
  split at e
  · rename_i c
    cases e
    exact ⟨c, fun _ => .int _⟩
  · cases e
def fMul : W → W → M W := fun x y => mOf (match x, y with
  | .d (.int i), .d (.int j) => (fMulI i j).map .d
  | .d (.lst ds), .d (.int j) => if 0 ≤ j ∧ j < 1000 ∧ ds.length * j.toNat ≤ sizeLine then some (.d (.lst (List.replicate j.toNat ds).flatten)) else none
  | .d (.tup ds), .d (.int j) => if -1000 ≤ j ∧ j ≤ 1000 ∧ ds.length ≤ 1000 then some (.d (.tup (List.replicate j.toNat ds).flatten)) else none
  | _, _ => none)
def rMulAll (K : PySem.W.Frag) : R2 := fun x y H Q => rI CMul (fun i j => .int (i * j)) x y H Q ∨ rRep x y H Q ∨ rRepT K x y H Q ∨ rRepS K x y H Q
theorem op_mulAll {X : Cx} : OpR X (binaryOp .Mult) (rMulAll X.K) := or_op op_mul (or_op op_rep (or_op op_repT op_repS))
theorem repL_flat {G : Hp} {ds : List D} {vs : List V} (r : RepL K mg.f G ds vs) : ∀ n : Nat, RepL K mg.f G (List.replicate n ds).flatten (List.replicate n vs).flatten
  | 0 => .nil
  | n + 1 => by
    rw [List.replicate_succ, List.replicate_succ, List.flatten_cons, List.flatten_cons]
    exact r.append (repL_flat r n)
theorem opm_mulAll : OpM K mg (rMulAll K) fMul := fun G μ h H x y v u Q EX rh rx ry k => by
  unfold fMul at k
  have k0 := k
  obtain ⟨w, e, k'⟩ := k.of rh
  split at e
  · rename_i i j
    refine .inl (opm_mulI G μ h H _ _ v u Q EX rh rx ry ?_)
    exact k0
  · split at e
    · rename_i ds j c
      cases e
      cases rx with
      | lst s1 r1 =>
        cases ry
        refine .inr (.inl ⟨_, j, _, rfl, rfl, rh.ex _ _ s1, by omega, by omega, by rw [← r1.length]; exact c.2.2, fun p hp => ?_⟩)
        simp only [mOf, if_pos c] at k0
        exact Ret.lst (h := h) k0 rh (repL_flat r1 _) p hp
    · cases e
  · split at e
    · rename_i ds j c
      cases e
      cases rx with
      | tup s1 r1 =>
        cases ry
        have hlen := r1.length
        by_cases c1 : ds = [] ∨ j = 1
        · refine .inr (.inr (.inr ⟨_, j, _, rfl, rfl, Evl.ex_t rh.ex s1, ⟨c.1, c.2.1⟩, .inl ⟨?_, ?_⟩⟩))
          · rcases c1 with rfl | rfl
            · exact .inl (List.eq_nil_of_length_eq_zero hlen.symm)
            · exact .inr rfl
          · have ed : (List.replicate j.toNat ds).flatten = ds := by
              rcases c1 with rfl | rfl
              · simp
              · simp
            simp only [mOf, if_pos c] at k0
            rw [ed] at k0
            exact Ret.pure (h := h) k0 rh _ (.tup s1 r1)
        · have hne : ds ≠ [] := fun z => c1 (.inl z)
          have hnv : ∀ {us : List V}, RepL K mg.f G ds us → us ≠ [] := fun r z => hne (by have := r.length; rw [z] at this; exact List.eq_nil_of_length_eq_zero this)
          by_cases c2 : j ≤ 0
          · refine .inr (.inr (.inr ⟨_, j, _, rfl, rfl, Evl.ex_t rh.ex s1, ⟨c.1, c.2.1⟩, .inr ⟨⟨hnv r1, c2⟩, fun p hp => ?_⟩⟩))
            have ed : (List.replicate j.toNat ds).flatten = [] := by
              have : j.toNat = 0 := by omega
              rw [this]; rfl
            simp only [mOf, if_pos c] at k0
            rw [ed] at k0
            exact Ret.tup (h := h) k0 rh .nil p hp
          · refine .inr (.inr (.inl ⟨_, j, _, rfl, rfl, Evl.ex_t rh.ex s1, hnv r1, ?_, c.2.1, by rw [← r1.length]; exact c.2.2, fun p hp => ?_⟩))
            · have : j ≠ 1 := fun z => c1 (.inr z)
              omega
            · simp only [mOf, if_pos c] at k0
              exact Ret.tup (h := h) k0 rh (repL_flat r1 _) p hp
    · cases e
  · cases e
end
end PM

end
section
set_option Elab.async false
set_option linter.all false
set_option maxRecDepth 100000
set_option maxHeartbeats 4000000
namespace PM
open PySem PySem.Spec PyProof.Rows L2 N1
open Evl (Ex)
abbrev PostW (K : PySem.W.Frag) (mg : MgX) (Q : VK) : W → Hp → Mu → AHp → Hp → Prop := fun w G' μ' _ H' => ∀ v, RepW K mg G' μ' w v → Q v H'
def OpX (X : Cx) (Wx : WX) (f : Value → Value → Sem Value) (g : W → W → M W) : Prop := ∀ (pins : List (Addr × Obj)) (s : Shared) (σ : L2.St) (H G : Hp) (μ : Mu) (h : AHp) (x y : W) (xv yv : V) (v u : Value) (Q : VK),
  Inv X pins σ H s → RelH X.K X.mgx G μ h H → RepW X.K X.mgx G μ x xv → RepW X.K X.mgx G μ y yv → RelV xv v → RelV yv u →
  Ret X.K X.mgx G μ H (g x y h) (PostW X.K X.mgx Q) (fun cls d H' => Wx cls d σ H') → wpAny (model X.prog X.w) X.A (f v u) (EP X pins σ Q) X.xe s
def IxX (X : Cx) (Wx : WX) (g : W → W → M W) : Prop := ∀ (value slice : Expr) (pins : List (Addr × Obj)) (s : Shared) (σ : L2.St) (H G : Hp) (μ : Mu) (h : AHp) (x y : W) (xv yv : V) (v u : Value) (Q : VK),
  Inv X pins σ H s → RelH X.K X.mgx G μ h H → RepW X.K X.mgx G μ x xv → RepW X.K X.mgx G μ y yv → RelV xv v → RelV yv u →
  Ret X.K X.mgx G μ H (g x y h) (PostW X.K X.mgx Q) (fun cls d H' => Wx cls d σ H') → subscripted slice false v u = operate [v, u] (getItem v u) → wpAny (model X.prog X.w) X.A (subscriptTail value slice v u) (EP X pins σ Q) X.xe s
def CallX (X : Cx) (Wx : WX) (f : Value) (g : List W → M W) : Prop := ∀ (pins : List (Addr × Obj)) (s : Shared) (σ : L2.St) (H G : Hp) (μ : Mu) (h : AHp) (ws : List W) (vs : List V) (us : List Value) (Q : VK),
  Inv X pins σ H s → RelH X.K X.mgx G μ h H → RepWs X.K X.mgx G μ ws vs → Vals vs us →
  Ret X.K X.mgx G μ H (g ws h) (PostW X.K X.mgx Q) (fun cls d H' => Wx cls d σ H') → wpAny (model X.prog X.w) X.A (call f us) (EP X pins σ Q) X.xe s
section
variable {X : Cx} {Wx : WX} {a b c e : Expr} {es : List Expr} {ma mb mc me : ME} {mas : MA} {pos p : Pos} {f : Value → Value → Sem Value} {g g' : W → W → M W}
theorem OpX.of {r : R2} (ho : OpR X f r) (om : OpM X.K X.mgx r g) : OpX X Wx f g := fun pins s σ H G μ h x y xv yv v u Q I rh r1 r2 rx ry k => ho pins s σ H xv yv v u Q I rx ry (om G μ h H x y xv yv Q _ rh r1 r2 k)
theorem IxX.of {r : R2} (ho : IxR X r) (om : OpM X.K X.mgx r g) : IxX X Wx g := fun value slice pins s σ H G μ h x y xv yv v u Q I rh r1 r2 rx ry k hs => ho value slice pins s σ H xv yv v u Q I rx ry (om G μ h H x y xv yv Q _ rh r1 r2 k) hs
theorem CallX.of {fv : Value} {r : List V → Hp → VK → Prop} {g : List W → M W} (ho : CallR X fv r) (om : CallM X.K X.mgx r g) : CallX X Wx fv g := fun pins s σ H G μ h ws vs us Q I rh r1 rx k => ho pins s σ H vs us Q I rx (om G μ h H ws vs Q _ rh r1 k)
theorem OpX.ite {c : W → W → AHp → Bool} (h1 : OpX X Wx f g) (h2 : OpX X Wx f g') : OpX X Wx f (fun x y h => if c x y h then g x y h else g' x y h) := fun pins s σ H G μ h x y xv yv v u Q I rh r1 r2 rx ry k => by
  cases q : c x y h with
  | true => dsimp only at k; rw [q] at k; exact h1 pins s σ H G μ h x y xv yv v u Q I rh r1 r2 rx ry k
  | false => dsimp only at k; rw [q] at k; exact h2 pins s σ H G μ h x y xv yv v u Q I rh r1 r2 rx ry k
theorem IxX.ite {c : W → W → AHp → Bool} (h1 : IxX X Wx g) (h2 : IxX X Wx g') : IxX X Wx (fun x y h => if c x y h then g x y h else g' x y h) := fun value slice pins s σ H G μ h x y xv yv v u Q I rh r1 r2 rx ry k => by
  cases q : c x y h with
  | true => dsimp only at k; rw [q] at k; exact h1 value slice pins s σ H G μ h x y xv yv v u Q I rh r1 r2 rx ry k
  | false => dsimp only at k; rw [q] at k; exact h2 value slice pins s σ H G μ h x y xv yv v u Q I rh r1 r2 rx ry k
theorem CallX.ite {fv : Value} {c : List W → AHp → Bool} {g g' : List W → M W} (h1 : CallX X Wx fv g) (h2 : CallX X Wx fv g') : CallX X Wx fv (fun ws h => if c ws h then g ws h else g' ws h) := fun pins s σ H G μ h ws vs us Q I rh r1 rx k => by
  cases q : c ws h with
  | true => dsimp only at k; rw [q] at k; exact h1 pins s σ H G μ h ws vs us Q I rh r1 rx k
  | false => dsimp only at k; rw [q] at k; exact h2 pins s σ H G μ h ws vs us Q I rh r1 rx k
theorem ret_bad {K : PySem.W.Frag} {mg : MgX} {G H : Hp} {μ : Mu} {α : Type} {Q : α → Hp → Mu → AHp → Hp → Prop} {EX : XK} (k : Ret K mg G μ H none Q EX) : False := by
  obtain ⟨_, _, e, _⟩ := k; cases e
theorem OpX.bad : OpX X Wx f (fun _ _ _ => none) := fun pins s σ H G μ h x y xv yv v u Q I rh r1 r2 rx ry k => (ret_bad k).elim
theorem IxX.bad : IxX X Wx (fun _ _ _ => none) := fun value slice pins s σ H G μ h x y xv yv v u Q I rh r1 r2 rx ry k => (ret_bad k).elim
theorem CallX.bad {fv : Value} : CallX X Wx fv (fun _ _ => none) := fun pins s σ H G μ h ws vs us Q I rh r1 rx k => (ret_bad k).elim
def BinAt (X : Cx) (Wx : WX) (σ : L2.St) (g : W → W → M W) (Q : VK) (x y : V) (H : Hp) : Prop := ∃ G μ h wx wy, RelH X.K X.mgx G μ h H ∧ RepW X.K X.mgx G μ wx x ∧ RepW X.K X.mgx G μ wy y ∧ Ret X.K X.mgx G μ H (g wx wy h) (PostW X.K X.mgx Q) (fun cls d H' => Wx cls d σ H')
theorem t_binX {σ : L2.St} {H : Hp} {Q : VK} (q : tE X.K X.mgx Wx (mBin g ma mb) σ H Q) : tE X.K X.mgx Wx ma σ H fun x H1 => tE X.K X.mgx Wx mb σ H1 fun y H2 => BinAt X Wx σ g Q x y H2 := by
  obtain ⟨G, μ, σA, h, rs, rh, k⟩ := q
  refine ⟨G, μ, σA, h, rs, rh, k.bind.imp fun x G1 μ1 h1 H1 s1 rh1 k1 v rv => ⟨G1, μ1, σA, h1, rs.mono s1, rh1, k1.bind.imp fun y G2 μ2 h2 H2 s2 rh2 k2 u ru => ?_⟩⟩
  exact ⟨G2, μ2, h2, x, y, rh2, rv.mono s2, ru, k2⟩
theorem OpX.at {pins : List (Addr × Obj)} {s : Shared} {σ : L2.St} {H : Hp} {x y : V} {v u : Value} {Q : VK} (o : OpX X Wx f g) (I : Inv X pins σ H s) (rx : RelV x v) (ry : RelV y u) (q : BinAt X Wx σ g Q x y H) : wpAny (model X.prog X.w) X.A (f v u) (EP X pins σ Q) X.xe s := by
  obtain ⟨G, μ, h, wx, wy, rh, r1, r2, k⟩ := q
  exact o pins s σ H G μ h wx wy x y v u Q I rh r1 r2 rx ry k
theorem pm_opX {op : Operator} (o : OpX X Wx (binaryOp op) g) (ha : PM Wx X a ma) (hb : PM Wx X b mb) : PM Wx X (.BinOp a op b pos) (mBin g ma mb) :=
  ⟨fun pins s σ H Q I h => wpAny_BinOp (L2.bin ha hb I (t_binX h) fun v u s2 x y H2 I2 rx ry q => o.at I2 rx ry q)⟩
theorem pm_cmpX {op : CmpOp} (o : OpX X Wx (compareOp op) g) (ha : PM Wx X a ma) (hb : PM Wx X b mb) (hm : behindInMarks op b = false) : PM Wx X (.Compare a [op] [b] pos) (mBin g ma mb) :=
  ⟨fun pins s σ H Q I h => wpAny_Compare1 (L2.bin ha hb I (t_binX h) fun v u s2 x y H2 I2 rx ry q => o.at I2 rx ry q) hm⟩
theorem pm_ixX (o : IxX X Wx g) (ha : PM Wx X a ma) (hb : PM Wx X b mb) (hs : PlainIx b) : PM Wx X (.Subscript a b pos) (mBin g ma mb) :=
  ⟨fun pins s σ H Q I h => Subscript_ (L2.bin ha hb I (t_binX h) fun v u s2 x y H2 I2 rx ry q => by
    obtain ⟨G, μ, h, wx, wy, rh, r1, r2, k⟩ := q
    exact o a b pins s2 σ H2 G μ h wx wy x y v u Q I2 rh r1 r2 rx ry k (hs _ _))⟩
theorem pmt_cmpX {op : CmpOp} (o : OpX X Wx (compareOp op) g) (ha : PM Wx X a ma) (hb : PM Wx X b mb) (hm : behindInMarks op b = false) : PMT Wx X (.Compare a [op] [b] pos) (mB (mBin g ma mb)) := by
  refine ⟨fun pins s σ H Q I h => ?_⟩
  refine wpAny_isTrue_Compare1 (thn (ha.run pins s σ H _ I (t_binX (t_b h))) fun v s1 ⟨x, H1, I1, r1, q1⟩ => thn (hb.run pins s1 σ H1 _ I1 q1) fun u s2 ⟨y, H2, I2, r2, q2⟩ =>
    thn (o.at I2 r1 r2 q2) fun c s3 ⟨z, H3, I3, r3, k, e, q3⟩ => ?_) hm
  subst e
  cases r3
  exact wpAny_truthy_bool ⟨H3, I3, q3⟩
theorem t_chainX {σ : L2.St} {H : Hp} {Q : VK} (q : tE X.K X.mgx Wx (mChain g g' ma mb mc) σ H Q) : tE X.K X.mgx Wx ma σ H fun x H1 => tE X.K X.mgx Wx mb σ H1 fun y H2 => BinAt X Wx σ g (fun z H3 => ∃ k, z = .bl k ∧ (if k = true then tE X.K X.mgx Wx mc σ H3 fun w' H4 => BinAt X Wx σ g' Q y w' H4 else Q (.bl false) H3)) x y H2 := by
  obtain ⟨G, μ, σA, h, rs, rh, k⟩ := q
  refine ⟨G, μ, σA, h, rs, rh, k.bind.imp fun x G1 μ1 h1 H1 s1 rh1 k1 v rv => ⟨G1, μ1, σA, h1, rs.mono s1, rh1, k1.bind.imp fun y G2 μ2 h2 H2 s2 rh2 k2 u ru => ?_⟩⟩
  refine ⟨G2, μ2, h2, x, y, rh2, rv.mono s2, ru, k2.bind.bind.imp fun w G3 μ3 h3 H3 s3 rh3 k3 z rz => ?_⟩
  obtain ⟨b, e, k4⟩ := k3.of rh3
  refine ⟨b, unB_v rz e, ?_⟩
  cases b with
  | false => exact iteF (Ret.pure k4 rh3 _ (.bl _))
  | true => exact iteT ⟨G3, μ3, σA, h3, ((rs.mono s1).mono s2).mono s3, rh3, (Ret.bind k4).imp fun z' G4 μ4 h4 H4 s4 rh4 k5 t rt => ⟨G4, μ4, h4, y, z', rh4, (ru.mono s3).mono s4, rt, k5⟩⟩
variable {op op' : CmpOp}
theorem pm_chainX (o : OpX X Wx (compareOp op) g) (o' : OpX X Wx (compareOp op') g') (ha : PM Wx X a ma) (hb : PM Wx X b mb) (hc : PM Wx X c mc) (hm : lastMarks [op, op'] [b, c] = false) : PM Wx X (.Compare a [op, op'] [b, c] pos) (mChain g g' ma mb mc) := by
  refine ⟨fun pins s σ H Q I h => ?_⟩
  refine Compare_chain (thn (ha.run pins s σ H _ I (t_chainX h)) fun v s1 ⟨x, H1, I1, r1, q1⟩ => chain_link (thn (hb.run pins s1 σ H1 _ I1 q1) fun u s2 ⟨y, H2, I2, r2, q2⟩ =>
    thn (o.at I2 r1 r2 q2) fun d s3 ⟨z, H3, I3, r3, k, e, q3⟩ => ?_)) hm
  subst e
  cases r3
  refine wpAny_truthy_bool ?_
  cases k with
  | false => exact ite_ff ⟨.bl false, H3, I3, rfl, q3⟩
  | true => exact ite_tt (chain_last (thn (hc.run pins s3 σ H3 _ I3 q3) fun w' s4 ⟨z', H4, I4, r4, q4⟩ => o'.at I4 r2 r4 q4))
theorem pmt_chainX (o : OpX X Wx (compareOp op) g) (o' : OpX X Wx (compareOp op') g') (ha : PM Wx X a ma) (hb : PM Wx X b mb) (hc : PM Wx X c mc) (hm : lastMarks [op, op'] [b, c] = false) : PMT Wx X (.Compare a [op, op'] [b, c] pos) (mB (mChain g g' ma mb mc)) := by
  refine ⟨fun pins s σ H Q I h => ?_⟩
  refine isTrue_chain (thn (ha.run pins s σ H _ I (t_chainX (t_b h))) fun v s1 ⟨x, H1, I1, r1, q1⟩ => test_link (thn (hb.run pins s1 σ H1 _ I1 q1) fun u s2 ⟨y, H2, I2, r2, q2⟩ =>
    thn (o.at I2 r1 r2 q2) fun d s3 ⟨z, H3, I3, r3, k, e, q3⟩ => ?_)) hm
  subst e
  cases r3
  refine wpAny_truthy_bool ?_
  cases k with
  | false =>
    obtain ⟨k', e', q'⟩ := q3
    cases e'
    exact ite_ff ⟨H3, I3, q'⟩
  | true =>
    refine ite_tt (test_last (thn (hc.run pins s3 σ H3 _ I3 q3) fun w' s4 ⟨z', H4, I4, r4, q4⟩ => thn (o'.at I4 r2 r4 q4) fun d' s5 ⟨z5, H5, I5, r5, k', e', q5⟩ => ?_))
    subst e'
    cases r5
    exact wpAny_truthy_bool ⟨H5, I5, q5⟩
end
def mBad : ME := fun _ _ => none
def mtBad : MT := fun _ _ => none
def maBad : MA := fun _ _ => none
def msBad : MS := fun _ _ => none
section
variable {X : Cx} {Wx : WX} {e : Expr} {es : List Expr} {st : Stmt} {sts : List Stmt}
theorem pm_bad : PM Wx X e mBad := ⟨fun pins s σ H Q I ⟨G, μ, σA, h, rs, rh, k⟩ => (ret_bad k).elim⟩
theorem pmt_bad : PMT Wx X e mtBad := ⟨fun pins s σ H Q I ⟨G, μ, σA, h, rs, rh, k⟩ => (ret_bad k).elim⟩
theorem pmw_bad : PMW Wx X e mtBad := ⟨fun w pins s σ H Q I ⟨G, μ, σA, h, rs, rh, k⟩ => (ret_bad k).elim⟩
theorem pma_bad : PMA Wx X es maBad := ⟨fun pos pins s σ H Q I ⟨G, μ, σA, h, rs, rh, k⟩ => (ret_bad k).elim⟩
theorem pms_bad : PMS Wx X st msBad := ⟨fun pins s σ H D I ⟨G, μ, σA, h, rs, rh, _, _, e, _⟩ => by cases e⟩
theorem pmss_bad : PMSs Wx X sts msBad := ⟨fun pins s σ H D I ⟨G, μ, σA, h, rs, rh, _, _, e, _⟩ => by cases e⟩
end
end PM

end
section
set_option Elab.async false
set_option linter.all false
set_option maxRecDepth 100000
set_option maxHeartbeats 4000000
namespace PM
open PySem PySem.Spec PyProof.Rows L2 N1
open Evl (Ex)
abbrev FnM (P : Program) (w : World) (K : PySem.W.Frag) (mg : Str → Option Value) (base : Heap) (k : Nat) (f : Addr) (n : Nat) (mf : MF) : Prop := FnR P w K mg base (CX P w) k f (spM K ⟨mg, w⟩ n mf)
def mLen (n : Nat) (mf : MF) : MF := fun ws h => if ws.length = n then mf ws h else none
section
variable {X : Cx} {Wx : WX} {pins : List (Addr × Obj)} {s : Shared} {σ : L2.St} {H G : Hp} {μ : Mu} {h : AHp} {k n : Nat} {g C : Addr} {mf : MF} {Q : VK}
theorem run_X {A : Around} {ws : List W} {vs : List V} {us : List Value} (F : FnM X.prog X.w X.K X.mg X.base k g n mf) (hr : Room k A) (e0 : Env0 X.prog X.w X.K X.mg X.base A X.stack s H) (hcm : X.calm = true) (tk : Takes X Wx) (I : Inv X pins σ H s) (rh : RelH X.K X.mgx G μ h H)
    (rw_ : RepWs X.K X.mgx G μ ws vs) (rv : Vals vs us) (q : Ret X.K X.mgx G μ H (mLen n mf ws h) (PostW X.K X.mgx Q) (fun cls d H' => Wx cls d σ H')) : wpAny (model X.prog X.w) A (call (.ref g) us) (EP X pins σ Q) X.xe s := by
  rw [mgx_calm hcm] at rh rw_ q
  unfold mLen at q
  split at q
  · rename_i hn
    refine wpAny_call (codeAny_mono (F A X.stack s H us vs Q _ hr e0 rv ⟨by rw [← rw_.length]; exact hn, G, μ, ws, h, rw_, rh, q⟩) fun r s' hq => ?_)
    cases r with
    | error e => exact passAt tk σ pins H s e s' I hq
    | ok fl =>
      cases fl with
      | ret u => exact I.after hq
      | next => exact False.elim hq
      | brk => exact False.elim hq
      | cont => exact False.elim hq
  · exact (ret_bad q).elim
structure OwnF (P : Program) (w : World) (K : PySem.W.Frag) (mg : Str → Option Value) (base : Heap) (k : Nat) (c : Str) (C : Addr) (name : Str) (g : Addr) (n : Nat) (mf : MF) : Prop where
  at_ : mg c = some (.ref C)
  find : PySem.W.findIn K (.ref C) name = some (some (.ref g))
  fn : PySem.W.isFn K (.ref g) = true
  run : FnM P w K mg base k g n mf
def fBinO (c : Str) (mf : MF) : W → W → M W := fun x y h => if isOb h c x && isOb h c y then mLen 2 mf [x, y] h else none
theorem opx_bin {op : Operator} {c : Str} (hc : PySem.W.selfFirst X.K C = true) (F : OwnF X.prog X.w X.K X.mg X.base k c C (PySem.dunder op.info.2) g 2 mf) (hr : Room k X.A) (hcm : X.calm = true) (tk : Takes X Wx) : OpX X Wx (binaryOp op) (fBinO c mf) := by
  intro pins s σ H G μ h x y xv yv v u Q I rh r1 r2 rx ry q
  unfold fBinO at q
  split at q
  · rename_i ho
    rw [Bool.and_eq_true] at ho
    obtain ⟨a, dx, vs, rfl, ha⟩ := ob_at F.at_ rh r1 ho.1
    obtain ⟨b, dy, us, rfl, hb⟩ := ob_at F.at_ rh r2 ho.2
    cases (show v = Value.ref a from rx)
    cases (show u = Value.ref b from ry)
    obtain ⟨sl, od, _, J, _⟩ := SlX.slt_inst I ha
    obtain ⟨sl', od', _, J', _⟩ := SlX.slt_inst I hb
    obtain ⟨m, hF⟩ := I.fr
    refine PySem.W.binop_K hF I.ok.mod.kin J J'.type hc F.find F.fn ?_
    refine wpAny_mono (run_X (us := [.ref a, .ref b]) F.run hr I.env0 hcm tk I rh (.cons r1 (.cons r2 .nil)) (.cons rfl (.cons rfl .nil)) q) (fun w s' z => ?_) fun _ _ x => x
    obtain ⟨z', H', I', rz, qz⟩ := z
    exact SlX.cmpback rz ⟨z', H', I', rz, qz⟩
  · exact (ret_bad q).elim
def fCmpO (c c' : Str) (mf : MF) : W → W → M W := fun x y h => if isOb h c x && isOb h c' y then mLen 2 mf [x, y] h else none
theorem opx_cmp {op : CmpOp} {c c' : Str} {C' : Addr} (hop : ∀ a b, compareOp op a b = richCompare op a b) (hc' : X.mg c' = some (.ref C')) (hn : PySem.W.notFirst X.K C (.ref C') = true) (F : OwnF X.prog X.w X.K X.mg X.base k c C (cmpInfo op).2.1 g 2 mf) (hr : Room k X.A) (hcm : X.calm = true) (tk : Takes X Wx) :
    OpX X Wx (compareOp op) (fCmpO c c' mf) := by
  intro pins s σ H G μ h x y xv yv v u Q I rh r1 r2 rx ry q
  unfold fCmpO at q
  split at q
  · rename_i ho
    rw [Bool.and_eq_true] at ho
    obtain ⟨a, dx, vs, rfl, ha⟩ := ob_at F.at_ rh r1 ho.1
    obtain ⟨b, dy, us, rfl, hb⟩ := ob_at hc' rh r2 ho.2
    cases (show v = Value.ref a from rx)
    cases (show u = Value.ref b from ry)
    obtain ⟨sl, od, _, J, _⟩ := SlX.slt_inst I ha
    obtain ⟨sl', od', _, J', _⟩ := SlX.slt_inst I hb
    obtain ⟨m, hF⟩ := I.fr
    rw [hop]
    refine PySem.W.cmp_K (op := op) (tb := .ref C') hr.units0 hF I.ok.mod.kin J J'.type hn F.find F.fn ?_
    refine wpAny_mono (run_X (us := [.ref a, .ref b]) F.run hr I.env0 hcm tk I rh (.cons r1 (.cons r2 .nil)) (.cons rfl (.cons rfl .nil)) q) (fun w s' z => ?_) fun _ _ x => x
    obtain ⟨z', H', I', rz, qz⟩ := z
    exact SlX.cmpback rz ⟨z', H', I', rz, qz⟩
  · exact (ret_bad q).elim
def fInO (neg : Bool) (c : Str) (mf : MF) : W → W → M W := fun x y h => if isOb h c y then mBind (mBind (mLen 2 mf [y, x]) fun w => mOf (unB w)) (fun b => mPure (.d (.bl (if neg then !b else b)))) h else none
theorem opx_in {c : Str} (neg : Bool) (F : OwnF X.prog X.w X.K X.mg X.base k c C "__contains__" g 2 mf) (hr : Room k X.A) (hcm : X.calm = true) (tk : Takes X Wx) : OpX X Wx (compareOp (if neg then .NotIn else .In)) (fInO neg c mf) := by
  intro pins s σ H G μ h x y xv yv v u Q I rh r1 r2 rx ry q
  unfold fInO at q
  split at q
  · rename_i ho
    obtain ⟨b, dy, us, rfl, hb⟩ := ob_at F.at_ rh r2 ho
    cases (show u = Value.ref b from ry)
    obtain ⟨sl', od', _, J', _⟩ := SlX.slt_inst I hb
    obtain ⟨m, hF⟩ := I.fr
    have q1 := q.bind.bind
    have run := run_X (us := [.ref b, v]) (Q := fun z H' => ∃ c, z = .bl c ∧ Q (.bl (if neg then !c else c)) H') F.run hr I.env0 hcm tk I rh (.cons r2 (.cons r1 .nil)) (.cons rfl (.cons rx .nil)) (q1.imp fun w G1 μ1 h1 H1 s1 rh1 k1 v rv => by
      obtain ⟨b, e, k2⟩ := k1.of rh1
      exact ⟨b, unB_v rv e, Ret.pure k2 rh1 _ (.bl _)⟩)
    cases neg with
    | false =>
      refine PySem.W.in_K hF I.ok.mod.kin J' F.find F.fn (wpAny_mono run (fun w s' z => ?_) fun _ _ x => x)
      obtain ⟨z', H', I', rz, c, rfl, qz⟩ := z
      cases (show w = Value.bool c from rz)
      exact wpAny_truthy_bool ⟨.bl c, H', I', rfl, qz⟩
    | true =>
      refine PySem.W.notIn_K hF I.ok.mod.kin J' F.find F.fn (wpAny_mono run (fun w s' z => ?_) fun _ _ x => x)
      obtain ⟨z', H', I', rz, c, rfl, qz⟩ := z
      cases (show w = Value.bool c from rz)
      exact wpAny_truthy_bool ⟨.bl (!c), H', I', rfl, qz⟩
  · exact (ret_bad q).elim
def fIxO (c : Str) (mf : MF) : W → W → M W := fun x y h => if isOb h c x then mLen 2 mf [x, y] h else none
def IxXS (X : Cx) (Wx : WX) (g : W → W → M W) : Prop := ∀ (value slice : Expr) (pins : List (Addr × Obj)) (s : Shared) (σ : L2.St) (H G : Hp) (μ : Mu) (h : AHp) (x y : W) (xv yv : V) (v u : Value) (Q : VK),
  Inv X pins σ H s → RelH X.K X.mgx G μ h H → RepW X.K X.mgx G μ x xv → RepW X.K X.mgx G μ y yv → RelV xv v → RelV yv u →
  Ret X.K X.mgx G μ H (g x y h) (PostW X.K X.mgx Q) (fun cls d H' => Wx cls d σ H') → subscripted slice false v u = operate [v, u] (getItem v u) → subscripted slice true v u = runValue (.builtin "lifetime.subscript" ⟨[v, u], []⟩) → wpAny (model X.prog X.w) X.A (subscriptTail value slice v u) (EP X pins σ Q) X.xe s
theorem ixx_own {c : Str} (F : OwnF X.prog X.w X.K X.mg X.base k c C "__getitem__" g 2 mf) (hfn : PySem.W.fnIn X.K g = true) (hr : Room (k + 1) X.A) (hcm : X.calm = true) (tk : Takes X Wx) : IxXS X Wx (fIxO c mf) := by
  intro value slice pins s σ H G μ h x y xv yv v u Q I rh r1 r2 rx ry q hs1 hs2
  unfold fIxO at q
  split at q
  · rename_i ho
    obtain ⟨b, dy, us, rfl, hb⟩ := ob_at F.at_ rh r1 ho
    cases (show v = Value.ref b from rx)
    obtain ⟨sl', od', _, J', _⟩ := SlX.slt_inst I hb
    obtain ⟨m, hF⟩ := I.fr
    exact PySem.W.sub_K hF I.ok.mod.kin J' F.find hfn F.fn (run_X (us := [.ref b, u]) F.run hr.in1 I.env0.in1 hcm tk I rh (.cons r1 (.cons r2 .nil)) (.cons rfl (.cons ry .nil)) q) hs2
  · exact (ret_bad q).elim
def unI : W → Option Int
  | .d (.int i) => some i
  | _ => none
theorem unI_v {K : PySem.W.Frag} {mg : MgX} {G : Hp} {μ : Mu} {w : W} {v : V} {i : Int} (r : RepW K mg G μ w v) (e : unI w = some i) : v = .int i := by
  unfold unI at e
  split at e
  · cases e; cases r; rfl
  · cases e
def fLenO (c : Str) (mf : MF) : List W → M W := fun ws h => match ws with
  | [x] => if isOb h c x then mBind (mLen 1 mf [x]) (fun w => mOf (match unI w with | some i => if 0 ≤ i ∧ i < 2 ^ 63 then some (.d (.int i)) else none | none => none)) h else none
  | _ => none
theorem callx_len {c : Str} (F : OwnF X.prog X.w X.K X.mg X.base k c C "__len__" g 1 mf) (hr : Room (k + 1) X.A) (hcm : X.calm = true) (tk : Takes X Wx) : CallX X Wx (.builtin "len") (fLenO c mf) := by
  intro pins s σ H G μ h ws vs us Q I rh r1 rx q
  unfold fLenO at q
  split at q
  · split at q
    · rename_i x ho
      obtain ⟨v, rfl, rv⟩ := one_of r1
      obtain ⟨b, dy, us', rfl, hb⟩ := ob_at F.at_ rh rv ho
      obtain ⟨u, rfl, ru⟩ := rx.one
      cases (show u = Value.ref b from ru)
      obtain ⟨sl', od', _, J', _⟩ := SlX.slt_inst I hb
      obtain ⟨m, hF⟩ := I.fr
      have run := run_X (us := [.ref b]) (Q := fun z H' => ∃ i, z = .int i ∧ (0 ≤ i ∧ i < 2 ^ 63) ∧ Q (.int i) H') F.run hr.in1 I.env0.in1 hcm tk I rh (.cons rv .nil) (.cons rfl .nil) (q.bind.imp fun w G1 μ1 h1 H1 s1 rh1 k1 v rv => by
        obtain ⟨b, e, k2⟩ := k1.of rh1
        split at e
        · rename_i i ei
          split at e
          · rename_i c
            cases e
            exact ⟨i, unI_v rv ei, c, k2 _ (.int _)⟩
          · cases e
        · cases e)
      refine PySem.W.len_K hF I.ok.mod.kin J' F.find F.fn (wpAny_mono run (fun w s' z => ?_) fun _ _ x => x)
      obtain ⟨z', H', I', rz, i, rfl, c, qz⟩ := z
      obtain ⟨t, rfl⟩ := (show ∃ t, w = Value.int i t from rz)
      exact ⟨c, .int i, H', I'.tok _, ⟨_, rfl⟩, qz⟩
    · exact (ret_bad q).elim
  · exact (ret_bad q).elim
end
end PM

end
section
set_option Elab.async false
set_option linter.all false
set_option maxRecDepth 100000
set_option maxHeartbeats 4000000
namespace PM
open PySem PySem.Spec PyProof.Rows L2 N1
open Evl (Ex)
def keyD : D → Option Key
  | .int i => some (.inl i)
  | .str x => some (.inr x)
  | _ => none
def keysD : List D → Option (List Key)
  | [] => some []
  | d :: ds => match keyD d, keysD ds with | some k, some ks => some (k :: ks) | _, _ => none
theorem keyD_kD (k : Key) : keyD (kD k) = some k := by cases k <;> rfl
theorem keyD_eq {d : D} {k : Key} (e : keyD d = some k) : d = kD k := by
  unfold keyD at e
  split at e <;> cases e <;> rfl
theorem keysD_map : ∀ kk : List Key, keysD (kk.map kD) = some kk
  | [] => rfl
  | k :: kk => by rw [List.map_cons, keysD, keyD_kD, keysD_map kk]
theorem keysD_eq : ∀ {ks : List D} {kk : List Key}, keysD ks = some kk → ks = kk.map kD
  | [], _, e => by cases e; rfl
  | d :: ds, kk, e => by
    unfold keysD at e
    split at e
    · rename_i k ks e1 e2
      cases e
      rw [List.map_cons, keyD_eq e1, keysD_eq e2]
    · cases e
theorem tkey_no {d : D} {k : NestedKey} (e : tkey d = some k) : keyD d = none ∧ ∃ ds ks, d = .tup ds ∧ nkeys ds = some ks ∧ k = .tup ks ∧ k.depth ≤ 8 := by
  unfold tkey at e
  split at e
  · split at e
    · split at e
      · cases e
        exact ⟨rfl, _, _, rfl, by assumption, rfl, by assumption⟩
      · cases e
    · cases e
  · cases e
theorem tk_nil {ks : List D} {kk : List Key} {nk : List NestedKey} (e1 : keysD ks = some kk) (e2 : tkeys ks = some nk) : ks = [] ∧ kk = [] ∧ nk = [] := by
  cases ks with
  | nil => cases e1; cases e2; exact ⟨rfl, rfl, rfl⟩
  | cons d ds =>
    unfold keysD at e1
    unfold tkeys at e2
    split at e2
    · rename_i h1 h2
      rw [(tkey_no h1).1] at e1
      cases e1
    · cases e2
section
variable {X : Cx} {pins : List (Addr × Obj)} {σ : L2.St} {H G : Hp} {s : Shared} {mg : MgW}
mutual
theorem nested_of (I : Inv X pins σ H s) (eg : Ex G H) : ∀ {d : D} {v : V} {k : NestedKey} {u : Value}, Rep X.K mg G d v → nkey d = some k → RelV v u → NestedIs s.heap k u
  | .non, _, _, _, .non, e, r => by cases e; cases (show _ = Value.none from r); exact .none
  | .bl b, _, _, _, .bl _, e, r => by cases e; cases (show _ = Value.bool b from r); exact .bool rfl
  | .int i, _, _, _, .int _, e, r => by cases e; obtain ⟨t, rfl⟩ := (show ∃ t, _ = Value.int i t from r); exact .int i t
  | .str x, _, _, _, .str _, e, r => by cases e; obtain ⟨t, rfl⟩ := (show ∃ t, _ = Value.str x t from r); exact .text x t
  | .tup ds, _, k, _, .tup sq rl, e, r => by
    unfold nkey at e
    cases q : nkeys ds with
    | none => rw [q] at e; cases e
    | some ks =>
      rw [q] at e
      cases e
      cases r
      obtain ⟨its, rv, ⟨o, h1, h2, n, h3⟩, _⟩ := I.tuple (Evl.ex_t eg sq)
      exact .tup h1 h2 h3 (by simpa using nested_ofs I eg rl q rv)
  | .lst ds, _, _, _, _, e, _ => by cases e
  | .obj c fs, _, _, _, _, e, _ => by cases e
  | .byt b, _, _, _, _, e, _ => by cases e
  | .dct ks vs, _, _, _, _, e, _ => by cases e
theorem nested_ofs (I : Inv X pins σ H s) (eg : Ex G H) : ∀ {ds : List D} {vs : List V} {ks : List NestedKey} {us : List Value}, RepL X.K mg G ds vs → nkeys ds = some ks → Vals vs us → NestedAll s.heap ks us
  | [], _, _, _, .nil, e, .nil => by cases e; exact .nil
  | d :: ds, _, ks, _, .cons r1 r2, e, .cons v1 v2 => by
    unfold nkeys at e
    split at e
    · rename_i k1 ks1 e1 e2
      cases e
      exact .cons (nested_of I eg r1 e1 v1) (nested_ofs I eg r2 e2 v2)
    · cases e
end
theorem key_is (I : Inv X pins σ H s) (eg : Ex G H) {d : D} {b : Addr} {k : NestedKey} (r : Rep X.K mg G d (.ref b)) (e : tkey d = some k) : (nestedKind X.prog X.w).is s.heap k b := by
  obtain ⟨_, ds, ks, rfl, e1, rfl, hd⟩ := tkey_no e
  exact ⟨nested_of (u := .ref b) I eg r (by unfold nkey; rw [e1]; rfl) rfl, hd⟩
theorem keys_are (I : Inv X pins σ H s) (eg : Ex G H) : ∀ {ks : List D} {xs : List NE}, RepL X.K mg G ks (xs.map fun x => .ref x.2.1) → tkeys ks = some (xs.map (·.1)) → ∀ x ∈ xs, (nestedKind X.prog X.w).is s.heap x.1 x.2.1
  | _, [], _, _, x, hx => nomatch hx
  | [], y :: ys, r, _, _, _ => nomatch r
  | d :: ds, y :: ys, .cons r1 r2, e, x, hx => by
    unfold tkeys at e
    split at e
    · rename_i k1 ks1 e1 e2
      rw [List.map_cons] at e
      injection e with e
      injection e with e3 e4
      subst e3 e4
      rcases List.mem_cons.mp hx with rfl | hx
      · exact key_is I eg r1 e1
      · exact keys_are I eg r2 e2 x hx
    · cases e
theorem dn_of (I : Inv X pins σ H s) (eg : Ex G H) {a : Addr} {ks : List D} {xs : List NE} (e : H a = some (DNo X.w a xs)) (rk : RepL X.K mg G ks (xs.map fun x => .ref x.2.1)) (tk : tkeys ks = some (xs.map (·.1))) :
    xs.length ≤ sizeLine ∧ (a == sysModules) = false ∧ s.heap.DictOfH (nestedKind X.prog X.w) a xs := by
  obtain ⟨⟨z1, z2, z3, o, es, ep, h1, h2, h3, h4⟩, _⟩ := (show ObjOk X.prog X.w H s.heap a (DNo X.w a xs) from I.hok a _ e)
  exact ⟨z1, z2, o, es, ep, h1, h2, h3, h4, keys_are I eg rk tk, z3⟩
theorem dn_new {P : Program} {w : World} {H' : Hp} {h' : Heap} {a : Addr} {xs : List NE} (z : xs.length ≤ sizeLine) (hd : (a == sysModules) = false) (d : h'.DictOfH (nestedKind P w) a xs) : ObjOk P w H' h' a (DNo w a xs) := by
  obtain ⟨o, es, ep, h1, h2, h3, h4, _, h5⟩ := d
  exact ⟨⟨z, hd, h5, o, es, ep, h1, h2, h3, h4⟩, ⟨o, h1⟩, fun k1 k2 ⟨y1, y2, y3, o', es', ep', g1, g2⟩ hk => ⟨y1, y2, y3, o', es', ep', hk _ g1, g2⟩⟩
theorem dn_empty (I : Inv X pins σ H s) {a : Addr} (e : H a = some (DNo X.w a [])) : (a == sysModules) = false ∧ s.heap.DictOf (mixKind X.prog X.w) a [] := by
  obtain ⟨⟨z1, z2, z3, o, es, ep, h1, h2, h3, h4⟩, _⟩ := (show ObjOk X.prog X.w H s.heap a (DNo X.w a []) from I.hok a _ e)
  have he : es = #[] := by
    apply Array.toList_inj.mp
    simpa using h4
  subst he
  exact ⟨z2, o, #[], ep, h1, h2, h3, fun e he => by simp at he, .nil, List.nodup_nil⟩
theorem dk_empty' (I : Inv X pins σ H s) {a : Addr} (e : H a = some (.dK [])) : (a == sysModules) = false ∧ s.heap.DictOfH (nestedKind X.prog X.w) a [] := by
  obtain ⟨z, hd, vs, rel, o, es, ep, h1, h2, h3, h4, h5, h6⟩ := dk_of I.hok e
  cases rel
  refine ⟨hd, o, es, ep, h1, h2, h3, ?_, fun x hx => absurd hx List.not_mem_nil, List.nodup_nil⟩
  generalize es.toList = l at h5
  cases h5
  rfl
end
end PM

end
section
set_option Elab.async false
set_option linter.all false
set_option maxRecDepth 100000
set_option maxHeartbeats 4000000
namespace PM
open PySem PySem.Spec PyProof.Rows L2 N1
open Evl (Ex)
def dctOf (h : AHp) : W → Option (List D × List W)
  | .d (.dct ks vs) => some (ks, vs.map .d)
  | .ref a => match h[a]? with | some (.dct ks ws) => some (ks, ws) | _ => none
  | _ => none
def dfind {κ α : Type} [DecidableEq κ] (k : κ) : List κ → List α → Option α
  | x :: xs, a :: as => if x = k then some a else dfind k xs as
  | _, _ => none
def dget {α : Type} (ks : List D) (ws : List α) (k : D) : Option (Option α) := match keyD k with
  | some key => (match keysD ks with | some kk => some (dfind key kk ws) | none => none)
  | none => (match tkey k, tkeys ks with | some nk, some nks => some (dfind nk nks ws) | _, _ => none)
section
variable {K : PySem.W.Frag} {mg : MgX} {G H : Hp} {μ : Mu} {h : AHp}
theorem dct_at (rh : RelH K mg G μ h H) {w : W} {v : V} {ks : List D} {ws : List W} (r : RepW K mg G μ w v) (e : dctOf h w = some (ks, ws)) : ∃ a vs, v = .ref a ∧ DctAt K mg G H a ks vs ∧ RepWs K mg G μ ws vs := by
  unfold dctOf at e
  split at e
  · cases e
    have r : Rep K mg.f G _ v := r
    cases r with
    | dK s l q => exact ⟨_, _, rfl, .inl ⟨_, rfl, l, rh.ex _ _ s⟩, repWs_of q⟩
    | dN s k t vv q => exact ⟨_, _, rfl, .inr ⟨_, rh.ex _ _ s, k, t, vv⟩, repWs_of q⟩
  · obtain ⟨q, e1, rfl⟩ := r
    split at e
    · rename_i e2
      cases e
      obtain ⟨vs, z1, z2⟩ := rh.ok _ _ _ e1 e2
      exact ⟨_, vs, rfl, z1, z2⟩
    · cases e
  · cases e
theorem find_k {key : Key} : ∀ {kk : List Key} {ws : List W} {vs : List V}, kk.length = vs.length → RepWs K mg G μ ws vs → (dfind key kk ws = none ∧ valV (kk.zip vs) key = none) ∨ ∃ w v, dfind key kk ws = some w ∧ valV (kk.zip vs) key = some v ∧ RepW K mg G μ w v
  | [], _, _, _, _ => .inl ⟨by unfold dfind; rfl, rfl⟩
  | _ :: _, _, [], hl, _ => by simp at hl
  | _ :: _, [], _ :: _, _, rs => nomatch rs
  | k :: kk, w :: ws, v :: vs, hl, .cons r rs => by
    by_cases e : k = key
    · exact .inr ⟨w, v, by unfold dfind; rw [if_pos e], by rw [List.zip_cons_cons]; exact valV_pos e, r⟩
    · rcases find_k (key := key) (kk := kk) (by simpa using hl) rs with ⟨h1, h2⟩ | ⟨w', v', h1, h2, h3⟩
      · exact .inl ⟨by unfold dfind; rw [if_neg e]; exact h1, by rw [List.zip_cons_cons, valV_neg e]; exact h2⟩
      · exact .inr ⟨w', v', by unfold dfind; rw [if_neg e]; exact h1, by rw [List.zip_cons_cons, valV_neg e]; exact h2, h3⟩
theorem find_n {nk : NestedKey} : ∀ {xs : List NE} {ws : List W} {vs : List V}, Vals vs (xs.map (·.2.2)) → RepWs K mg G μ ws vs → (dfind nk (xs.map (·.1)) ws = none ∧ atKey xs nk = none) ∨ ∃ w v p, dfind nk (xs.map (·.1)) ws = some w ∧ atKey xs nk = some p ∧ RelV v p.2 ∧ RepW K mg G μ w v
  | [], _, _, _, _ => .inl ⟨by unfold dfind; rfl, rfl⟩
  | _ :: _, _, [], rv, _ => nomatch rv
  | _ :: _, [], _ :: _, _, rs => nomatch rs
  | x :: xs, w :: ws, v :: vs, .cons rv rvs, .cons r rs => by
      by_cases e : x.1 = nk
      · exact .inr ⟨_, _, x.2, by rw [List.map_cons]; unfold dfind; rw [if_pos e], by simp [atKey, List.find?_cons, e], rv, r⟩
      · have ea : atKey (x :: xs) nk = atKey xs nk := by simp [atKey, List.find?_cons, e]
        rcases find_n (nk := nk) rvs rs with ⟨h1, h2⟩ | ⟨w', v', p, h1, h2, h3, h4⟩
        · exact .inl ⟨by rw [List.map_cons]; unfold dfind; rw [if_neg e]; exact h1, ea.trans h2⟩
        · exact .inr ⟨w', v', p, by rw [List.map_cons]; unfold dfind; rw [if_neg e]; exact h1, ea.trans h2, h3, h4⟩
end
theorem kD_v {K : PySem.W.Frag} {mg : MgW} {G : Hp} {k : Key} {v : V} (r : Rep K mg G (kD k) v) : v = kV k := by
  cases k with
  | inl i => cases r; rfl
  | inr x => cases r; rfl
section
variable {X : Cx} {pins : List (Addr × Obj)} {σ : L2.St} {H G : Hp} {μ : Mu} {s : Shared} {A : Around} {E : Value → Shared → Prop}
inductive Hit (X : Cx) (H : Hp) (G : Hp) (μ : Mu) (s : Shared) (a : Addr) (y : V) : Option W → Prop
  | k {key : Key} {kvs : List (Key × V)} {o : Option W} (e : H a = some (.dK kvs)) (ey : y = kV key) (ho : (o = none ∧ valV kvs key = none) ∨ ∃ w v, o = some w ∧ valV kvs key = some v ∧ RepW X.K X.mgx G μ w v) : Hit X H G μ s a y o
  | k0 {key : Key} (hd : (a == sysModules) = false) (d : s.heap.DictOf (mixKind X.prog X.w) a []) (ey : y = kV key) : Hit X H G μ s a y none
  | n {nk : NestedKey} {b : Addr} {xs : List NE} {o : Option W} (hd : (a == sysModules) = false) (d : s.heap.DictOfH (nestedKind X.prog X.w) a xs) (ey : y = .ref b) (hk : (nestedKind X.prog X.w).is s.heap nk b) (ho : (o = none ∧ atKey xs nk = none) ∨ ∃ w v p, o = some w ∧ atKey xs nk = some p ∧ RelV v p.2 ∧ RepW X.K X.mgx G μ w v) : Hit X H G μ s a y o
theorem hit_of (I : Inv X pins σ H s) (eg : Ex G H) {a : Addr} {ks : List D} {ws : List W} {vs : List V} {k : D} {y : V} {o : Option W} (d : DctAt X.K X.mgx G H a ks vs) (rs : RepWs X.K X.mgx G μ ws vs) (rk : Rep X.K X.mgw G k y) (e : dget ks ws k = some o) : Hit X H G μ s a y o := by
  unfold dget at e
  split at e
  · rename_i key ek
    have := keyD_eq ek
    subst this
    have ey := kD_v rk
    split at e
    · rename_i kk ekk
      cases e
      rcases d with ⟨kk', rfl, hl, hH⟩ | ⟨xs, hH, rkk, tk, vv⟩
      · rw [keysD_map] at ekk
        cases ekk
        exact .k hH ey (find_k hl rs)
      · obtain ⟨rfl, rfl, e3⟩ := tk_nil ekk tk
        have : xs = [] := by simpa using e3
        subst this
        obtain ⟨h1, h2⟩ := dn_empty I hH
        have e0 : dfind key ([] : List Key) ws = none := by unfold dfind; rfl
        rw [e0]
        exact .k0 h1 h2 ey
    · cases e
  · split at e
    · rename_i nk nks etk etks
      cases e
      obtain ⟨_, ds, kds, rfl, _, _, _⟩ := tkey_no etk
      obtain ⟨b, rfl⟩ : ∃ b, y = .ref b := by cases rk; exact ⟨_, rfl⟩
      rcases d with ⟨kk', rfl, hl, hH⟩ | ⟨xs, hH, rkk, tk, vv⟩
      · obtain ⟨e1, rfl, rfl⟩ := tk_nil (keysD_map kk') etks
        obtain ⟨h1, h2⟩ := dk_empty' I hH
        exact .n h1 h2 rfl (key_is I eg rk etk) (.inl ⟨by unfold dfind; rfl, rfl⟩)
      · rw [tk] at etks
        cases etks
        obtain ⟨_, h1, h2⟩ := dn_of I eg hH rkk tk
        exact .n h1 h2 rfl (key_is I eg rk etk) (find_n vv rs)
    · cases e
theorem hit_in {a : Addr} {y : V} {o : Option W} {u : Value} {Q : Value → Shared → Prop} (neg : Bool) (hu : A.units + 10 < cLine) (I : Inv X pins σ H s) (g : Hit X H G μ s a y o) (ry : RelV y u) (h : ∀ s', Inv X pins σ H s' → Q (.bool (if neg then !o.isSome else o.isSome)) s') :
    wpAny (model X.prog X.w) A (compareOp (if neg then .NotIn else .In) u (.ref a)) Q E s := by
  cases g with
  | k e ey ho =>
    subst ey
    rename_i key kvs
    have eo : o.isSome = (valV kvs key).isSome := by
      rcases ho with ⟨rfl, e2⟩ | ⟨w, v, rfl, e2, _⟩
      · rw [e2]; rfl
      · rw [e2]; rfl
    rw [eo] at h
    cases neg with
    | false => exact d_in (by omega) I (DGet.k e) ry h
    | true => exact d_notIn (by omega) I (DGet.k e) ry h
  | k0 hd d ey =>
    subst ey
    cases neg with
    | false => exact wpAny_in_of (kV_is ry) hd d.mapOf (h _ (I.tok _))
    | true => exact wpAny_notIn_of (kV_is ry) hd d.mapOf (h _ (I.tok _))
  | n hd d ey hk ho =>
    subst ey
    rename_i nk b xs
    cases (show u = Value.ref b from ry)
    have eo : o.isSome = (atKey xs nk).isSome := by
      rcases ho with ⟨rfl, e2⟩ | ⟨w, v, p, rfl, e2, _⟩
      · rw [e2]; rfl
      · rw [e2]; rfl
    rw [eo] at h
    have hr : (nestedKind X.prog X.w).room A.in1 := by show A.units + 1 + 8 < cLine; omega
    cases neg with
    | false => exact wpAny_in_heap hr hk hd d (h _ (I.tok _))
    | true => exact wpAny_notIn_heap hr hk hd d (h _ (I.tok _))
theorem tail_dict {value slice : Expr} {a : Addr} {u : Value} {Q : Value → Shared → Prop} (hT : s.TypeIs (.ref a) "dict") (hs : subscripted slice false (.ref a) u = operate [.ref a, u] (getItem (.ref a) u)) (h : wpAny (model X.prog X.w) A (getItem (.ref a) u) Q E s) : wpAny (model X.prog X.w) A (subscriptTail value slice (.ref a) u) Q E s := by
  have e : wpAny (model X.prog X.w) A (subscripted slice false (.ref a) u) (fun r s₃ => wpAny (model X.prog X.w) A (do letTemporaryGo value (.ref a) r; pure r) Q E s₃) E s := by
    rw [hs]
    exact wpAny_operating (wpAny_mono h (fun r s₃ q => wpAny_bind (wpAny_letTemporaryGo (wpAny_pure q))) fun _ _ x => x)
  unfold subscriptTail
  refine wpAny_bind ?_
  rw [getitemInPython_of_ne hT.not_modules]
  refine wpAny_bind (wpAny_specialOf hT PySem.F.slot_dict_getitem.lookup ?_)
  first
    | exact wpAny_pure (wpAny_bind e)
    | exact wpAny_bind (wpAny_pure (wpAny_bind e))
    | exact wpAny_bind e
theorem hit_get {value slice : Expr} {a : Addr} {y : V} {w : W} {u : Value} {Q : Value → Shared → Prop} (hu : A.units + 10 < cLine) (I : Inv X pins σ H s) (g : Hit X H G μ s a y (some w)) (ry : RelV y u) (hs : subscripted slice false (.ref a) u = operate [.ref a, u] (getItem (.ref a) u)) (h : ∀ v r s', Inv X pins σ H s' → RepW X.K X.mgx G μ w v → RelV v r → Q r s') :
    wpAny (model X.prog X.w) A (subscriptTail value slice (.ref a) u) Q E s := by
  generalize ho : some w = o at g
  cases g with
  | k e ey hh =>
    subst ey
    subst ho
    rcases hh with ⟨e1, _⟩ | ⟨w', v, e1, e2, rw_⟩
    · cases e1
    · cases e1
      have g := DGet.k e (k := ‹Key›)
      rw [e2] at g
      exact tail_dict (dict_typeIs I g) hs (d_getItem (by omega) I g ry fun r s' I' rv => h v r s' I' rw_ rv)
  | k0 hd d ey => cases ho
  | n hd d ey hk hh =>
    subst ey
    subst ho
    rename_i nk b xs
    cases (show u = Value.ref b from ry)
    rcases hh with ⟨e1, _⟩ | ⟨w', v, p, e1, e2, rv, rw_⟩
    · cases e1
    · cases e1
      have hr : (nestedKind X.prog X.w).room A.in1 := by show A.units + 1 + 8 < cLine; omega
      exact tail_dict d.typeIs hs (wpAny_getItem_heap hr hk d e2 (h v p.2 _ (I.tok _) rw_ rv))
end
def fInD (neg : Bool) : W → W → M W := fun x y h => match dctOf h y with
  | some (ks, ws) => (match x with
    | .d k => (match dget ks ws k with
      | some o => some (.ok (.d (.bl (if neg then !o.isSome else o.isSome))), h)
      | none => none)
    | _ => none)
  | none => fIn neg x y h
def fIxD : W → W → M W := fun x y h => match dctOf h x with
  | some (ks, ws) => (match y with
    | .d k => (match dget ks ws k with
      | some (some w) => some (.ok w, h)
      | _ => none)
    | _ => none)
  | none => fIx x y h
section
variable {X : Cx} {Wx : WX}
theorem inD_ok (neg : Bool) (hu : X.A.units + 100 < cLine) (prim : OpX X Wx (compareOp (if neg then .NotIn else .In)) (fIn neg)) : OpX X Wx (compareOp (if neg then .NotIn else .In)) (fInD neg) := by
  intro pins s σ H G μ h x y xv yv v u Q I rh r1 r2 rx ry q
  unfold fInD at q
  split at q
  · rename_i ks ws ed
    obtain ⟨a, vs, rfl, da, rws⟩ := dct_at rh r2 ed
    cases (show u = Value.ref a from ry)
    split at q
    · split at q
      · rename_i k o eo
        have g := hit_of I rh.ex da rws r1 eo
        obtain ⟨r, h', e, kk⟩ := q
        cases e
        exact hit_in neg (by omega) I g rx fun s' I' => ⟨.bl _, H, I', rfl, kk _ _ _ Step.refl rh _ (.bl _)⟩
      · exact (ret_bad q).elim
    · exact (ret_bad q).elim
  · exact prim pins s σ H G μ h x y xv yv v u Q I rh r1 r2 rx ry q
theorem ixD_ok (hu : X.A.units + 100 < cLine) (prim : IxX X Wx fIx) : IxX X Wx fIxD := by
  intro value slice pins s σ H G μ h x y xv yv v u Q I rh r1 r2 rx ry q hs
  unfold fIxD at q
  split at q
  · rename_i ks ws ed
    obtain ⟨a, vs, rfl, da, rws⟩ := dct_at rh r1 ed
    cases (show v = Value.ref a from rx)
    split at q
    · split at q
      · rename_i k w ew
        have g := hit_of I rh.ex da rws r2 ew
        obtain ⟨r, h', e, kk⟩ := q
        cases e
        exact hit_get (by omega) I g ry hs fun z r s' I' rw_ rv => ⟨z, H, I', rv, kk _ _ _ Step.refl rh _ rw_⟩
      · exact (ret_bad q).elim
    · exact (ret_bad q).elim
  · exact prim value slice pins s σ H G μ h x y xv yv v u Q I rh r1 r2 rx ry q hs
end
end PM

end
section
set_option Elab.async false
set_option linter.all false
set_option maxRecDepth 100000
set_option maxHeartbeats 4000000
namespace PM
open PySem PySem.Spec PyProof.Rows L2 N1
open Evl (Ex)
def Put (K : PySem.W.Frag) (mg : MgX) (Dl : Addr) (y z : V) (H : Hp) (N : Hp → Prop) : Prop :=
  (∃ kvs key, y = kV key ∧ H Dl = some (.dK kvs) ∧ kvs.length < sizeLine ∧ N (upd H Dl (.dK (putK kvs key z)))) ∨
  ∃ G ks xs d b nk, y = .ref b ∧ Ex G H ∧ H Dl = some (DNo mg.f.w Dl xs) ∧ RepL K mg.f G ks (xs.map fun x => .ref x.2.1) ∧ tkeys ks = some (xs.map (·.1)) ∧ Rep K mg.f G d (.ref b) ∧ tkey d = some nk ∧ xs.length < sizeLine ∧ ∀ r, RelV z r → N (upd H Dl (DNo mg.f.w Dl (storedH xs nk b r)))
section
variable {X : Cx} {pins : List (Addr × Obj)} {σ : L2.St} {H : Hp} {s : Shared} {E : Value → Shared → Prop} {Dl : Addr} {y z : V} {u r : Value} {N : Hp → Prop}
theorem put_ok {Q : Unit → Shared → Prop} (I : Inv X pins σ H s) (hu : X.A.units + 100 < cLine) (p : Put X.K X.mgx Dl y z H N) (ry : RelV y u) (rz : RelV z r) (h : ∀ s' H', Inv X pins σ H' s' → N H' → Q () s') : wpAny (model X.prog X.w) X.A (dictSet Dl u r) Q E s := by
  rcases p with ⟨kvs, key, rfl, hD, hz, nx⟩ | ⟨G, ks, xs, d, b, nk, rfl, eg, hD, rk, tk, rd, td, hz, nx⟩
  · exact d_dictSet I hD hz ry rz fun s' I' => h s' _ I' nx
  · cases (show u = Value.ref b from ry)
    obtain ⟨z1, hd, dd⟩ := dn_of I eg hD rk tk
    have hl : (storedH xs nk b r).length ≤ sizeLine := by have := storedH_length xs nk b r; omega
    refine wpAny_dictSet_heap (hsz := z1) (knd := nestedKind X.prog X.w) (by show X.A.units + 8 < cLine; omega) (key_is I eg rd td) dd fun h' dd' hs => h _ _ ?_ (nx r rz)
    exact d_write I (by rw [hD]; exact True.intro) hs (let ⟨q, _, _, hq, _⟩ := dd'; ⟨q, hq⟩) (dn_new hl hd dd')
end
theorem dc2_out (kx vx t0 i0 t1 i1 : Expr) (c0 c1 : List Expr) (scope : Scope) (pos : Pos) (it acc : Value) (env : Env) :
    compTurn (.DictComp kx vx [⟨t0, i0, c0, 0⟩, ⟨t1, i1, c1, 0⟩] scope pos) 0 it acc env = (do
      standAt i0.pos
      match ← pyNext it with
      | none => pure (.done .next)
      | some v =>
        letOwnedTupleGo t0 it v
        assign t0 env v
        let mut ok := true
        for c in c0 do
          if ok then ok ← isTrue c env (eval c env)
        if ok then
          let y ← eval i1 env
          standAt i1.pos
          let y ← foldedSetIterable i1 env y
          let _ ← runOwn (.compStart (.DictComp kx vx [⟨t0, i0, c0, 0⟩, ⟨t1, i1, c1, 0⟩] scope pos) 1 (← holding [y] (pyIter y)) acc env) env
        again (.compLoop (.DictComp kx vx [⟨t0, i0, c0, 0⟩, ⟨t1, i1, c1, 0⟩] scope pos) 0 it acc env)) := by rfl
theorem dc2_in (kx vx t0 i0 t1 i1 : Expr) (c0 c1 : List Expr) (scope : Scope) (pos : Pos) (it : Value) (Dl : Addr) (env : Env) :
    compTurn (.DictComp kx vx [⟨t0, i0, c0, 0⟩, ⟨t1, i1, c1, 0⟩] scope pos) 1 it (.ref Dl) env = (do
      standAt i1.pos
      match ← pyNext it with
      | none => pure (.done .next)
      | some v =>
        letOwnedTupleGo t1 it v
        assign t1 env v
        let mut ok := true
        for c in c1 do
          if ok then ok ← isTrue c env (eval c env)
        if ok then
          (do
            let ky ← eval kx env
            let vy ← holding [ky] (eval vx env)
            standAt { kx.pos with endLine := vx.pos.endLine, endCol := vx.pos.endCol }
            holding [ky, vy] (dictSet Dl ky vy))
        again (.compLoop (.DictComp kx vx [⟨t0, i0, c0, 0⟩, ⟨t1, i1, c1, 0⟩] scope pos) 1 it (.ref Dl) env)) := by rfl
section
variable {prog : Program} {w : World} {A : Around} {R : Result → Shared → Prop} {s : Shared} {kx vx t0 i0 t1 i1 : Expr} {c0 c1 : List Expr} {scope : Scope} {pos : Pos} {it : Value} {acc : Value} {Dl : Addr} {env : Env}
abbrev NB (prog : Program) (w : World) (A : Around) (env : Env) (R : Result → Shared → Prop) : Value → Shared → Prop := notedBy (model prog w) A env fun e s' => R (.error e) s'
abbrev tsts (cs : List Expr) (env : Env) : Sem Bool := forIn cs true fun c r => if r = true then do let ok ← isTrue c env (eval c env); pure (ForInStep.yield ok) else pure (ForInStep.yield r)
theorem dc2_loop0 (hs : ∀ x, foldedSetIterable i1 env x = pure x) (J : Nat → Shared → Prop)
    (turn : ∀ n s, J n s → wpAny (model prog w) A (pyNext it) (fun r s₁ => match r with
      | none => R (.ok .next) s₁
      | some v => wpAny (model prog w) A (letOwnedTupleGo t0 it v) (fun _ a1 => wpAny (model prog w) A (assign t0 env v) (fun _ a2 => wpAny (model prog w) A (tsts c0 env) (fun ok a3 =>
            if ok = true then wpAny (model prog w) A (eval i1 env) (fun y a4 => wpAny (model prog w) A (pyIter y) (fun it1 a5 =>
              codeAny (model prog w) A (.compStart (.DictComp kx vx [⟨t0, i0, c0, 0⟩, ⟨t1, i1, c1, 0⟩] scope pos) 1 it1 acc env) (fun r a6 => match r with
                | .ok _ => ∃ m, m < n ∧ J m a6
                | .error _ => False) a5) (NB prog w A env R) a4) (NB prog w A env R) a3
            else ∃ m, m < n ∧ J m a3) (NB prog w A env R) a2) (NB prog w A env R) a1) (NB prog w A env R) s₁) (NB prog w A env R) s)
    (n : Nat) (h : J n s) : codeAny (model prog w) A (.compLoop (.DictComp kx vx [⟨t0, i0, c0, 0⟩, ⟨t1, i1, c1, 0⟩] scope pos) 0 it acc env) R s := by
  refine codeAny_loop rfl J (fun n s hJ => ?_) n h
  show wpAny _ A ((compTurn (.DictComp kx vx [⟨t0, i0, c0, 0⟩, ⟨t1, i1, c1, 0⟩] scope pos) 0 it acc env).onRaise (fun x => do noteFrame x env; theTreesLotGoes x)) _ _ s
  refine wpAny_noted ?_
  rw [dc2_out]
  refine wpAny_bind (wpAny_standAt (wpAny_bind (wpAny_mono (turn n s hJ) (fun r a0 q0 => ?_) fun _ _ z => z)))
  cases r with
  | none => exact wpAny_pure q0
  | some v =>
    refine wpAny_bind (wpAny_mono q0 (fun _ a1 q1 => wpAny_bind (wpAny_mono q1 (fun _ a2 q2 => wpAny_bind (wpAny_mono q2 (fun ok a3 q3 => ?_) fun _ _ z => z)) fun _ _ z => z)) fun _ _ z => z)
    cases ok with
    | false => exact wpAny_pure ⟨rfl, q3⟩
    | true =>
      refine wpAny_bind (wpAny_mono q3 (fun y a4 q4 => wpAny_bind (wpAny_standAt (wpAny_bind (wpAny_of_eq (hs y) (wpAny_bind (wpAny_holding (wpAny_mono q4 (fun it1 a5 q5 => wpAny_bind (wpAny_runOwn ?_)) fun _ _ z => z))))))) fun _ _ z => z)
      rw [Around.mark_none]
      refine codeAny_mono q5 fun r a6 q6 => ?_
      cases r with
      | error e => exact False.elim q6
      | ok f =>
        first
          | exact wpAny_pure ⟨rfl, q6⟩
          | exact wpAny_bind (wpAny_pure (wpAny_pure ⟨rfl, q6⟩))
theorem dc2_loop1 (J : Nat → Shared → Prop)
    (turn : ∀ n s, J n s → wpAny (model prog w) A (pyNext it) (fun r s₁ => match r with
      | none => R (.ok .next) s₁
      | some v => wpAny (model prog w) A (letOwnedTupleGo t1 it v) (fun _ a1 => wpAny (model prog w) A (assign t1 env v) (fun _ a2 => wpAny (model prog w) A (tsts c1 env) (fun ok a3 =>
            if ok = true then wpAny (model prog w) A (eval kx env) (fun ky a4 => wpAny (model prog w) A (eval vx env) (fun vy a5 =>
              wpAny (model prog w) A (dictSet Dl ky vy) (fun _ a6 => ∃ m, m < n ∧ J m a6) (NB prog w A env R) a5) (NB prog w A env R) a4) (NB prog w A env R) a3
            else ∃ m, m < n ∧ J m a3) (NB prog w A env R) a2) (NB prog w A env R) a1) (NB prog w A env R) s₁) (NB prog w A env R) s)
    (n : Nat) (h : J n s) : codeAny (model prog w) A (.compLoop (.DictComp kx vx [⟨t0, i0, c0, 0⟩, ⟨t1, i1, c1, 0⟩] scope pos) 1 it (.ref Dl) env) R s := by
  refine codeAny_loop rfl J (fun n s hJ => ?_) n h
  show wpAny _ A ((compTurn (.DictComp kx vx [⟨t0, i0, c0, 0⟩, ⟨t1, i1, c1, 0⟩] scope pos) 1 it (.ref Dl) env).onRaise (fun x => do noteFrame x env; theTreesLotGoes x)) _ _ s
  refine wpAny_noted ?_
  rw [dc2_in]
  refine wpAny_bind (wpAny_standAt (wpAny_bind (wpAny_mono (turn n s hJ) (fun r a0 q0 => ?_) fun _ _ z => z)))
  cases r with
  | none => exact wpAny_pure q0
  | some v =>
    refine wpAny_bind (wpAny_mono q0 (fun _ a1 q1 => wpAny_bind (wpAny_mono q1 (fun _ a2 q2 => wpAny_bind (wpAny_mono q2 (fun ok a3 q3 => ?_) fun _ _ z => z)) fun _ _ z => z)) fun _ _ z => z)
    cases ok with
    | false => exact wpAny_pure ⟨rfl, q3⟩
    | true => exact wpAny_bind (wpAny_bind (wpAny_mono q3 (fun ky a4 q4 => wpAny_bind (wpAny_holding (wpAny_mono q4 (fun vy a5 q5 => wpAny_bind (wpAny_standAt (wpAny_holding (wpAny_mono q5 (fun _ a6 q6 => wpAny_pure ⟨rfl, q6⟩) fun _ _ z => z)))) fun _ _ z => z))) fun _ _ z => z))
theorem dc2_start1 (h0 : codeAny (model prog w) A (.compLoop (.DictComp kx vx [⟨t0, i0, c0, 0⟩, ⟨t1, i1, c1, 0⟩] scope pos) 1 it acc env) R s)
    (h : wpAny (model prog w) A (pyIter it) (fun it' s' => codeAny (model prog w) A (.compLoop (.DictComp kx vx [⟨t0, i0, c0, 0⟩, ⟨t1, i1, c1, 0⟩] scope pos) 1 it' acc env) R s') (NB prog w A env R) s) :
    codeAny (model prog w) A (.compStart (.DictComp kx vx [⟨t0, i0, c0, 0⟩, ⟨t1, i1, c1, 0⟩] scope pos) 1 it acc env) R s := by
  refine codeAny_of_tree ?_
  show wpAny _ _ ((compStart (.DictComp kx vx [⟨t0, i0, c0, 0⟩, ⟨t1, i1, c1, 0⟩] scope pos) 1 it acc env).onRaise (fun x => do noteFrame x env; standAt theWindowsPlace)) _ _ s
  refine wpAny_notedAt ?_
  unfold compStart
  show wpAny _ _ (ask >>= _) _ _ s
  refine wpAny_bind (wpAny_askSetting (wpAny_ite ?_))
  split
  · first
      | exact wpAny_pure (And.intro rfl h0)
      | exact wpAny_bind (wpAny_pure (wpAny_pure (And.intro rfl h0)))
  · first
      | exact wpAny_bind (wpAny_rule (wpAny_bind (wpAny_standAt (wpAny_bind (wpAny_mono h (fun it' s' z => wpAny_pure (And.intro rfl z)) fun _ _ z => z)))))
      | (refine wpAny_bind (wpAny_rule ?_); show wpAny _ _ (standAt i1.pos >>= _) _ _ s; exact wpAny_bind (wpAny_standAt (wpAny_bind (wpAny_mono h (fun it' s' z => wpAny_pure (And.intro rfl z)) fun _ _ z => z))))
end
end PM

end
section
set_option Elab.async false
set_option linter.all false
set_option maxRecDepth 100000
set_option maxHeartbeats 4000000
namespace PM
open PySem PySem.Spec PyProof.Rows L2 N1
open Evl (Ex)
def dct0 (w : World) (nst : Bool) (a : Addr) : HO := if nst then DNo w a [] else .dK []
theorem dct0_ok {P : Program} {w : World} {H : Hp} (nst : Bool) (h : Heap) (hb : sysModules < h.objs.size) : ObjOk P w H (h.push { cls := .type "dict", data := .dict #[] }) h.objs.size (dct0 w nst h.objs.size) := by
  unfold dct0
  cases nst with
  | false => exact dk_empty h hb
  | true => exact dn_new (Nat.zero_le _) (beq_eq_false_iff_ne.mpr (Ne.symm (Nat.ne_of_lt hb))) (Heap.DictOfH.new h)
abbrev InB (X : Cx) (scope : Scope) (P : Cx → Prop) : Prop := ∀ (s : Shared) (H : Hp) (C : Addr) (cl : List (Str × Addr)) (fp : List Addr), P (X.blk s H scope (compEnvC scope cl C X.env) fp)
def tDc2 (K : PySem.W.Frag) (mg : MgX) (nst : Bool) (wi : TI) (g : TG) (tt : TT) (wi1 : TI) (g1 : TG) (tt1 : TT) (tk tv : TE) (vs vs1 : List Nat) : TE := fun σ H Q => wi σ H fun J H1 => ∀ Dl, H1 Dl = none → ∃ S : Nat → Nat → Hp → Prop, (∃ m, S 0 m (upd H1 Dl (dct0 mg.f.w nst Dl))) ∧ ∀ i m H, S i m H →
  (J.stop i H ∧ Q (.ref Dl) H) ∨ (J.go i H ∧ ∃ N : Hp → Prop, (∀ H', N H' → ∃ m', m' < m ∧ S (i + 1) m' H') ∧ ∀ x H', J.yld i H x H' → g x (wipe σ vs) H' fun σ2 H2 => wipe σ2 vs = wipe σ vs ∧ tt σ2 H2 fun b H3 =>
    if b = true then wi1 σ2 H3 fun J1 H4 => ∃ S1 : Nat → Nat → Hp → Prop, (∃ m, S1 0 m H4) ∧ ∀ j k H, S1 j k H →
      (J1.stop j H ∧ N H) ∨ (J1.go j H ∧ ∃ N1 : Hp → Prop, (∀ H', N1 H' → ∃ k', k' < k ∧ S1 (j + 1) k' H') ∧ ∀ x H', J1.yld j H x H' → g1 x (wipe σ2 vs1) H' fun σ3 H5 => wipe σ3 vs1 = wipe σ2 vs1 ∧ tt1 σ3 H5 fun b H6 =>
        if b = true then tk σ3 H6 fun y H7 => tv σ3 H7 fun z H8 => Put K mg Dl y z H8 N1 else N1 H6)
    else N H3)
section
variable {X : Cx} {kx vx tg iter tg1 iter1 : Expr} {ifs ifs1 : List Expr} {scope : Scope} {own : List (Str × Nat)} {vs1 : List Nat} {pos : Pos} {wi wi1 : TI} {g g1 : TG} {tt tt1 : TT} {tk tv : TE} {nst : Bool}
theorem pe_dc2 (hu : X.A.units + 100 < cLine) (hc : X.calm = true) (hN : X.N.Nodup) (hi : PI X tg iter wi) (ok : BlkOk X.N X.env.scope scope own) (hv : ∀ i ∈ vs1, i ∈ own.map (·.2)) (hg : InB X scope fun Y => PG Y tg g) (ht : InB X scope fun Y => PTs Y ifs tt) (hi1 : InB X scope fun Y => PI Y tg1 iter1 wi1) (hg1 : InB X scope fun Y => PG Y tg1 g1) (ht1 : InB X scope fun Y => PTs Y ifs1 tt1)
    (hk : InB X scope fun Y => PE Y kx tk) (he : InB X scope fun Y => PE Y vx tv) (hs : ∀ x, foldedSetIterable iter X.env x = pure x) (hs1 : ∀ env x, foldedSetIterable iter1 env x = pure x) :
    PE X (.DictComp kx vx [⟨tg, iter, ifs, 0⟩, ⟨tg1, iter1, ifs1, 0⟩] scope pos) (tDc2 X.K X.mgx nst wi g tt wi1 g1 tt1 tk tv (own.map (·.2)) vs1) := by
  refine ⟨fun pins s σ H Q I h => ?_⟩
  rw [arm_eval_DictComp]
  show wpAny (model X.prog X.w) X.A (comprehension (.DictComp kx vx [⟨tg, iter, ifs, 0⟩, ⟨tg1, iter1, ifs1, 0⟩] scope pos) scope X.env _ newDict false (eval iter X.env) none) _ X.xe s
  have fr : ∀ y ∈ scope.names, y.2 = .free → ∃ c, X.env.cells.lookup y.1 = some c := fun y hy e => (ok.free y hy e).elim (fun k => I.ok.has _ (.inl k)) fun k => I.ok.has _ (.inr k)
  refine wpAny_comprehension_free rfl hs (closure_ok fr) ok.kind (fun y hy e => by rw [ok.uniq y hy, e]) (thn (hi.run pins s σ H _ I h) fun xv a1 hx => thn hx fun itv a2 h2 => ?_)
  obtain ⟨it, fp, tn, J, H2, rfl, I2, T, st2, f2, q⟩ := h2
  refine wpAny_newObj_type (newEnv_comp ?_)
  generalize hD : a2.heap.objs.size = Dl
  have hDn : H2 Dl = none := I2.hok.fresh (Nat.le_of_eq hD)
  obtain ⟨S, ⟨m0, w0⟩, turn⟩ := q Dl hDn
  generalize hs3 : ({ a2 with heap := a2.heap.push { cls := .type "dict", data := .dict #[] } } : Shared) = a3
  have e3 : a3.heap = a2.heap.push { cls := .type "dict", data := .dict #[] } := by rw [← hs3]
  have I3 : Inv X pins σ (upd H2 Dl (dct0 X.mgx.f.w nst Dl)) a3 := by
    rw [← hs3]
    refine I2.laid (t' := a2.toks) (fun b o e => Heap.get?_push_of_some _ e) (Nat.le_of_eq hD) ?_
    rw [← hD]
    exact dct0_ok nst a2.heap I2.big
  have f3 : ∀ b ∈ fp, FpOk X pins (upd H2 Dl (dct0 X.mgx.f.w nst Dl)) b ∧ b < a3.heap.objs.size := fun b hb => by
    obtain ⟨o, e, _⟩ := T.obj _ _ st2 b hb
    have hlt := Heap.lt_size e
    refine ⟨⟨?_, (f2 b hb).2⟩, by rw [e3, Heap.size_push]; exact Nat.lt_succ_of_lt hlt⟩
    rw [upd_ne (by rw [← hD]; exact Nat.ne_of_lt hlt)]
    exact (f2 b hb).1
  have st3 : tn 0 a3.heap := T.keep _ _ _ st2 fun b _ o e => by rw [e3]; exact Heap.get?_push_of_some _ e
  have I4 := block_start I3 ok hN f3
  let cl := cellsFrom (a3.heap.objs.size + 1) scope.names (cloFrom X.env.cells scope.names [])
  have pg := hg a3 (upd H2 Dl (dct0 X.mgx.f.w nst Dl)) a3.heap.objs.size cl fp
  have pt := ht a3 (upd H2 Dl (dct0 X.mgx.f.w nst Dl)) a3.heap.objs.size cl fp
  have pk := hk a3 (upd H2 Dl (dct0 X.mgx.f.w nst Dl)) a3.heap.objs.size cl fp
  have pe := he a3 (upd H2 Dl (dct0 X.mgx.f.w nst Dl)) a3.heap.objs.size cl fp
  have pi1 := hi1 a3 (upd H2 Dl (dct0 X.mgx.f.w nst Dl)) a3.heap.objs.size cl fp
  have pg1 := hg1 a3 (upd H2 Dl (dct0 X.mgx.f.w nst Dl)) a3.heap.objs.size cl fp
  have pt1 := ht1 a3 (upd H2 Dl (dct0 X.mgx.f.w nst Dl)) a3.heap.objs.size cl fp
  show codeAny _ _ (.compStart (.DictComp kx vx [⟨tg, iter, ifs, 0⟩, ⟨tg1, iter1, ifs1, 0⟩] scope pos) 0 (.ref it) (.ref Dl) (compEnvC scope cl a3.heap.objs.size X.env)) (compPost (model X.prog X.w) X.A X.xe none _ (.ref Dl) a3.heap.objs.size) { a3 with heap := pushCells (a3.heap.push { cls := .type "dict", data := .dict #[] }) scope.names }
  have nfp : ∀ b ∈ fp, (upd H2 Dl (dct0 X.mgx.f.w nst Dl)) b = none := fun b hb => (f3 b hb).1.1
  have I4 : Inv (X.blk a3 (upd H2 Dl (dct0 X.mgx.f.w nst Dl)) scope (compEnvC scope cl a3.heap.objs.size X.env) fp) [] (wipe σ (own.map (·.2))) (upd H2 Dl (dct0 X.mgx.f.w nst Dl)) { a3 with heap := pushCells (a3.heap.push { cls := .type "dict", data := .dict #[] }) scope.names } := I4
  generalize hce : compEnvC scope cl a3.heap.objs.size X.env = ce at I4 pg pt pk pe pi1 pg1 pt1 ⊢
  have cL : ce.locals = a3.heap.objs.size := by subst hce; rfl
  generalize hH3 : upd H2 Dl (dct0 X.mgx.f.w nst Dl) = H3 at I3 I4 pg pt pk pe pi1 pg1 pt1 w0 nfp f3
  generalize hs4 : ({ a3 with heap := pushCells (a3.heap.push { cls := .type "dict", data := .dict #[] }) scope.names } : Shared) = a4 at I4 ⊢
  have st4 : tn 0 a4.heap := T.keep _ _ _ st3 fun b _ o e => by rw [← hs4]; exact pushCells_keeps _ _ _ _ (Heap.get?_push_of_some _ e)
  have free0 : ∀ {τ : L2.St} {H' : Hp} {s' : Shared}, Inv (X.blk a3 H3 scope ce fp) [] τ H' s' → (∀ b ∈ fp, H' b = none) → ∀ b ∈ fp, FpOk (X.blk a3 H3 scope ce fp) [] H' b := fun {τ H' s'} I' hn b hb =>
    ⟨hn b hb, (I'.ok.exf b hb).1, I'.ok.exfs b hb, .inl hb, fun x c e => (I'.ok.exf b hb).2 x c e, fun p hp => absurd (show p ∈ ([] : List (Addr × Obj)) ++ [] from hp) (by simp)⟩
  let vs := own.map (·.2)
  have loop : codeAny (model X.prog X.w) X.A (.compLoop (.DictComp kx vx [⟨tg, iter, ifs, 0⟩, ⟨tg1, iter1, ifs1, 0⟩] scope pos) 0 (.ref it) (.ref Dl) ce) (compPost (model X.prog X.w) X.A X.xe none (EP X pins σ Q) (.ref Dl) a3.heap.objs.size) a4 := by
    refine dc2_loop0 (hs1 ce) (fun n s' => ∃ i H', Inv (X.blk a3 H3 scope ce fp) [] (wipe σ vs) H' s' ∧ tn i s'.heap ∧ (∀ b ∈ fp, H' b = none) ∧ S i n H') ?_ m0 ⟨0, H3, I4, st4, nfp, w0⟩
    rintro n b5 ⟨i, H5, I5, st5, n5, w5⟩
    rcases turn i n H5 w5 with ⟨stop, qq⟩ | ⟨go, N, hNx, step⟩
    · refine thnF (T.done (X.blk a3 H3 scope ce fp) rfl rfl rfl hc i [] b5 _ H5 (fun _ _ => False) I5 (free0 I5 n5) st5 stop) fun r b6 ⟨hr, I6⟩ => ?_
      subst hr
      have I7 : Inv X pins σ H5 b6 := I3.call' (ch := fp) I6.os I6.base I6.hok I6.bare fun b hb => ⟨(f3 b hb).1.2.2.2.1, (f3 b hb).1.2.1, (f3 b hb).1.2.2.2.2.1, (f3 b hb).1.2.2.2.2.2⟩
      have nC : H5 a3.heap.objs.size = none := by
        have z : H5 ce.locals = none := I6.free
        rwa [cL] at z
      obtain ⟨m, hn, _⟩ := I6.loc
      have hn : b6.heap.Ns a3.heap.objs.size m := by rw [← cL]; exact hn
      obtain ⟨g0, g1', g2, g3, g4, g5⟩ := I3.fpOk (Nat.le_refl _) nC
      exact ⟨m, hn, fun h'' sb => ⟨.ref Dl, H5, I7.turned (t' := b6.toks) (fun b o hb e => (sb.2 b hb).trans e) g0 g1' g3 g4 g5, rfl, qq⟩⟩
    · refine thnF (T.item (X.blk a3 H3 scope ce fp) rfl rfl rfl hc i [] b5 _ H5 (fun _ _ => False) I5 (free0 I5 n5) st5 go) fun r b6 ⟨u, hr, h6⟩ => ?_
      subst hr
      refine thnF h6 fun _ b7 ⟨x, H7, I7, r7, y7, st7, n7⟩ => ?_
      refine thnF (pg.run _ b7 _ H7 x u _ (I7.pinned (free0 I7 n7) (T.obj _ _ st7)) r7 (step x H7 y7)) fun _ b8 ⟨σ8, H8, I8, hw8, q8⟩ => ?_
      refine thnF (pt.run _ b8 σ8 H8 _ I8 q8) fun b b9 ⟨H9, I9, q9⟩ => ?_
      have fin : ∀ {τ : L2.St} {s' : Shared} {H' : Hp}, Inv (X.blk a3 H3 scope ce fp) ([] ++ pinsAt fp b7.heap) τ H' s' → (wipe σ vs).length = τ.length → (∀ (j : Nat) v, (wipe σ vs)[j]? = some (some v) → τ[j]? = some (some v)) → N H' →
          ∃ m, m < n ∧ ∃ i H', Inv (X.blk a3 H3 scope ce fp) [] (wipe σ vs) H' s' ∧ tn i s'.heap ∧ (∀ b ∈ fp, H' b = none) ∧ S i m H' := fun {τ s' H'} I' hl hkk nx => by
        obtain ⟨m', hm, w'⟩ := hNx H' nx
        have pin' : ∀ b ∈ fp, ∀ o, b7.heap.get? b = some o → s'.heap.get? b = some o ∧ H' b = none := fun b hb o e =>
          let z := I'.pin (b, o) (List.mem_append_right _ (List.mem_append_right _ (mem_pinsAt hb e)))
          ⟨z.1, z.2.1⟩
        refine ⟨m', hm, i + 1, H', (I'.unpinned (pins := [])).weak hl hkk, T.keep _ _ _ st7 fun b hb o e => (pin' b hb o e).1, fun b hb => ?_, w'⟩
        obtain ⟨o, e, _⟩ := T.obj _ _ st7 b hb
        exact (pin' b hb o e).2
      have hl8 : (wipe σ vs).length = σ8.length := by rw [← hw8, wipe_length]
      cases b with
      | false =>
        simp only [Bool.false_eq_true, if_false] at q9 ⊢
        exact fin I9 hl8 (fun j v e => by rw [← hw8] at e; exact (wipe_some e).1) q9
      | true =>
        simp only [if_true] at q9 ⊢
        refine thnF (pi1.run _ b9 σ8 H9 _ I9 q9) fun xv b10 hx => thnF hx fun itv b11 h11 => ?_
        obtain ⟨it1, fp1, tn1, J1, H11, rfl, I11, T1, st11, f11, S1, ⟨m1, w1⟩, turn1⟩ := h11
        have free1 : ∀ {H' : Hp}, (∀ b ∈ fp1, H' b = none) → ∀ b ∈ fp1, FpOk (X.blk a3 H3 scope ce fp) ([] ++ pinsAt fp b7.heap) H' b := fun hn b hb => ⟨hn b hb, (f11 b hb).2⟩
        have loop1 : codeAny (model X.prog X.w) X.A (.compLoop (.DictComp kx vx [⟨tg, iter, ifs, 0⟩, ⟨tg1, iter1, ifs1, 0⟩] scope pos) 1 (.ref it1) (.ref Dl) ce) (fun r s' => match r with
              | .ok _ => ∃ m, m < n ∧ ∃ i H', Inv (X.blk a3 H3 scope ce fp) [] (wipe σ vs) H' s' ∧ tn i s'.heap ∧ (∀ b ∈ fp, H' b = none) ∧ S i m H'
              | .error _ => False) b11 := by
          refine dc2_loop1 (fun k s' => ∃ j H', Inv (X.blk a3 H3 scope ce fp) ([] ++ pinsAt fp b7.heap) (wipe σ8 vs1) H' s' ∧ tn1 j s'.heap ∧ (∀ b ∈ fp1, H' b = none) ∧ S1 j k H') ?_ m1 ⟨0, H11, I11.weak (wipe_length _ _) (fun j v e => (wipe_some e).1), st11, fun b hb => (f11 b hb).1, w1⟩
          rintro k b12 ⟨j, H12, I12, st12, n12, w12⟩
          rcases turn1 j k H12 w12 with ⟨stop1, nx1⟩ | ⟨go1, N1, hN1, step1⟩
          · refine thnF (T1.done (X.blk a3 H3 scope ce fp) rfl rfl rfl hc j _ b12 (wipe σ8 vs1) H12 (fun _ _ => False) I12 (free1 n12) st12 stop1) fun r b13 ⟨hr, I13⟩ => ?_
            subst hr
            refine fin I13 (hl8.trans (wipe_length σ8 vs1).symm) (fun j v e => ?_) nx1
            rw [← hw8] at e
            obtain ⟨e1, e2⟩ := wipe_some e
            rw [wipe_out fun z => e2 (hv j z)]
            exact e1
          · refine thnF (T1.item (X.blk a3 H3 scope ce fp) rfl rfl rfl hc j _ b12 (wipe σ8 vs1) H12 (fun _ _ => False) I12 (free1 n12) st12 go1) fun r b13 ⟨u1, hr, h13⟩ => ?_
            subst hr
            refine thnF h13 fun _ b14 ⟨x1, H14, I14, r14, y14, st14, n14⟩ => ?_
            refine thnF (pg1.run _ b14 (wipe σ8 vs1) H14 x1 u1 _ (I14.pinned (free1 n14) (T1.obj _ _ st14)) r14 (step1 x1 H14 y14)) fun _ b15 ⟨σ15, H15, I15, hw15, q15⟩ => ?_
            refine thnF (pt1.run _ b15 σ15 H15 _ I15 q15) fun c b16 ⟨H16, I16, q16⟩ => ?_
            have fin1 : ∀ {s' : Shared} {H' : Hp}, Inv (X.blk a3 H3 scope ce fp) (([] ++ pinsAt fp b7.heap) ++ pinsAt fp1 b14.heap) σ15 H' s' → N1 H' → ∃ m, m < k ∧ ∃ j H', Inv (X.blk a3 H3 scope ce fp) ([] ++ pinsAt fp b7.heap) (wipe σ8 vs1) H' s' ∧ tn1 j s'.heap ∧ (∀ b ∈ fp1, H' b = none) ∧ S1 j m H' := fun {s' H'} I' nx => by
              obtain ⟨m', hm, w'⟩ := hN1 H' nx
              have pin' : ∀ b ∈ fp1, ∀ o, b14.heap.get? b = some o → s'.heap.get? b = some o ∧ H' b = none := fun b hb o e =>
                let z := I'.pin (b, o) (List.mem_append_right _ (List.mem_append_right _ (mem_pinsAt hb e)))
                ⟨z.1, z.2.1⟩
              refine ⟨m', hm, j + 1, H', I'.unpinned.weak (by rw [← hw15, wipe_length]) (fun j v e => by rw [← hw15] at e; exact (wipe_some e).1), T1.keep _ _ _ st14 fun b hb o e => (pin' b hb o e).1, fun b hb => ?_, w'⟩
              obtain ⟨o, e, _⟩ := T1.obj _ _ st14 b hb
              exact (pin' b hb o e).2
            cases c with
            | false =>
              simp only [Bool.false_eq_true, if_false] at q16 ⊢
              exact fin1 I16 q16
            | true =>
              simp only [if_true] at q16 ⊢
              refine thnF (pk.run _ b16 σ15 H16 _ I16 q16) fun z b17 ⟨yk, H17, I17, r17, q17⟩ => ?_
              refine thnF (pe.run _ b17 σ15 H17 _ I17 q17) fun z2 b18 ⟨yv, H18, I18, r18, pp⟩ => ?_
              have em : (X.blk a3 H3 scope ce fp).mgx = X.mgx := by rw [mgx_calm hc, mgx_calm (X := X.blk a3 H3 scope ce fp) hc]
              exact put_ok (X := X.blk a3 H3 scope ce fp) I18 hu (by rw [em]; exact pp) r17 r18 fun s' H' I' nx => fin1 I' nx
        exact dc2_start1 loop1 (T1.self X.A 0 _ _ _ st11 loop1)
  exact codeAny_compStart_dict loop (T.self X.A 0 _ _ _ st4 loop)
end
end PM

end
section
set_option Elab.async false
set_option linter.all false
set_option maxRecDepth 100000
set_option maxHeartbeats 4000000
namespace PM
open PySem PySem.Spec PyProof.Rows L2 N1
structure ExC (K : PySem.W.Frag) (C : Addr) : Prop where
  exc : PySem.W.excIn K C [.type "ValueError", .type "Exception", .type "BaseException", .type "object"] "ValueError.__new__" = true
  sub : PySem.W.subIn K (.ref C) (.type "BaseException") = some true
  ty : PySem.W.typeIn K (.ref C) = some (.type "type")
  self : PySem.W.mroIn K C (.ref C) = some true
section
variable {prog : Program} {w : World} {A : Around} {E : Value → Shared → Prop} {s : Shared} {K : PySem.W.Frag} {C : Addr}
theorem issub_own {Q : Fin → Shared → Prop} (X : K.In s.heap) (hc : ∃ oc od cd sl, K.lookup C = some ⟨oc, od, .cls cd, sl⟩) (ty : PySem.W.typeIn K (.ref C) = some (.type "type")) (sub : PySem.W.mroIn K C (.ref C) = some true) (h : Q (.done (.ret (.bool true))) s) :
    wpAny (model prog w) A (Builtin.«issubclass.nested» ⟨[.ref C, .ref C, rawInt 0], []⟩) Q E s := by
  obtain ⟨hh, g, dr, t, os⟩ := s
  dsimp only at X
  obtain ⟨oc, od, cd, sl, hK⟩ := hc
  have hC := X _ _ hK
  have L1 := PySem.W.looks_mroIn (M := model prog w) X sub
  have hm := PySem.W.looks_typeIn (M := model prog w) X ty
  unfold Builtin.«issubclass.nested»
  repeat (first | exact h | exact wpAny_pure h | with_reducible refine hm.at ?_ | lk)
theorem issub_ownC {Q : Value → Shared → Prop} (X : K.In s.heap) (hc : ∃ oc od cd sl, K.lookup C = some ⟨oc, od, .cls cd, sl⟩) (ty : PySem.W.typeIn K (.ref C) = some (.type "type")) (sub : PySem.W.mroIn K C (.ref C) = some true) (h : Q (.bool true) s) :
    wpAny (model prog w) A (call (.builtin "issubclass") [.ref C, .ref C]) Q E s :=
  call_issubclass (S := fun _ R s => K.In s.heap ∧ R (.ok (.ret (.bool true))) s) (fun _ _ _ _ _ hs => issubclass_outer (issub_own hs.1 hc ty sub hs.2)) ⟨X, h⟩
end
section
variable {X : Cx} {Wx : WX} {x : Str} {np pos : Pos} {C : Addr}
theorem ps_raiseC (hc : X.calm = true) (tk : Takes X Wx) (T : ExC X.K C) (gC : X.mg x = some (.ref C)) (hg : Gl X x) (hdb : (x == ("__debug__" : Str)) = false) : PS X (.Raise (some (.Name x np)) none pos) (fun _ σ H => Wx (.ref C) none σ H) := by
  refine ⟨fun pins s σ H D I h => ?_⟩
  have hh : X.A.handled = none := I.ok.hd hc
  show wpAny (model X.prog X.w) X.A (do standAt pos; raiseStmt X.env (some (do let v ← eval (.Name x np) X.env; standAt pos; pure v)) none) _ _ s
  refine wpAny_bind (wpAny_standAt ?_)
  unfold raiseStmt
  dsimp only
  refine wpAny_bind (wpAny_bind (ld_glob I hg gC (wpAny_bind (wpAny_standAt (wpAny_pure ?_))) hdb))
  refine wpAny_bind (wpAny_pure ?_)
  dsimp only
  refine wpAny_bind (wpAny_holding ?_)
  obtain ⟨bm, N, nm, qn, bs, hdct, sn, sub, ab, col, dd, k0, k1, k2, k3, k5, mN, hC, hN, hni, OT⟩ := exc_obj I.kIn T.exc
  have hcK : ∃ oc od cd sl, X.K.lookup C = some ⟨oc, od, .cls cd, sl⟩ := by
    have q := T.exc
    unfold PySem.W.excIn at q
    split at q
    · rename_i ho; exact ⟨_, _, _, _, ho⟩
    · cases q
  have isT : ∀ {Q' : Bool → Shared → Prop} {s' : Shared}, X.K.In s'.heap → Q' true s' → wpAny (model X.prog X.w) X.A (isType (.ref C)) Q' X.xe s' := by
    intro Q' s' k hq
    obtain ⟨oc, od, cd, sl, e⟩ := hcK
    simp only [isType, loadHead]
    refine wpAny_bind (wpAny_loadPart (k _ _ e) ?_)
    exact wpAny_pure hq
  unfold excFromValue isExcClass
  refine wpAny_bind (wpAny_bind (isT I.kIn ?_))
  simp only [if_true]
  refine (PySem.W.looks_subIn I.kIn T.sub).here ?_
  simp only [if_true]
  refine wpAny_bind (wpAny_call_exc_subT F.excBase_ValueError OT hC hN hni (fun h' e hm => ?_) (by show 0 ≤ sizeLine; omega))
  obtain ⟨t, he, _, _⟩ := hm.there
  have kI : X.K.In h' := PySem.W.Frag.In.keeps I.kIn hm.keeps
  have LT : PySem.W.Looks (model X.prog X.w) h' (typeOf (.ref e)) (.ref C) := fun A Q E s k q => wpAny_typeOf_ref (k _ _ he) q
  have LI : PySem.W.Looks (model X.prog X.w) h' (isInstance (.ref e) (.type "BaseException")) true := LT.andThen (PySem.W.looks_subIn kI T.sub)
  refine wpAny_bind (LI.here ?_)
  simp only [Bool.not_true, Bool.false_eq_true, if_false]
  refine wpAny_pure ?_
  refine wpAny_bind (isT kI ?_)
  simp only [if_true]
  refine wpAny_bind (wpAny_holding ?_)
  unfold raisedFor
  simp only [Bool.false_eq_true, if_false]
  refine wpAny_bind (m := typeOf (.ref e)) (LT.here ?_)
  refine wpAny_bind (issub_ownC (s := { s with heap := h' }) kI hcK T.ty T.self ?_)
  refine wpAny_bind (wpAny_truthy_bool ?_)
  simp only [if_true]
  refine wpAny_pure ?_
  unfold setFlight raiseNew
  refine wpAny_bind (wpAny_bind (wpAny_field (i := 1) (x := Value.none) he rfl rfl ?_))
  rw [if_neg (by decide)]
  refine wpAny_pure (wpAny_bind (wpAny_handled ?_))
  rw [hh]
  have fin : X.xe (.ref e) { s with heap := h' } := tk _ _ (XE.new I hm.keeps hm.new he ⟨rfl, rfl⟩ rfl rfl (I.hok.gone hm.new) rfl I.bare h)
  first
    | exact wpAny_throw fin
    | exact wpAny_bind (wpAny_pure (wpAny_throw fin))
end
end PM

end
section
set_option Elab.async false
set_option linter.all false
set_option maxRecDepth 100000
set_option maxHeartbeats 4000000
namespace PM
open PySem PySem.Spec PyProof.Rows L2 N1 NdefX
theorem eval_meth {o : Expr} {name : Str} {apos pos : Pos} {args : List Expr} {kws : List Keyword} {env : Env} (hline : (apos.endLine == pos.line) = true) (hfew : methodCallForm (args.length + kws.length) (backTo pos (starEach args env)) (backToKw pos (keywordEach kws env)) = true) :
    eval (.Call (.Attribute o name apos) args kws pos) env = (do
      let ov ← attributeBase o name env (eval o env)
      standAt apos.atName
      let (f, first) ← holding [ov] (getMethod ov name (do return (← importBound o env).getD true))
      callWith pos f first (backTo pos (starEach args env)) (backToKw pos (keywordEach kws env))) := by
  show (do
    let ov ← attributeBase o name env (eval o env)
    standAt apos.atName
    methodCall o name apos pos env ov (args.length + kws.length) (backTo pos (starEach args env)) (backToKw pos (keywordEach kws env))) = _
  have hpos : methodCallPos true o env apos pos = pure pos := by unfold methodCallPos; simp [hline]
  unfold methodCall
  rw [hfew, hpos]
  rfl
abbrev lowBody (x f : Str) (q1 q2 q3 q4 q5 q6 r1 r2 r3 r4 : Pos) : List Stmt :=
  [.Expr (.Call (.Attribute (.Call (.Name "super" q1) [] [] q2) "__init__" q3) [.Name x q4] [] q5) q6, .Assign [.Attribute (.Name "self" r1) f r2] (.Name x r3) r4]
structure LowC (P : Program) (K : PySem.W.Frag) (C : Addr) (f : Str) (fI : Addr) (fd : FuncData) : Prop where
  oex : OexC K C
  init : PySem.W.findIn K (.ref C) "__init__" = some (some (.ref fI))
  ity : PySem.W.typeIn K (.ref fI) = some (.type "function")
  nof : PySem.W.findIn K (.ref C) f = some none
  self : PySem.W.mroIn K C (.ref C) = some true
  isVE : PySem.W.subIn K (.ref C) (.type "ValueError") = some true
  along : PySem.W.ks_superIn K C C "__init__" = some (some (.builtin "ValueError.__init__"))
  opq : PySem.W.nsIn K cStatics "thirdparty.any" = some none
  top : (P.main.scope.names.lookup ("super" : Str)).isSome = false
  fn : ∃ (qual x : Str) (params : Arguments) (scope : Scope) (kV doc pm : Value) (an : Option Addr) (cda : Addr) (ct : Value) (cc : Addr) (oc : Value) (od : Option Addr) (osl : Array (Option Value)) (q1 q2 q3 q4 q5 q6 r1 r2 r3 r4 : Pos),
    fd = PySem.W.ksFn "__init__" qual params (lowBody x f q1 q2 q3 q4 q5 q6 r1 r2 r3 r4) scope .none kV doc pm an (.ref cda) ct cc ∧ K.lookup fI = some ⟨oc, od, .func fd, osl⟩ ∧ PySem.W.codeIn K (.ref cda) qual = true ∧
    NScope ["self", x, "__class__"] ["self", x] ["__class__"] scope ∧ scope.names.lookup ("super" : Str) = some .globalImplicit ∧ ((params.posonlyargs ++ params.args).head?.map (·.arg)) = some "self" ∧ (x == ("__debug__" : Str)) = false ∧ (x == ("__classdict__" : Str)) = false ∧
    (∃ cl cld csl, K.lookup cc = some ⟨cl, cld, .cell (some (.ref C)), csl⟩) ∧ (∃ ccl cdd vs ccs file tf, K.lookup cda = some ⟨ccl, cdd, .fields vs, ccs⟩ ∧ vs[2]? = some (.str file tf) ∧ ((P.main.file : Str) == file) = true) ∧
    (q3.endLine == q5.line) = true ∧ (q6.line == q6.line) = true ∧ ∀ us : List Value, us.length = 2 → bindArgs fd ⟨us, []⟩ = pure ((["self", x] : List Str).zip us)
def spLow (C : Addr) (f : Str) : Sp := fun vs H Q _ => ∃ a v, vs = [.ref a, v] ∧ H a = some (exo a C none) ∧ ∀ dx, H dx = none → dx ≠ a → Q .non (upd (upd H dx (exd dx [(f, v)])) a (exo a C (some dx)))
section
variable {P : Program} {w : World} {K : PySem.W.Frag} {mg : Str → Option Value} {base : Heap} {C fI : Addr} {f : Str} {fd : FuncData}
theorem low_ok (T : LowC P K C f fI fd) (hs : mg "super" = none) : ∃ x, FnOk P w K mg base (CX P w) 2 fI fd ["self", x] (spLow C f) ∧ ∀ us : List Value, us.length = 2 → bindArgs fd ⟨us, []⟩ = pure ((["self", x] : List Str).zip us) := by
  obtain ⟨qual, x, params, scope, kV, doc, pm, an, cda, ct, cc, oc, od, osl, q1, q2, q3, q4, q5, q6, r1, r2, r3, r4, rfl, lk, hcd, S, hsup, har, hx1, hx2, ⟨cl, cld, csl, lcc⟩, ⟨ccl, cdd, vsC, ccs, file, tf, lcd, hv2, hfile⟩, hline, _, hbind⟩ := T.fn
  refine ⟨x, ⟨fun vs H Q E h => by obtain ⟨a, v, rfl, _⟩ := h; rfl, fun A outer s H args us vs Q E hr e0 hb r hsp => ?_⟩, hbind⟩
  obtain ⟨a, v, rfl, ha, hq⟩ := hsp
  obtain ⟨u1, u2, rfl, ru1, ru2⟩ := r.two
  cases (show u1 = Value.ref a from ru1)
  have KB : K.In base := e0.mod.kin
  have KX : K.In s.heap := fun b o e => (e0.bs b o (KB b o e)).1
  have lim : s.heap.NoLimit := e0.mod.nolimit.keeps fun b o e => (e0.bs b o e).1
  have nH : ∀ {b o}, K.lookup b = some o → H b = none := fun {b o} e => (e0.bs b o (KB b o e)).2
  let F : NF := ⟨"__init__", qual, params, lowBody x f q1 q2 q3 q4 q5 q6 r1 r2 r3 r4, scope, [("__class__", cc)], cda⟩
  have CA : CellsAt F.cl ["__class__"] [some (V.ref C)] s.heap H := by
    refine ⟨rfl, fun y c e => ?_, fun y z c e1 e2 => ?_, fun i y e => ?_⟩
    · have : c = cc := by
        have e : ([("__class__", cc)] : List (Str × Addr)).lookup y = some c := e
        simp only [List.lookup] at e
        split at e
        · cases e; rfl
        · cases e
      subst this
      exact ⟨nH lcc, _, _, KX _ _ lcc, rfl⟩
    · have e1 : ([("__class__", cc)] : List (Str × Addr)).lookup y = some c := e1
      have e2 : ([("__class__", cc)] : List (Str × Addr)).lookup z = some c := e2
      simp only [List.lookup] at e1 e2
      split at e1
      · rename_i h1
        split at e2
        · rename_i h2
          rw [eq_of_beq h1, eq_of_beq h2]
        · cases e2
      · cases e1
    · match i, e with
      | 0, e =>
        simp at e
        subst e
        refine ⟨cc, by show ([(("__class__" : Str), cc)] : List (Str × Addr)).lookup ("__class__" : Str) = some cc; simp [List.lookup], fun v ev => ?_⟩
        simp at ev
        subst ev
        exact ⟨.ref C, rfl, _, KX _ _ lcc, rfl⟩
  refine ks_codeAny_call_defAt (fd := PySem.W.ksFn "__init__" qual params (lowBody x f q1 q2 q3 q4 q5 q6 r1 r2 r3 r4) scope .none kV doc pm an (.ref cda) ct cc) (body := lowBody x f q1 q2 q3 q4 q5 q6 r1 r2 r3 r4) (binds := (["self", x] : List Str).zip [.ref a, u2]) hr.depth (KX _ _ lk) rfl lim (PySem.W.codeRec_of KX hcd) rfl hb S.nocell (fun y hy => S.par y.1 (List.of_mem_zip hy).1) (fun h₁ hns hk₁ => ?_) S.co S.gen S.kind
  have I : Inv (ncx (CX P w) P w K mg base ["self", x, "__class__"] F fI A outer s H E) [] (startF ["self", x, "__class__"] [.ref a, v] [some (V.ref C)]) H { s with heap := h₁, toks := s.toks + ((["self", x] : List Str).zip [Value.ref a, u2]).length } := inv_startN S hr.hd e0 rfl r CA hns hk₁
  let X : Cx := ncx (CX P w) P w K mg base ["self", x, "__class__"] F fI A outer s H E
  have hk : X.env.scope.kind = .function := S.kind
  have hsc : X.env.kindOf "__class__" = some .free := S.frk _ (by simp)
  have hself : X.env.kindOf "self" = some .local := S.par _ (by simp)
  have hxl : X.env.kindOf x = some .local := S.par _ (by simp)
  obtain ⟨m, hm, hl⟩ := I.loc
  have mself : m "self" = some (.ref a) := by
    obtain ⟨u, ru, l⟩ := hl 0 "self" (.ref a) rfl rfl (.inl hself)
    cases (show u = Value.ref a from ru)
    rcases l with ⟨_, z⟩ | ⟨z | z, _⟩
    · exact z
    · rw [show (ncx (CX P w) P w K mg base ["self", x, "__class__"] F fI A outer s H E).env.kindOf "self" = some .local from hself] at z; cases z
    · rw [show (ncx (CX P w) P w K mg base ["self", x, "__class__"] F fI A outer s H E).env.kindOf "self" = some .local from hself] at z; cases z
  obtain ⟨ux, rux, mx⟩ : ∃ u, RelV v u ∧ m x = some u := by
    obtain ⟨u, ru, l⟩ := hl 1 x v rfl rfl (.inl hxl)
    rcases l with ⟨_, z⟩ | ⟨z | z, _⟩
    · exact ⟨u, ru, z⟩
    · rw [show (ncx (CX P w) P w K mg base ["self", x, "__class__"] F fI A outer s H E).env.kindOf x = some .local from hxl] at z; cases z
    · rw [show (ncx (CX P w) P w K mg base ["self", x, "__class__"] F fI A outer s H E).env.kindOf x = some .local from hxl] at z; cases z
  have fin2 : ∀ s2 : Shared, Inv X [] (startF ["self", x, "__class__"] [.ref a, v] [some (V.ref C)]) H s2 → wpAny (model P w) X.A (execs [.Assign [.Attribute (.Name "self" r1) f r2] (.Name x r3) r4] X.env) (fun fl s' => CR (CX P w) outer P w H s Q E (.ok (.ret (match fl with | .ret v => v | _ => .none))) s') X.xe s2 := fun s2 I2 => by
    have p0 : PE X (.Name "self" r1) (tVar 0) := pe_var rfl (.inl hself)
    have p1 : PE X (.Name x r3) (tVar 1) := pe_var rfl (.inl hxl) hx1 hx2
    refine wpAny_mono ((pss_one (ps_ost (f := f) p0 p1)).run [] s2 _ H { nx := fun _ H' => Q .non H', rt := fun _ _ => False } I2 ⟨v, rfl, .ref a, rfl, a, C, rfl, T.oex, T.nof, .inl ⟨ha, hq⟩⟩) (fun fl s' hs => ?_) fun _ _ z => z
    cases fl with
    | next =>
      obtain ⟨σ', H', J, q⟩ := hs
      exact ⟨.non, H', J.os, J.bare, J.base, J.hok, rfl, q⟩
    | ret u => obtain ⟨_, _, _, _, _, z⟩ := hs; exact False.elim z
    | brk => obtain ⟨_, _, _, z⟩ := hs; exact False.elim z
    | cont => obtain ⟨_, _, _, z⟩ := hs; exact False.elim z
  have hint : interactive X.env = false := by
    show (scope.kind == .module && _) = false
    rw [S.kind]
    rfl
  refine ks_wpAt_execs_cons (ks_wpAt_Expr_any (ks_wpAt_MethodCall ?_ (eval_meth hline rfl)) hint rfl)
  obtain ⟨ar, ear, enar⟩ : ∃ ar, (params.posonlyargs ++ params.args).head? = some ar ∧ ar.arg = "self" := by
    cases q : (params.posonlyargs ++ params.args).head? with
    | none => rw [q] at har; cases har
    | some ar => rw [q] at har; exact ⟨ar, rfl, Option.some.inj har⟩
  have kI := I.kIn
  refine ks_wpAt_super_base (env := X.env) (f := fI) (cc := cda) hsup hsc (by decide) rfl (kI _ _ lk) rfl ear rfl (kI _ _ lcd) rfl hv2 hfile T.top ?_
  obtain ⟨mb, b1, b2⟩ := I.mod.blt
  refine PySem.W.ks_loadName_global hk hsup (Calls.loadGlobal_builtin (by rw [I.ok.glob]; exact I.mod.glob.keeps I.bk) hs (by rw [I.ok.blt]; exact b1.keeps I.bk) ((b2 "super" (by decide)).trans (show bootBuiltins "super" = some (.type "super") by decide +kernel)) ⟨rfl, ?_⟩)
  refine wpAny_loadName_free hk hsc (c := cc) (v := .ref C) (by show ([(("__class__" : Str), cc)] : List (Str × Addr)).lookup ("__class__" : Str) = some cc; simp [List.lookup]) ⟨_, kI _ _ lcc, rfl⟩ ?_
  rw [enar]
  refine wpAny_loadName_local hk hself hm mself ?_
  obtain ⟨nm, qn, N, bs, bm, sn, sub, ab, col, dd, k0, k1, k2, k3, k5, hC, hbm⟩ := T.oex.cls
  obtain ⟨t1, hoa⟩ := exo_at I.hok ha
  have LT : ∀ {h' : Heap}, (∃ t1, h'.get? a = some ({ cls := .ref C, dict := none, data := .fields #[.ref t1, .none, .none, .none, .bool false, .none] } : Obj)) → PySem.W.Looks (model P w) h' (typeOf (.ref a)) (.ref C) := fun ⟨t, e⟩ A Q E s k q => wpAny_typeOf_ref (k _ _ e) q
  refine ks_wpAny_isType_cls (kI _ _ hC) rfl ⟨rfl, ?_⟩
  refine ks_wpAny_call_super (kI _ _ hC) rfl hoa rfl (fun c e => nomatch e) (PySem.W.looks_mroIn kI T.self) (fun h2 hso kp2 => ?_)
  have I2 := I.kept (t' := s.toks + ((["self", x] : List Str).zip [Value.ref a, u2]).length) kp2
  have KF := PySem.W.kxs_ValueError
  have hcd2 : PySem.W.clsIn K C = some { name := nm, bases := bs, mro := .ref C :: bm, ns := N, qualname := qn, hasDict := true, slotNames := sn, subclasses := sub, abstract := ab, collection := col, hasDel := false } := by unfold PySem.W.clsIn; rw [hC] <;> rfl
  have al := T.along
  unfold PySem.W.ks_superIn at al
  rw [hcd2] at al
  obtain ⟨t2, hoa2⟩ := exo_at I2.hok ha
  have hne : a ≠ C := fun z => by
    have y := I2.kIn _ _ hC
    rw [z] at hoa2
    rw [y] at hoa2
    cases hoa2
  refine PySem.W.kxs_getMethod KF hso (PySem.W.looks_opaque I2.kIn T.opq) (l₀ := .ref C :: bm) (fun A Q E s k q => wpAny_bind ((PySem.W.looks_clsIn I2.kIn hcd2) A _ E s k (wpAny_pure q))) rfl I2.kIn al ((LT ⟨_, hoa2⟩).andThen (PySem.W.looks_subIn I2.kIn T.isVE)) hne (by decide) ?_
  have kp3 : ∀ b o, h2.get? b = some o → (h2.push (PySem.W.kxs_mw "ValueError.__init__" a)).get? b = some o := fun b o e => Heap.get?_push_of_some _ e
  have I3 := I2.kept (t' := s.toks + ((["self", x] : List Str).zip [Value.ref a, u2]).length + 1) kp3
  have hu3 : (h2.push (PySem.W.kxs_mw "ValueError.__init__" a)).get? h2.objs.size = some (PySem.W.kxs_mw "ValueError.__init__" a) := Heap.get?_push_at rfl rfl
  refine PySem.W.kxs_callWith (i := "ValueError.__init__") (x := a) rfl (Calls.evalArgs_plain (Calls.spliced_cons (wpAny_Name (wpAny_loadName_local hk hxl (hm.keeps fun b o e => kp3 b o (kp2 b o e)) mx (Calls.spliced_nil ⟨hu3, ?_⟩)) hx1)))
  obtain ⟨t3, hoa3⟩ := exo_at I3.hok ha
  refine wpAny_call (codeAny_of_tree ?_)
  show wpAny _ (Around.in1 _) (callAny (.ref h2.objs.size) ⟨[ux], []⟩) _ _ _
  simp only [callAny]
  refine wpAny_bind (wpAny_load hu3 ?_)
  simp only [PySem.W.kxs_mw, show (Value.type "method-wrapper" == Value.type "method" || Value.type "method-wrapper" == Value.type "builtin_function_or_method" || Value.type "method-wrapper" == Value.type "method-wrapper") = true by decide, if_true]
  refine PySem.W.KFB.if_so (by decide) ?_
  refine wpAny_bind (PySem.W.check_bound_init PySem.F.excBase_ValueError.toExcCallFacts (I3.kIn _ _ hC) hoa3 rfl ?_)
  refine wpAny_bind (wpAny_pure (wpAny_pure ?_))
  refine ⟨Code.quiet_builtin _ (by decide +kernel), codeAny_builtin PySem.F.excBase_ValueError.initEntry ?_⟩
  refine PySem.W.exc_init_tree (cls := .ref C) (t0 := t3) (dv := none) (c2 := .none) (c3 := .none) (b4 := .bool false) hoa3 (by show 1 ≤ sizeLine; rw [sizeLine_eq]; omega) (fun h4 kp4 hx4 _ => ?_)
  have J := I3.write (t' := s.toks + ((["self", x] : List Str).zip [Value.ref a, u2]).length + 1) (x := a) (e := a) (o := exo a C none) (by rw [ha]; exact True.intro) (.inl rfl) kp4 ⟨_, hx4⟩ (exo_ok hx4)
  have eu : upd H a (exo a C none) = H := by
    funext b
    by_cases hb : b = a
    · rw [hb, upd_same, ha]
    · rw [upd_ne hb]
  rw [eu] at J
  exact wpAt_of_wpAny (fin2 _ J)
end
end PM

end
section
set_option Elab.async false
set_option linter.all false
set_option maxRecDepth 100000
set_option maxHeartbeats 4000000
namespace PM
open PySem PySem.Spec PyProof.Rows L2 N1 NdefX
open Evl (Ex)
def W.cln : W → Bool
  | .exn _ _ => false
  | _ => true
def clnO : Option W → Bool
  | some w => w.cln
  | none => true
def AO.cln : AO → Bool
  | .dead => true
  | .lst ws => ws.all W.cln
  | .rol ws => ws.all W.cln
  | .inst _ fs => fs.all clnO
  | .dct _ ws => ws.all W.cln
section
variable {K : PySem.W.Frag} {f : MgW} {x y : Option (Addr × Value × Option Addr)} {G H : Hp} {μ : Mu} {h : AHp}
theorem W.cln_rep {w : W} {v : V} (l : w.cln = true) (r : RepW K ⟨f, x⟩ G μ w v) : RepW K ⟨f, y⟩ G μ w v := by
  cases w with
  | d d => exact r
  | ref a => exact r
  | exn c fs => cases l
theorem W.up_rep {w : W} {v : V} (r : RepW K ⟨f, none⟩ G μ w v) : RepW K ⟨f, y⟩ G μ w v := by
  cases w with
  | d d => exact r
  | ref a => exact r
  | exn c fs => obtain ⟨_, _, _, e, _⟩ := r; cases e
theorem clns_rep : ∀ {ws : List W} {vs : List V}, ws.all W.cln = true → RepWs K ⟨f, x⟩ G μ ws vs → RepWs K ⟨f, y⟩ G μ ws vs
  | _, _, _, .nil => .nil
  | _, _, l, .cons a b => by
    rw [List.all_cons, Bool.and_eq_true] at l
    exact .cons (W.cln_rep l.1 a) (clns_rep l.2 b)
theorem ups_rep : ∀ {ws : List W} {vs : List V}, RepWs K ⟨f, none⟩ G μ ws vs → RepWs K ⟨f, y⟩ G μ ws vs
  | _, _, .nil => .nil
  | _, _, .cons a b => .cons (W.up_rep a) (ups_rep b)
theorem RelH.cln (rh : RelH K ⟨f, x⟩ G μ h H) (l : h.all AO.cln = true) : RelH K ⟨f, y⟩ G μ h H := by
  refine ⟨rh.ex, rh.len, rh.sep, rh.free, rh.there, fun i o q a b => ?_⟩
  have lo := (List.all_eq_true.mp l) o (List.mem_of_getElem? b)
  have k := rh.ok i o q a b
  cases o with
  | dead => trivial
  | lst ws => obtain ⟨vs, z, r⟩ := k; exact ⟨vs, z, clns_rep lo r⟩
  | dct ks ws => obtain ⟨vs, z, r⟩ := k; exact ⟨vs, z, clns_rep lo r⟩
  | rol ws => obtain ⟨vs, z, r⟩ := k; exact ⟨vs, z, clns_rep lo r⟩
  | inst c fs =>
    obtain ⟨C, vs, z1, z2, z3, z4, r⟩ := k
    refine ⟨C, vs, z1, z2, z3, z4, fun i w e => ?_⟩
    obtain ⟨v, y1, y2⟩ := r i w e
    exact ⟨v, y1, W.cln_rep ((List.all_eq_true.mp lo) (some w) (List.mem_of_getElem? e)) y2⟩
theorem RelH.up (rh : RelH K ⟨f, none⟩ G μ h H) : RelH K ⟨f, y⟩ G μ h H := by
  refine ⟨rh.ex, rh.len, rh.sep, rh.free, rh.there, fun i o q a b => ?_⟩
  have k := rh.ok i o q a b
  cases o with
  | dead => trivial
  | lst ws => obtain ⟨vs, z, r⟩ := k; exact ⟨vs, z, ups_rep r⟩
  | dct ks ws => obtain ⟨vs, z, r⟩ := k; exact ⟨vs, z, ups_rep r⟩
  | rol ws => obtain ⟨vs, z, r⟩ := k; exact ⟨vs, z, ups_rep r⟩
  | inst c fs =>
    obtain ⟨C, vs, z1, z2, z3, z4, r⟩ := k
    refine ⟨C, vs, z1, z2, z3, z4, fun i w e => ?_⟩
    obtain ⟨v, y1, y2⟩ := r i w e
    exact ⟨v, y1, W.up_rep y2⟩
theorem RelS.cln {σA : Sl} {σ : L2.St} (r : RelS K ⟨f, x⟩ G μ σA σ) (l : σA.all clnO = true) : RelS K ⟨f, y⟩ G μ σA σ := ⟨r.1, fun i w e => by
  obtain ⟨v, e1, e2⟩ := r.2 i w e
  exact ⟨v, e1, W.cln_rep ((List.all_eq_true.mp l) (some w) (List.mem_of_getElem? e)) e2⟩⟩
theorem RelS.up {σA : Sl} {σ : L2.St} (r : RelS K ⟨f, none⟩ G μ σA σ) : RelS K ⟨f, y⟩ G μ σA σ := ⟨r.1, fun i w e => by
  obtain ⟨v, e1, e2⟩ := r.2 i w e
  exact ⟨v, e1, W.up_rep e2⟩⟩
end
def mRaise (c : Str) : MS := fun σ h => some (.exc σ c [], h)
section
variable {X : Cx} {Wx : WX} {x c : Str} {np pos p p2 : Pos} {C : Addr} {e : Expr} {me : ME}
theorem pms_raiseC (hc : X.calm = true) (tk : Takes X Wx) (T : ExC X.K C) (gC : X.mg x = some (.ref C)) (hg : Gl X x) (hdb : (x == ("__debug__" : Str)) = false) : PMS Wx X (.Raise (some (.Name x np)) none pos) (mRaise x) :=
  ps_imp (ps_raiseC hc tk T gC hg hdb) fun D σ H ⟨G, μ, σA, h, rs, rh, r, h', e, k⟩ => by
    cases e
    exact k G μ H σ (.ref C) none Step.refl rh rs ⟨C, gC, rfl, .inl ⟨rfl, rfl⟩⟩
def mRaiseL (c f : Str) (me : ME) : MS := fun σ => mThen (me σ) σ fun w h => match w with | .d d => some (.exc σ c [(f, d)], h) | _ => none
theorem pms_raiseL {f : Str} {fI : Addr} {fd : FuncData} (hc : X.calm = true) (tk : Takes X Wx) (T : LowC X.prog X.K C f fI fd) (hs : X.mg "super" = none) (hr : Room 3 X.A) (gC : X.mg c = some (.ref C)) (hg : Gl X c) (hdb : (c == ("__debug__" : Str)) = false) (he : PM Wx X e me)
    (hst : starEach [e] X.env = (false, eval e X.env) :: starEach [] X.env := by rfl) : PMS Wx X (.Raise (some (.Call (.Name c p) [e] [] p2)) none pos) (mRaiseL c f me) := by
  obtain ⟨xn, F1, hb⟩ := low_ok (w := X.w) (base := X.base) T hs
  have ha : PA X [e] (tCons (tE X.K X.mgx Wx me) tNil) := pa_cons he pa_nil hst
  have mk := pmk_oex (X := X) (CX := CX X.prog X.w) (x := c) (p := p) (pos := p2) (ds := []) (dvs := []) T.oex T.init T.ity F1 hr (fun s us _ hl => by
    rw [List.append_nil] at hl ⊢
    exact .of_eq (hb us hl)) .nil (pass_E0 (X := X)) hg gC ha hdb hst rfl
  refine ps_imp (ps_raise hc tk mk) fun D σ H ⟨G, μ, σA, h, rs, rh, k⟩ => ?_
  refine ⟨G, μ, σA, h, rs, rh, (RetS.then rs k).imp fun w G1 μ1 h1 H1 s1 rh1 k1 v rv => ?_⟩
  obtain ⟨r, h', e1, k2⟩ := k1
  split at e1
  · rename_i d
    cases e1
    refine ⟨by show 1 ≤ 1000; omega, fun a na => ⟨a, v, rfl, upd_same, fun dx nd ne => ⟨rfl, dx, [(f, v)], upd_same, by rw [upd_ne ne, upd_same], by rw [upd_ne ne] at nd; exact nd, ?_⟩⟩⟩
    have nd' : H1 dx = none := by rw [upd_ne ne] at nd; exact nd
    have eH : upd (del (upd (upd (upd H1 a (exo a C none)) dx (exd dx [(f, v)])) a (exo a C (some dx))) a) dx (.xd [(f, v)]) = upd H1 dx (.xd [(f, v)]) := by
      funext b
      by_cases hb : b = dx
      · rw [hb, upd_same, upd_same]
      · rw [upd_ne hb, upd_ne hb]
        by_cases hba : b = a
        · rw [hba, del_same, na]
        · rw [del_ne hba, upd_ne hba, upd_ne hb, upd_ne hba]
    rw [eH]
    obtain ⟨n1, n2⟩ := rh1.new nd' (.xd [(f, v)])
    refine k2 _ μ1 _ σ (.ref C) (some dx) n2 n1 ((rs.mono s1).mono n2) ⟨C, gC, rfl, .inr ⟨by simp, dx, [v], rfl, upd_same, .cons ?_ .nil⟩⟩
    exact Rep.mono n2.g rv
  · cases e1
end
theorem ite_some {α : Type} {c : Bool} {a b : α} (e : (if c = true then some a else none) = some b) : c = true ∧ a = b := by
  cases c with
  | true => exact ⟨rfl, Option.some.inj e⟩
  | false => cases e
def setO (σ : Sl) (i : Option Nat) (w : Option W) : Sl := match i with | some i => σ.set i w | none => σ
def mSuite (i : Option Nat) : Option (RS × AHp) → Option (RS × AHp)
  | some (.nx σ, h) => if (setO σ i none).all clnO && h.all AO.cln then some (.nx (setO σ i none), h) else none
  | some (.rt w, h) => if w.cln && h.all AO.cln then some (.rt w, h) else none
  | some (.bk σ, h) => if (setO σ i none).all clnO && h.all AO.cln then some (.bk (setO σ i none), h) else none
  | some (.ct σ, h) => if (setO σ i none).all clnO && h.all AO.cln then some (.ct (setO σ i none), h) else none
  | _ => none
def mTry (ex : Str → Option Bool) (i : Option Nat) (mb ms : MS) : MS := fun σ h => match mb σ h with
  | some (.exc σ1 c fs, h1) => (match ex c with
    | some true => mSuite i (ms (setO σ1 i (some (.exn c fs))) h1)
    | some false => some (.exc σ1 c fs, h1)
    | none => none)
  | r => r
section
variable {K : PySem.W.Frag} {f : MgW} {G H : Hp} {μ : Mu} {h : AHp} {Wx : WX} {D : Ends} {σA : Sl} {σ : L2.St} {mb ms : MS} {ex : Str → Option Bool} {cv : Value}
theorem t_only (hex : ∀ c b C, ex c = some b → f c = some (.ref C) → PySem.W.exmOne K (.ref C) cv = some b) (q : tS K ⟨f, none⟩ Wx (mTry ex none mb ms) D σ H) : tS K ⟨f, none⟩ (wOnly K cv (fun a cls d => tS K ⟨f, some (a, cls, d)⟩ WF ms) Wx D) mb D σ H := by
  obtain ⟨G, μ, σA, h, rs, rh, k⟩ := q
  refine ⟨G, μ, σA, h, rs, rh, ?_⟩
  unfold mTry at k
  cases q : mb σA h with
  | none => rw [q] at k; obtain ⟨_, _, e, _⟩ := k; cases e
  | some z =>
    obtain ⟨r, h1⟩ := z
    rw [q] at k
    cases r with
    | nx σ => obtain ⟨_, _, e, k⟩ := k; cases e; exact ⟨_, _, rfl, k⟩
    | rt σ => obtain ⟨_, _, e, k⟩ := k; cases e; exact ⟨_, _, rfl, k⟩
    | bk σ => obtain ⟨_, _, e, k⟩ := k; cases e; exact ⟨_, _, rfl, k⟩
    | ct σ => obtain ⟨_, _, e, k⟩ := k; cases e; exact ⟨_, _, rfl, k⟩
    | exc σ1 c fs =>
      refine ⟨_, _, rfl, fun G' μ' H' σ' cls d s' rh' rs' ix => ?_⟩
      obtain ⟨C, gC, ec, ix'⟩ := id ix
      dsimp only at k
      cases qe : ex c with
      | none => rw [qe] at k; obtain ⟨_, _, e, _⟩ := k; cases e
      | some b =>
        rw [qe] at k
        refine ⟨b, by rw [ec]; exact hex c b C qe gC, fun hb a na => ?_, fun hb => ?_⟩
        · subst hb
          refine ⟨G', μ', σ1, h1, rs'.up, rh'.up, ?_⟩
          have k := RetS.step s' k
          dsimp only [setO] at k
          cases qs : ms σ1 h1 with
          | none => rw [qs] at k; obtain ⟨_, _, e, _⟩ := k; cases e
          | some z =>
            obtain ⟨r, h2⟩ := z
            rw [qs] at k
            obtain ⟨r', h3, e, k⟩ := k
            cases r with
            | exc _ _ _ => cases e
            | nx σ2 =>
              unfold mSuite at e
              dsimp only [setO] at e
              obtain ⟨cc, ee⟩ := ite_some e
              rw [Bool.and_eq_true] at cc
              cases ee
              exact ⟨_, _, rfl, fun G2 μ2 H2 σ3 s3 rh3 rs3 => k G2 μ2 H2 σ3 s3 (rh3.cln cc.2) (rs3.cln cc.1)⟩
            | bk σ2 =>
              unfold mSuite at e
              dsimp only [setO] at e
              obtain ⟨cc, ee⟩ := ite_some e
              rw [Bool.and_eq_true] at cc
              cases ee
              exact ⟨_, _, rfl, fun G2 μ2 H2 σ3 s3 rh3 rs3 => k G2 μ2 H2 σ3 s3 (rh3.cln cc.2) (rs3.cln cc.1)⟩
            | ct σ2 =>
              unfold mSuite at e
              dsimp only [setO] at e
              obtain ⟨cc, ee⟩ := ite_some e
              rw [Bool.and_eq_true] at cc
              cases ee
              exact ⟨_, _, rfl, fun G2 μ2 H2 σ3 s3 rh3 rs3 => k G2 μ2 H2 σ3 s3 (rh3.cln cc.2) (rs3.cln cc.1)⟩
            | rt w =>
              unfold mSuite at e
              dsimp only at e
              obtain ⟨cc, ee⟩ := ite_some e
              rw [Bool.and_eq_true] at cc
              cases ee
              exact ⟨_, _, rfl, fun G2 μ2 H2 v s3 rh3 rv3 => k G2 μ2 H2 v s3 (rh3.cln cc.2) (W.cln_rep cc.1 rv3)⟩
        · subst hb
          obtain ⟨_, _, e, k⟩ := k
          cases e
          exact k G' μ' H' σ' cls d s' rh' rs' ix
theorem t_as {i : Nat} (hex : ∀ c b C, ex c = some b → f c = some (.ref C) → PySem.W.exmOne K (.ref C) cv = some b) (q : tS K ⟨f, none⟩ Wx (mTry ex (some i) mb ms) D σ H) : tS K ⟨f, none⟩ (wAs K cv i (fun a cls d => tS K ⟨f, some (a, cls, d)⟩ WF ms) Wx D) mb D σ H := by
  obtain ⟨G, μ, σA, h, rs, rh, k⟩ := q
  refine ⟨G, μ, σA, h, rs, rh, ?_⟩
  unfold mTry at k
  cases q : mb σA h with
  | none => rw [q] at k; obtain ⟨_, _, e, _⟩ := k; cases e
  | some z =>
    obtain ⟨r, h1⟩ := z
    rw [q] at k
    cases r with
    | nx σ => obtain ⟨_, _, e, k⟩ := k; cases e; exact ⟨_, _, rfl, k⟩
    | rt σ => obtain ⟨_, _, e, k⟩ := k; cases e; exact ⟨_, _, rfl, k⟩
    | bk σ => obtain ⟨_, _, e, k⟩ := k; cases e; exact ⟨_, _, rfl, k⟩
    | ct σ => obtain ⟨_, _, e, k⟩ := k; cases e; exact ⟨_, _, rfl, k⟩
    | exc σ1 c fs =>
      refine ⟨_, _, rfl, fun G' μ' H' σ' cls d s' rh' rs' ix => ?_⟩
      obtain ⟨C, gC, ec, ix'⟩ := id ix
      dsimp only at k
      cases qe : ex c with
      | none => rw [qe] at k; obtain ⟨_, _, e, _⟩ := k; cases e
      | some b =>
        rw [qe] at k
        refine ⟨b, by rw [ec]; exact hex c b C qe gC, fun hb a na => ?_, fun hb => ?_⟩
        · subst hb
          refine ⟨G', μ', σ1.set i (some (.exn c fs)), h1, (rs'.up).set ⟨a, cls, d, rfl, rfl, ix⟩, rh'.up, ?_⟩
          have k := RetS.step s' k
          dsimp only [setO] at k
          cases qs : ms (σ1.set i (some (.exn c fs))) h1 with
          | none => rw [qs] at k; obtain ⟨_, _, e, _⟩ := k; cases e
          | some z =>
            obtain ⟨r, h2⟩ := z
            rw [qs] at k
            obtain ⟨r', h3, e, k⟩ := k
            cases r with
            | exc _ _ _ => cases e
            | nx σ2 =>
              unfold mSuite at e
              dsimp only [setO] at e
              obtain ⟨cc, ee⟩ := ite_some e
              rw [Bool.and_eq_true] at cc
              cases ee
              exact ⟨_, _, rfl, fun G2 μ2 H2 σ3 s3 rh3 rs3 => k G2 μ2 H2 _ s3 (rh3.cln cc.2) ((rs3.unset i).cln cc.1)⟩
            | bk σ2 =>
              unfold mSuite at e
              dsimp only [setO] at e
              obtain ⟨cc, ee⟩ := ite_some e
              rw [Bool.and_eq_true] at cc
              cases ee
              exact ⟨_, _, rfl, fun G2 μ2 H2 σ3 s3 rh3 rs3 => k G2 μ2 H2 _ s3 (rh3.cln cc.2) ((rs3.unset i).cln cc.1)⟩
            | ct σ2 =>
              unfold mSuite at e
              dsimp only [setO] at e
              obtain ⟨cc, ee⟩ := ite_some e
              rw [Bool.and_eq_true] at cc
              cases ee
              exact ⟨_, _, rfl, fun G2 μ2 H2 σ3 s3 rh3 rs3 => k G2 μ2 H2 _ s3 (rh3.cln cc.2) ((rs3.unset i).cln cc.1)⟩
            | rt w =>
              unfold mSuite at e
              dsimp only at e
              obtain ⟨cc, ee⟩ := ite_some e
              rw [Bool.and_eq_true] at cc
              cases ee
              exact ⟨_, _, rfl, fun G2 μ2 H2 v s3 rh3 rv3 => k G2 μ2 H2 v s3 (rh3.cln cc.2) (W.cln_rep cc.1 rv3)⟩
        · subst hb
          obtain ⟨_, _, e, k⟩ := k
          cases e
          exact k G' μ' H' σ' cls d s' rh' rs' ix
end
end PM

end
section
set_option Elab.async false
set_option linter.all false
set_option maxRecDepth 100000
set_option maxHeartbeats 4000000
namespace PM
open PySem PySem.Spec PyProof.Rows L2 N1 NdefX
open Evl (Ex)
section
variable {X : Cx} {Wx : WX} {x n : Str} {cv : Value} {body suite : List Stmt} {b₀ : Stmt} {np pos pos' : Pos} {mb ms : MS} {ex : Str → Option Bool}
theorem pms_tryOnly (hcm : X.calm = true) (hs : X.stack = X.env :: X.outer) (hf : X.env.frame = some X.env.locals) (hc : Names X x cv) (tk : Takes X Wx) (hex : ∀ c b C, ex c = some b → X.mg c = some (.ref C) → PySem.W.exmOne X.K (.ref C) cv = some b)
    (hb : ∀ (W : WX) (pn : List (Addr × Obj)) (xe : Value → Shared → Prop), Takes (X.tr pn xe) W → PassesOwn (model X.prog X.w) X.A X.env xe → PMSs W (X.tr pn xe) body mb)
    (hsu : ∀ (a : Addr) (oe : Obj) (pn : List (Addr × Obj)), (∃ vs, oe.data = .fields vs) → PMSs WF (X.suite a ((a, oe) :: pn)) (b₀ :: suite) ms) :
    PMS Wx X (.Try body [.ExceptHandler (some (.Name x np)) none (b₀ :: suite) pos'] [] [] pos) (mTry ex none mb ms) := by
  unfold PMS
  rw [mgx_calm hcm]
  refine ps_imp (ps_try_only (tb := fun W => tS X.K ⟨X.mgw, none⟩ W mb) (ts := fun a cls d => tS X.K ⟨X.mgw, some (a, cls, d)⟩ WF ms) hs hf hc tk (fun W pn xe h1 h2 => ?_) (fun a oe cls d pn hz hfd => ?_)) fun D σ H q => t_only hex q
  · have k := hb W pn xe h1 h2
    unfold PMSs at k
    rw [mgx_calm (X := X.tr pn xe) hcm] at k
    exact k
  · have k := hsu a oe pn hfd
    obtain ⟨rfl, rfl⟩ := hz
    exact k
theorem pms_tryAs {i : Nat} (hcm : X.calm = true) (hs : X.stack = X.env :: X.outer) (hf : X.env.frame = some X.env.locals) (hN : X.N.Nodup) (hi : X.N[i]? = some n) (hln : X.env.kindOf n = some .local) (hc : Names X x cv) (tk : Takes X Wx) (hex : ∀ c b C, ex c = some b → X.mg c = some (.ref C) → PySem.W.exmOne X.K (.ref C) cv = some b)
    (hb : ∀ (W : WX) (pn : List (Addr × Obj)) (xe : Value → Shared → Prop), Takes (X.tr pn xe) W → PassesOwn (model X.prog X.w) X.A X.env xe → PMSs W (X.tr pn xe) body mb)
    (hsu : ∀ (a : Addr) (oe : Obj) (pn : List (Addr × Obj)), (∃ vs, oe.data = .fields vs) → PMSs WF (X.suite a ((a, oe) :: pn)) (b₀ :: suite) ms) :
    PMS Wx X (.Try body [.ExceptHandler (some (.Name x np)) (some n) (b₀ :: suite) pos'] [] [] pos) (mTry ex (some i) mb ms) := by
  unfold PMS
  rw [mgx_calm hcm]
  refine ps_imp (ps_try_as (tb := fun W => tS X.K ⟨X.mgw, none⟩ W mb) (ts := fun a cls d => tS X.K ⟨X.mgw, some (a, cls, d)⟩ WF ms) hs hf hN hi hln hc tk (fun W pn xe h1 h2 => ?_) (fun a oe cls d pn hz hfd => ?_)) fun D σ H q => t_as hex q
  · have k := hb W pn xe h1 h2
    unfold PMSs at k
    rw [mgx_calm (X := X.tr pn xe) hcm] at k
    exact k
  · have k := hsu a oe pn hfd
    obtain ⟨rfl, rfl⟩ := hz
    exact k
end
structure ExcQ (K : PySem.W.Frag) (C : Addr) (fs : List Str) : Prop where
  c : ExcC K C
  nof : ∀ f ∈ fs, PySem.W.findIn K (.ref C) f = some none
theorem look_zip {K : PySem.W.Frag} {mg : MgW} {G : Hp} {f : Str} : ∀ {fs : List (Str × D)} {vs : List V} {d : D}, RepL K mg G (fs.map (·.2)) vs → fs.lookup f = some d → ∃ v, ((fs.map (·.1)).zip vs).lookup f = some v ∧ Rep K mg G d v
  | [], _, _, _, e => by cases e
  | (g, d') :: fs, _, d, .cons r rs, e => by
    rename_i v vs
    by_cases h : f == g
    · simp only [List.lookup, h] at e
      cases e
      exact ⟨v, by simp only [List.map_cons, List.zip_cons_cons, List.lookup, h], r⟩
    · have h' : (f == g) = false := by simpa using h
      simp only [List.lookup, h'] at e
      obtain ⟨v', e1, e2⟩ := look_zip rs e
      exact ⟨v', by simp only [List.map_cons, List.zip_cons_cons, List.lookup, h']; exact e1, e2⟩
section
variable {X : Cx} {a : Addr} {oe : Obj} {pn : List (Addr × Obj)} {e : Expr} {me : ME} {pos : Pos} {f : Str}
theorem pm_exnF {exs : Str → List Str} (hq : ∀ c C, X.mg c = some (.ref C) → f ∈ exs c → XfC X.K C ∧ PySem.W.findIn X.K (.ref C) f = some none) (hf : ∃ vs, oe.data = .fields vs) (he : PM WF (X.suite a ((a, oe) :: pn)) e me) (hb : attributeBase e f X.env (eval e X.env) = eval e X.env) :
    PM WF (X.suite a ((a, oe) :: pn)) (.Attribute e f pos) (fun σ => mBind (me σ) fun w => mOf (match w with | .exn c fs => if f ∈ exs c then (fs.lookup f).map .d else none | _ => none)) := by
  refine ⟨fun pins s σ H Q I ⟨G, μ, σA, h, rs, rh, k⟩ => ?_⟩
  refine attr_of hb (thn (he.run pins s σ H (fun v H1 => ∃ c fs d, oe.cls = .ref c ∧ oe.dict = some d ∧ v = .ref a ∧ XfC X.K c ∧ PySem.W.findIn X.K (.ref c) f = some none ∧ ∃ u, H1 d = some (.xd fs) ∧ fs.lookup f = some u ∧ Q u H1) I ⟨G, μ, σA, h, rs, rh, k.bind.imp fun w G1 μ1 h1 H1 s1 rh1 k1 v rv => ?_⟩) fun u s1 hh => ?_)
  · obtain ⟨z, ez, k2⟩ := k1.of rh1
    split at ez
    · rename_i c fs
      split at ez
      · rename_i hm
        cases q : fs.lookup f with
        | none => rw [q] at ez; cases ez
        | some d =>
          rw [q] at ez
          cases ez
          obtain ⟨a', cls, dd, e1, rfl, C, gC, ec, ix⟩ := rv
          have e1 : some (a, oe.cls, oe.dict) = some (a', cls, dd) := e1
          cases e1
          rcases ix with ⟨rfl, _⟩ | ⟨_, d', vs, ed, hG, rl⟩
          · cases q
          · obtain ⟨v, l, rv⟩ := look_zip rl q
            obtain ⟨t1, t2⟩ := hq c C gC hm
            exact ⟨C, _, d', ec, ed, rfl, t1, t2, v, rh1.ex _ _ hG, l, k2 v rv⟩
      · cases ez
    · cases ez
  · obtain ⟨v, H1, I1, rx, C, fs, d, ec, ed, ev, T, hno, w, ea, l, q⟩ := hh
    subst ev
    obtain rfl : u = Value.ref a := rx
    obtain ⟨ha, _⟩ := I1.pin (a, oe) (List.mem_append_left _ List.mem_cons_self)
    obtain ⟨vs, hd⟩ := hf
    have hx : ObjOk X.prog X.w H1 s1.heap d (.xd fs) := I1.hok d _ ea
    obtain ⟨mA, hns, hr⟩ := hx
    obtain ⟨od, ho, hl⟩ := lookIn_ns hns
    obtain ⟨u, hu, ru⟩ := RelO.some_of (v := w) (o := mA f) (by rw [← l]; exact hr f)
    have J : PySem.W.InstAt s1.heap a oe C (some od) := ⟨ha, ec, by unfold PySem.W.notCls; rw [hd] <;> rfl, by rw [ed]; exact ho⟩
    exact HandSPX.exc_get I1.kIn J T.ga T.gg T.exC (PySem.W.findObj_own T.hdC hno rfl (by rw [hl, hu])) (handed_of ru) ⟨w, H1, I1.tok _, ru, q⟩
theorem callx_exn {isa : Str → Option Bool} {cv : V} {cu : Value} (hcu : ∀ u, RelV cv u → u = cu) (hq : ∀ c C b, X.mg c = some (.ref C) → isa c = some b → ExcC X.K C ∧ PySem.W.kitOne X.K (.ref C) cu = some b) (hf : ∃ vs, oe.data = .fields vs) {pins : List (Addr × Obj)} {s : Shared} {σ : L2.St} {H G : Hp} {μ : Mu} {h : AHp} {w : W} {v : V} {u1 u2 : Value} {Q : VK}
    (I : Inv (X.suite a ((a, oe) :: pn)) pins σ H s) (rh : RelH X.K (X.suite a ((a, oe) :: pn)).mgx G μ h H) (rw_ : RepW X.K (X.suite a ((a, oe) :: pn)).mgx G μ w v) (r1 : RelV v u1) (r2 : RelV cv u2)
    (k : Ret X.K (X.suite a ((a, oe) :: pn)).mgx G μ H (mOf (match w with | .exn c [] => (isa c).map fun b => W.d (.bl b) | _ => none) h) (PostW X.K (X.suite a ((a, oe) :: pn)).mgx Q) (fun cls d H' => WF cls d σ H')) :
    wpAny (model X.prog X.w) (X.suite a ((a, oe) :: pn)).A (call (.builtin "isinstance") [u1, u2]) (EP (X.suite a ((a, oe) :: pn)) pins σ Q) (X.suite a ((a, oe) :: pn)).xe s := by
  obtain ⟨z, ez, k2⟩ := k.of rh
  split at ez
  · rename_i c
    cases q : isa c with
    | none => rw [q] at ez; cases ez
    | some b =>
      rw [q] at ez
      cases ez
      obtain ⟨a', cls, dd, e1, rfl, C, gC, ec, ix⟩ := rw_
      have e1 : some (a, oe.cls, oe.dict) = some (a', cls, dd) := e1
      cases e1
      obtain ⟨T, hk⟩ := hq c C b gC q
      cases (show u1 = Value.ref a from r1)
      have ec2 := hcu _ r2
      subst ec2
      obtain ⟨hget, _⟩ := I.pin (a, oe) (List.mem_append.mpr (.inl List.mem_cons_self))
      obtain ⟨vs, hv⟩ := hf
      rcases ix with ⟨_, ed⟩ | ⟨nn, _⟩
      · have J : PySem.W.InstAt s.heap a oe C none := ⟨hget, ec, by unfold PySem.W.notCls; rw [hv] <;> rfl, by rw [ed]; trivial⟩
        exact PySem.W.kia_one (PySem.W.handS_kitx_exc T.hg T.hk T.hs T.hd T.ha T.hn T.ht T.hm) I.kIn J hk (fun z => nomatch z) fun tk => ⟨.bl b, H, I.kept (t' := tk) fun _ _ z => z, rfl, k2 _ (.bl b)⟩
      · exact absurd rfl nn
  · cases ez
end
end PM

end
section
set_option Elab.async false
set_option linter.all false
set_option maxRecDepth 100000
set_option maxHeartbeats 4000000
namespace PM
open PySem PySem.Spec PyProof.Rows L2 N1
open Evl (Ex)
structure CI where
  slots : List Str
  prop : Str → Option MF
  meth : Str → Nat → Option MF
  init : Nat → Option MF
structure Mo where
  con : Str → Option D
  fn : Str → Nat → Option MF
  cls : Str → Option CI
  exc : Str → Option (Option Str)
  exm : Str → Str → Option Bool
  isO : Str → Str → Option Bool
  isT : Str → String → Option Bool
  isN : String → Str → Option Bool
  free : Str → Bool
structure PropF (P : Program) (w : World) (K : PySem.W.Frag) (mg : Str → Option Value) (base : Heap) (k : Nat) (C : Addr) (f : Str) (p g : Addr) (mf : MF) : Prop where
  at_ : PySem.W.findIn K (.ref C) f = some (some (.ref p))
  get : PySem.W.specialIn K (.ref p) "__get__" = some (some (.builtin "property.__get__"))
  tk : PySem.W.takesIn K (.ref p) = some true
  rc : ∃ rest, PySem.W.recIn K p "property" = some (.ref g :: rest)
  run : FnM P w K mg base k g 1 mf
structure ClsF (P : Program) (w : World) (K : PySem.W.Frag) (mg : Str → Option Value) (base : Heap) (k : Nat) (c : Str) (ci : CI) (C : Addr) : Prop where
  at_ : mg c = some (.ref C)
  first : PySem.W.selfFirst K C = true
  nf : PySem.W.notFirst K C (.ref C) = true
  scls : SlX.SCls K C
  isi : SlX.SIsi K C
  slot : ∀ (i : Nat) (f : Str), ci.slots[i]? = some f → ∃ p, SlX.Slot1 K C f p i
  meth : ∀ (m : Str) (n : Nat) (mf : MF), ci.meth m n = some mf → ∃ g, PySem.W.findIn K (.ref C) m = some (some (.ref g)) ∧ PySem.W.isFn K (.ref g) = true ∧ PySem.W.fnIn K g = true ∧ PySem.W.keepIn K (.ref g) = true ∧ FnM P w K mg base k g n mf
  prop : ∀ (f : Str) (mf : MF), ci.prop f = some mf → ∃ p g, PropF P w K mg base k C f p g mf
  init : ∀ (n : Nat) (mf : MF), ci.init n = some mf → ∃ g, Mk K C g ∧ FnM P w K mg base k g n mf
structure MoOk (P : Program) (w : World) (K : PySem.W.Frag) (mg : Str → Option Value) (base : Heap) (k : Nat) (mo : Mo) : Prop where
  con : ∀ x d, mo.con x = some d → ∃ v u, mg x = some u ∧ RelV v u ∧ ∀ G, Rep K ⟨mg, w⟩ G d v
  fn : ∀ x n mf, mo.fn x n = some mf → ∃ f, mg x = some (.ref f) ∧ PySem.W.keepIn K (.ref f) = true ∧ FnM P w K mg base k f n mf
  cls : ∀ c ci, mo.cls c = some ci → ∃ C, ClsF P w K mg base k c ci C
  exc : ∀ c o, mo.exc c = some o → ∃ C, mg c = some (.ref C) ∧ (match o with | none => ExC K C | some f => ∃ fI fd, LowC P K C f fI fd) ∧ XfC K C ∧ ExcC K C ∧ (∀ f, o = some f → PySem.W.findIn K (.ref C) f = some none)
  exm : ∀ c x b C D, mo.exm c x = some b → mg c = some (.ref C) → mg x = some (.ref D) → PySem.W.exmOne K (.ref C) (.ref D) = some b
  exmx : ∀ c x b, mo.exm c x = some b → ∃ D, mg x = some (.ref D)
  isO : ∀ c x b C D, mo.isO c x = some b → mg c = some (.ref C) → mg x = some (.ref D) → PySem.W.kitOne K (.ref C) (.ref D) = some b
  isT : ∀ c n b C, mo.isT c n = some b → mg c = some (.ref C) → PySem.W.kitOne K (.ref C) (.type n) = some b
  isN : ∀ n x b D, mo.isN n x = some b → mg x = some (.ref D) → PySem.W.kitOne K (.type n) (.ref D) = some b
  own : ∀ x, (∃ ci, mo.cls x = some ci) ∨ (∃ o, mo.exc x = some o) → ∃ D, mg x = some (.ref D)
  free : ∀ x, mo.free x = true → mg x = none ∧ x ≠ "__name__"
structure SE where
  N : List Str
  names : List (Str × NameKind)
  raw : List (Str × NameKind)
  mu : List (Str × Bool)
  hot : Bool
  fun_ : Bool
  mo : Mo
  fz : List (Nat × Str) := []
structure Sx (X : Cx) (Γ : SE) (Wx : WX) (k : Nat) : Prop where
  N : X.N = Γ.N
  nd : X.N.Nodup
  names : X.env.scope.names = Γ.names
  kind : X.env.scope.kind = .function
  calm : Γ.hot = false → X.calm = true ∧ Room (k + 2) X.A ∧ (Γ.fun_ = true → PassesOwn (model X.prog X.w) X.A X.env X.xe)
  hot : Γ.hot = true → Wx = WF ∧ ∃ X0 a oe pn, X = L2.Cx.suite X0 a ((a, oe) :: pn) ∧ ∃ vs, oe.data = .fields vs
  fr : Γ.fun_ = true → X.stack = X.env :: X.outer ∧ X.env.frame = some X.env.locals
  fn : ∀ x, Γ.raw.lookup x = some .cell → X.fn x = true
  tk : Takes X Wx
  mo : MoOk X.prog X.w X.K X.mg X.base k Γ.mo
  units : X.A.units + 100 < cLine
  kp : 1 ≤ k
def isRes (x : Str) : Bool := x == ("__debug__" : Str) || x == ("__classdict__" : Str) || x == ("__name__" : Str)
def ixOf (N : List Str) (x : Str) : Option Nat := N.idxOf? x
theorem ixOf_at {N : List Str} {x : Str} {i : Nat} (e : ixOf N x = some i) : N[i]? = some x := by
  unfold ixOf at e
  induction N generalizing i with
  | nil => simp at e
  | cons a r ih =>
    rw [List.idxOf?_cons] at e
    split at e
    · rename_i h
      cases e
      simpa using h
    · cases q : List.idxOf? x r with
      | none => rw [q] at e; cases e
      | some j => rw [q] at e; cases e; simpa using ih q
def isVis : Option NameKind → Bool
  | some .local => true
  | some .cell => true
  | some .free => true
  | _ => false
def isGlb : Option NameKind → Bool
  | some .globalImplicit => true
  | _ => false
def evName (Γ : SE) (x : Str) : ME := if isRes x then mBad else
  if isVis (Γ.names.lookup x) then (match ixOf Γ.N x with | some i => mVar i | none => mBad) else
  if isGlb (Γ.names.lookup x) then (match Γ.mo.con x with | some d => mC d | none => mBad) else mBad
section
variable {X : Cx} {Γ : SE} {Wx : WX} {k : Nat}
theorem res_no {x : Str} (h : isRes x = false) : (x == ("__debug__" : Str)) = false ∧ (x == ("__classdict__" : Str)) = false ∧ x ≠ "__name__" := by
  unfold isRes at h
  simp only [Bool.or_eq_false_iff] at h
  refine ⟨h.1.1, h.1.2, fun z => ?_⟩
  have := h.2
  rw [z] at this
  simp at this
theorem Sx.vis (S : Sx X Γ Wx k) {x : Str} (h : isVis (Γ.names.lookup x) = true) : Vis X.env.scope x := by
  unfold Vis
  rw [S.names]
  unfold isVis at h
  split at h
  · exact .inl (by assumption)
  · exact .inr (.inl (by assumption))
  · exact .inr (.inr (by assumption))
  · cases h
theorem Sx.glb (S : Sx X Γ Wx k) {x : Str} (h : isGlb (Γ.names.lookup x) = true) : Gl X x := by
  show X.env.scope.names.lookup x = _
  rw [S.names]
  unfold isGlb at h
  split at h
  · assumption
  · cases h
theorem evName_ok (S : Sx X Γ Wx k) {x : Str} {p : Pos} : PM Wx X (.Name x p) (evName Γ x) := by
  unfold evName
  split
  · exact pm_bad
  · rename_i hr
    obtain ⟨h1, h2, h3⟩ := res_no (by simpa using hr)
    split
    · rename_i hv
      split
      · rename_i i ei
        exact pm_var (pe_var (by rw [S.N]; exact ixOf_at ei) (S.vis hv) h1 h2)
      · exact pm_bad
    · split
      · rename_i hg
        split
        · rename_i d ed
          obtain ⟨v, u, e1, e2, e3⟩ := S.mo.con x d ed
          exact pm_c (pe_glob (S.glb hg) e1 e2 h1) e3
        · exact pm_bad
      · exact pm_bad
def evConst : Const → ME
  | .int i => mC (.int i)
  | .str x => mC (.str x)
  | .bool b => mC (.bl b)
  | .none => mC .non
  | _ => mBad
theorem evConst_ok {c : Const} {j : Nat} {p : Pos} : PM Wx X (.Constant c j p) (evConst c) := by
  unfold evConst
  split
  · exact pm_int
  · exact pm_c pe_str fun _ => .str _
  · exact pm_c pe_bl fun _ => .bl _
  · exact pm_c pe_non fun _ => .non
  · exact pm_bad
end
def clsOf (h : AHp) : W → Option Str
  | .d (.obj c _) => some c
  | .ref a => match h[a]? with | some (.inst c _) => some c | _ => none
  | _ => none
theorem clsOf_ob {h : AHp} {w : W} {c : Str} (e : clsOf h w = some c) : isOb h c w = true := by
  unfold clsOf at e
  unfold isOb
  split at e
  · cases e; simp
  · split at e
    · cases e; rename_i q; simp [q]
    · cases e
  · cases e
def methOf (mo : Mo) (c m : Str) (n : Nat) : Option MF := (mo.cls c).bind fun ci => ci.meth m n
section
variable {X : Cx} {Γ : SE} {Wx : WX} {k : Nat}
theorem Sx.own (S : Sx X Γ Wx k) {c m : Str} {n : Nat} {mf : MF} (e : methOf Γ.mo c m n = some mf) : ∃ C g ci, Γ.mo.cls c = some ci ∧ ClsF X.prog X.w X.K X.mg X.base k c ci C ∧ OwnF X.prog X.w X.K X.mg X.base k c C m g n mf ∧ PySem.W.fnIn X.K g = true ∧ PySem.W.keepIn X.K (.ref g) = true := by
  unfold methOf at e
  cases q : Γ.mo.cls c with
  | none => rw [q] at e; cases e
  | some ci =>
    rw [q] at e
    obtain ⟨C, F⟩ := S.mo.cls c ci q
    obtain ⟨g, h1, h2, h3, h4, h5⟩ := F.meth m n mf e
    exact ⟨C, g, ci, rfl, F, ⟨F.at_, h1, h2, h5⟩, h3, h4⟩
def opO (mo : Mo) (m : Str) (prim : W → W → M W) : W → W → M W := fun x y h => match clsOf h x with
  | some c => (match clsOf h y with
    | some c' => if c' = c then (match methOf mo c m 2 with
      | some mf => mLen 2 mf [x, y] h
      | _ => none) else none
    | none => none)
  | none => prim x y h
def primB (op : Operator) : W → W → M W := match op with
  | .Add => fAdd
  | .Sub => fSub
  | .Mult => fMul
  | .Mod => fI fModI
  | .FloorDiv => fI fDivI
  | .Pow => fI fPowI
  | _ => fun _ _ _ => none
def opB (Γ : SE) (op : Operator) : W → W → M W := if Γ.hot then primB op else opO Γ.mo (PySem.dunder op.info.2) (primB op)
theorem primB_ok {op : Operator} : OpX X Wx (binaryOp op) (primB op) := by
  unfold primB
  split
  · exact .of op_addAll opm_add
  · exact .of op_sub opm_sub
  · exact .of op_mulAll opm_mulAll
  · exact .of op_mod opm_mod
  · exact .of op_fdivW opm_fdiv
  · exact .of op_pow opm_pow
  · exact .bad
theorem opB_ok (S : Sx X Γ Wx k) {op : Operator} : OpX X Wx (binaryOp op) (opB Γ op) := by
  unfold opB
  split
  · exact primB_ok
  · rename_i hh
    obtain ⟨hc, hr, _⟩ := S.calm (by simpa using hh)
    intro pins s σ H G μ h x y xv yv v u Q I rh r1 r2 rx ry q
    unfold opO at q
    cases e1 : clsOf h x with
    | none =>
      rw [e1] at q
      exact primB_ok pins s σ H G μ h x y xv yv v u Q I rh r1 r2 rx ry q
    | some c =>
      rw [e1] at q
      cases e2 : clsOf h y with
      | none => rw [e2] at q; exact (ret_bad q).elim
      | some c' =>
        rw [e2] at q
        dsimp only at q
        by_cases hcc : c' = c
        · subst hcc
          rw [if_pos rfl] at q
          split at q
          · rename_i mf em
            obtain ⟨C, g, ci, ec, F, O, _, _⟩ := S.own em
            refine opx_bin (k := k) F.first O (hr.mono (by omega)) hc S.tk pins s σ H G μ h x y xv yv v u Q I rh r1 r2 rx ry ?_
            unfold fBinO
            rw [clsOf_ob e1, clsOf_ob e2]
            exact q
          · exact (ret_bad q).elim
        · rw [if_neg hcc] at q
          exact (ret_bad q).elim
end
end PM

end
section
set_option Elab.async false
set_option linter.all false
set_option maxRecDepth 100000
set_option maxHeartbeats 4000000
namespace PM
open PySem PySem.Spec PyProof.Rows L2 N1
open Evl (Ex)
def primC (op : CmpOp) : W → W → M W := match op with
  | .Eq => fEq false
  | .NotEq => fEq true
  | .Lt => fLt
  | .LtE => fLe
  | .Gt => fGt
  | .GtE => fGe
  | .In => fInD false
  | .NotIn => fInD true
  | .Is => fIsN false
  | .IsNot => fIsN true
def inO (mo : Mo) (neg : Bool) : W → W → M W := fun x y h => match clsOf h y with
  | some c => (match methOf mo c "__contains__" 2 with
    | some mf => fInO neg c mf x y h
    | _ => none)
  | none => fInD neg x y h
def isRich (op : CmpOp) : Bool := match op with
  | .Eq => true
  | .Lt => true
  | .LtE => true
  | .Gt => true
  | .GtE => true
  | _ => false
def opC (Γ : SE) (op : CmpOp) : W → W → M W := if Γ.hot then primC op else match op with
  | .In => inO Γ.mo false
  | .NotIn => inO Γ.mo true
  | op => if isRich op then opO Γ.mo (cmpInfo op).2.1 (primC op) else primC op
section
variable {X : Cx} {Γ : SE} {Wx : WX} {k : Nat}
theorem primC_ok (S : Sx X Γ Wx k) {op : CmpOp} : OpX X Wx (compareOp op) (primC op) := by
  have hu := S.units
  unfold primC
  split
  · exact .of (op_eqD (by omega)) opm_eq
  · exact .of (op_neD (by omega)) opm_ne
  · exact .of op_lt opm_lt
  · exact .of op_le opm_le
  · exact .of op_gt opm_gt
  · exact .of op_ge opm_ge
  · exact inD_ok false hu (.of (op_inAll (by omega)) opm_in)
  · exact inD_ok true hu (.of (op_notInAll (by omega)) opm_notIn)
  · exact .of op_isN opm_is
  · exact .of op_notN opm_isNot
theorem inO_ok (S : Sx X Γ Wx k) (hh : Γ.hot = false) (neg : Bool) : OpX X Wx (compareOp (if neg then .NotIn else .In)) (inO Γ.mo neg) := by
  obtain ⟨hc, hr, _⟩ := S.calm hh
  intro pins s σ H G μ h x y xv yv v u Q I rh r1 r2 rx ry q
  unfold inO at q
  cases e : clsOf h y with
  | none =>
    rw [e] at q
    have P : OpX X Wx (compareOp (if neg then .NotIn else .In)) (fInD neg) := by
      cases neg with
      | false => exact primC_ok S (op := .In)
      | true => exact primC_ok S (op := .NotIn)
    exact P pins s σ H G μ h x y xv yv v u Q I rh r1 r2 rx ry q
  | some c =>
    rw [e] at q
    dsimp only at q
    split at q
    · rename_i mf em
      obtain ⟨C, g, ci, ec, F, O, _, _⟩ := S.own em
      exact opx_in (k := k) neg O (hr.mono (by omega)) hc S.tk pins s σ H G μ h x y xv yv v u Q I rh r1 r2 rx ry q
    · exact (ret_bad q).elim
theorem rich_ok (S : Sx X Γ Wx k) (hh : Γ.hot = false) {op : CmpOp} (ho : isRich op = true) : OpX X Wx (compareOp op) (opO Γ.mo (cmpInfo op).2.1 (primC op)) := by
  obtain ⟨hc, hr, _⟩ := S.calm hh
  have hop : ∀ a b, compareOp op a b = richCompare op a b := by
    cases op <;> first | (intro a b; rfl) | (simp [isRich] at ho)
  intro pins s σ H G μ h x y xv yv v u Q I rh r1 r2 rx ry q
  unfold opO at q
  cases e1 : clsOf h x with
  | none =>
    rw [e1] at q
    exact primC_ok S pins s σ H G μ h x y xv yv v u Q I rh r1 r2 rx ry q
  | some c =>
    rw [e1] at q
    cases e2 : clsOf h y with
    | none => rw [e2] at q; exact (ret_bad q).elim
    | some c' =>
      rw [e2] at q
      dsimp only at q
      by_cases hcc : c' = c
      · subst hcc
        rw [if_pos rfl] at q
        split at q
        · rename_i mf em
          obtain ⟨C, g, ci, ec, F, O, _, _⟩ := S.own em
          refine opx_cmp (k := k) hop F.at_ F.nf O (hr.mono (by omega)) hc S.tk pins s σ H G μ h x y xv yv v u Q I rh r1 r2 rx ry ?_
          unfold fCmpO
          rw [clsOf_ob e1, clsOf_ob e2]
          exact q
        · exact (ret_bad q).elim
      · rw [if_neg hcc] at q
        exact (ret_bad q).elim
theorem opC_ok (S : Sx X Γ Wx k) {op : CmpOp} : OpX X Wx (compareOp op) (opC Γ op) := by
  unfold opC
  split
  · exact primC_ok S
  · rename_i hh
    have hh : Γ.hot = false := by simpa using hh
    split
    · exact inO_ok S hh false
    · exact inO_ok S hh true
    · split
      · rename_i ho
        exact rich_ok S hh ho
      · exact primC_ok S
def ixM (Γ : SE) : W → W → M W := if Γ.hot then fIxD else fun x y h => match clsOf h x with
  | some c => (match methOf Γ.mo c "__getitem__" 2 with
    | some mf => fIxO c mf x y h
    | _ => none)
  | none => fIxD x y h
theorem ixM_ok (S : Sx X Γ Wx k) : IxXS X Wx (ixM Γ) := by
  have prim : IxXS X Wx fIxD := fun value slice pins s σ H G μ h x y xv yv v u Q I rh r1 r2 rx ry q h1 _ => ixD_ok S.units (IxX.of ix_seq opm_ix) value slice pins s σ H G μ h x y xv yv v u Q I rh r1 r2 rx ry q h1
  unfold ixM
  split
  · exact prim
  · rename_i hh
    obtain ⟨hc, hr, _⟩ := S.calm (by simpa using hh)
    intro value slice pins s σ H G μ h x y xv yv v u Q I rh r1 r2 rx ry q h1 h2
    dsimp only at q
    cases e : clsOf h x with
    | none =>
      rw [e] at q
      exact prim value slice pins s σ H G μ h x y xv yv v u Q I rh r1 r2 rx ry q h1 h2
    | some c =>
      rw [e] at q
      dsimp only at q
      split at q
      · rename_i mf em
        obtain ⟨C, g, ci, ec, F, O, hfn, _⟩ := S.own em
        exact ixx_own (k := k) O hfn (hr.mono (by omega)) hc S.tk value slice pins s σ H G μ h x y xv yv v u Q I rh r1 r2 rx ry q h1 h2
      · exact (ret_bad q).elim
def plainSl : Expr → Bool
  | .Slice .. => false
  | .Tuple es _ _ => es.all fun e => match e with | .Slice .. => false | .Starred .. => false | _ => true
  | .Starred .. => false
  | _ => true
theorem pm_ixXS {a b : Expr} {ma mb : ME} {g : W → W → M W} {pos : Pos} (o : IxXS X Wx g) (ha : PM Wx X a ma) (hb : PM Wx X b mb) (h1 : ∀ v u, subscripted b false v u = operate [v, u] (getItem v u)) (h2 : ∀ v u, subscripted b true v u = runValue (.builtin "lifetime.subscript" ⟨[v, u], []⟩)) : PM Wx X (.Subscript a b pos) (mBin g ma mb) :=
  ⟨fun pins s σ H Q I h => Subscript_ (L2.bin ha hb I (t_binX h) fun v u s2 x y H2 I2 rx ry q => by
    obtain ⟨G, μ, h, wx, wy, rh, r1, r2, k⟩ := q
    exact o a b pins s2 σ H2 G μ h wx wy x y v u Q I2 rh r1 r2 rx ry k (h1 _ _) (h2 _ _))⟩
end
end PM

end
section
set_option Elab.async false
set_option linter.all false
set_option maxRecDepth 100000
set_option maxHeartbeats 4000000
namespace PM
open PySem PySem.Spec PyProof.Rows L2 N1
open Evl (Ex)
structure Ev where
  e : SE → Expr → ME
  t : SE → Expr → MT
  s : SE → Stmt → MS
structure EvOk (r : Ev) : Prop where
  e : ∀ {X : Cx} {Γ : SE} {Wx : WX} {k : Nat}, Sx X Γ Wx k → ∀ e, PM Wx X e (r.e Γ e)
  t : ∀ {X : Cx} {Γ : SE} {Wx : WX} {k : Nat}, Sx X Γ Wx k → ∀ e, PMT Wx X e (r.t Γ e)
  s : ∀ {X : Cx} {Γ : SE} {Wx : WX} {k : Nat}, Sx X Γ Wx k → ∀ s, PMS Wx X s (r.s Γ s)
def seqOf (h : AHp) (w : W) : Option (List W) := match w with
  | .d (.tup ds) => some (ds.map .d)
  | _ => lstOf h w
theorem seq_at {K : PySem.W.Frag} {mg : MgX} {G H : Hp} {μ : Mu} {h : AHp} (rh : RelH K mg G μ h H) {w : W} {v : V} {ws : List W} (r : RepW K mg G μ w v) (e : seqOf h w = some ws) : ∃ a vs, v = .ref a ∧ (SqT K H a vs ∨ SqL K H a vs) ∧ RepWs K mg G μ ws vs := by
  unfold seqOf at e
  split at e
  · cases e
    cases r with
    | tup s q => exact ⟨_, _, rfl, .inl (Evl.ex_t rh.ex s), repWs_of q⟩
  · obtain ⟨a, vs, e1, e2, e3⟩ := lst_at rh r e
    exact ⟨a, vs, e1, .inr e2, e3⟩
def mStar (me : ME) (m : MA) : MA := fun σ => mBind (me σ) fun w h => match seqOf h w with
  | some ws => mBind (m σ) (fun xs => mPure (ws ++ xs)) h
  | none => none
section
variable {X : Cx} {Wx : WX} {e : Expr} {es : List Expr} {me : ME} {mas : MA} {p : Pos}
theorem pma_star (he : PM Wx X e me) (ha : PMA Wx X es mas) : PMA Wx X (.Starred e p :: es) (mStar me mas) :=
  pa_imp (StX.pa_star he ha) fun σ H Q ⟨G, μ, σA, h, rs, rh, k⟩ => ⟨G, μ, σA, h, rs, rh, k.bind.imp fun w G1 μ1 h1 H1 s1 rh1 k1 v rv => by
    split at k1
    · rename_i ws ew
      obtain ⟨a, vs, rfl, sq, rws⟩ := seq_at rh1 rv ew
      exact ⟨a, vs, rfl, sq, G1, μ1, σA, h1, rs.mono s1, rh1, (Ret.bind k1).imp fun xs G2 μ2 h2 H2 s2 rh2 k2 us rus => Ret.pure k2 rh2 _ ((rws.mono s2).append rus)⟩
    · exact (ret_bad k1).elim⟩
end
def evA (r : Ev) (Γ : SE) : List Expr → MA
  | [] => mNil
  | .Starred e _ :: es => mStar (r.e Γ e) (evA r Γ es)
  | e :: es => mCons (r.e Γ e) (evA r Γ es)
def mFrzQ (me : ME) : ME := fun σ => mBind (me σ) fun w h => match frzL h w with | some (d, h') => some (.ok (.d d), h') | none => some (.ok w, h)
theorem pm_frzQ {X : Cx} {Wx : WX} {e : Expr} {me : ME} (he : PM Wx X e me) : PM Wx X e (mFrzQ me) := pe_imp he fun σ H Q ⟨G, μ, σA, h, rs, rh, k⟩ => ⟨G, μ, σA, h, rs, rh, k.bind.imp fun w G1 μ1 h1 H1 s1 rh1 k1 v rv => by
  obtain ⟨r, h', e, k2⟩ := k1
  split at e
  · rename_i d h2 e1
    cases e
    obtain ⟨G2, r2, s2, rp⟩ := frzL_ok rh1 e1 rv
    exact k2 _ _ _ s2 r2 _ rp
  · cases e
    exact k2 _ _ _ Step.refl rh1 v rv⟩
def isDone (Γ : SE) : Expr → Bool
  | .Name x _ => match Γ.mu.lookup x with | some true => true | _ => false
  | _ => false
def evF (r : Ev) (Γ : SE) (e : Expr) : ME := if isDone Γ e then mFrzQ (r.e Γ e) else r.e Γ e
theorem evF_ok {r : Ev} {X : Cx} {Γ : SE} {Wx : WX} {k : Nat} (R : EvOk r) (S : Sx X Γ Wx k) (e : Expr) : PM Wx X e (evF r Γ e) := by
  unfold evF
  split
  · exact pm_frzQ (R.e S e)
  · exact R.e S e
def evAF (r : Ev) (Γ : SE) : List Expr → MA
  | [] => mNil
  | .Starred e _ :: es => mStar (evF r Γ e) (evAF r Γ es)
  | e :: es => mCons (evF r Γ e) (evAF r Γ es)
def noStar : List Expr → Bool
  | [] => true
  | .Starred _ _ :: _ => false
  | _ :: es => noStar es
section
variable {r : Ev} {X : Cx} {Γ : SE} {Wx : WX} {k : Nat}
theorem star_no {e : Expr} {es : List Expr} {env : Env} (h : ∀ a p, e ≠ .Starred a p) : starEach (e :: es) env = (false, eval e env) :: starEach es env := by
  cases e <;> first | rfl | exact absurd rfl (h _ _)
theorem evA_ok (R : EvOk r) (S : Sx X Γ Wx k) : ∀ es : List Expr, PMA Wx X es (evA r Γ es)
  | [] => pma_nil
  | e :: es => by
    unfold evA
    split
    · rename_i heq; cases heq
    · rename_i heq; cases heq; exact pma_star (R.e S _) (evA_ok R S _)
    · rename_i e' es' hne heq
      cases heq
      exact pma_cons (R.e S _) (evA_ok R S _) (star_no hne)
theorem evAF_ok (R : EvOk r) (S : Sx X Γ Wx k) : ∀ es : List Expr, PMA Wx X es (evAF r Γ es)
  | [] => pma_nil
  | e :: es => by
    unfold evAF
    split
    · rename_i heq; cases heq
    · rename_i heq; cases heq; exact pma_star (evF_ok R S _) (evAF_ok R S _)
    · rename_i e' es' hne heq
      cases heq
      exact pma_cons (evF_ok R S _) (evAF_ok R S _) (star_no hne)
theorem noStar_at {env : Env} : ∀ {es : List Expr}, noStar es = true → (starEach es env).any (·.1) = false
  | [], _ => rfl
  | e :: es, h => by
    unfold noStar at h
    split at h
    · rename_i heq; cases heq
    · cases h
    · rename_i e' es' hne heq
      cases heq
      rw [star_no hne]
      show (false || _) = false
      rw [Bool.false_or]
      exact noStar_at h
theorem back_any (pos : Pos) (l : List (Bool × Sem Value)) : (backTo pos l).any (·.1) = l.any (·.1) := by
  unfold backTo
  rw [List.any_map]
  rfl
theorem noStar_cons {e : Expr} {es : List Expr} {env : Env} (h : noStar (e :: es) = true) : starEach (e :: es) env = (false, eval e env) :: starEach es env ∧ noStar es = true := by
  unfold noStar at h
  split at h
  · rename_i heq; cases heq
  · cases h
  · rename_i e' es' hne heq
    cases heq
    exact ⟨star_no hne, h⟩
def tBools (op : BoolOp) : List MT → MT
  | [] => mtBad
  | [m] => m
  | m :: n :: r => match op with | .And => mAndT m (tBools op (n :: r)) | .Or => mOrT m (tBools op (n :: r))
theorem tBools_ok {pos : Pos} (R : EvOk r) (S : Sx X Γ Wx k) (op : BoolOp) : ∀ es : List Expr, PMW Wx X (.BoolOp op es pos) (tBools op (es.map (r.t Γ)))
  | [] => pmw_bad
  | [e] => by
    cases op with
    | And => exact pmw_and1 (R.t S e)
    | Or => exact pmw_or1 (R.t S e)
  | e :: e' :: es => by
    have ih := tBools_ok (pos := pos) R S op (e' :: es)
    cases op with
    | And => exact pmw_and (R.t S e) ih
    | Or => exact pmw_or (R.t S e) ih
def vBools (op : BoolOp) : List ME → ME
  | [] => mBad
  | [m] => m
  | m :: n :: r => match op with | .And => mAndV m (vBools op (n :: r)) | .Or => mOrV m (vBools op (n :: r))
theorem vBools_ok {pos : Pos} (R : EvOk r) (S : Sx X Γ Wx k) (op : BoolOp) : ∀ es : List Expr, PM Wx X (.BoolOp op es pos) (vBools op (es.map (r.e Γ)))
  | [] => pm_bad
  | [e] => pm_one (R.e S e)
  | e :: e' :: es => by
    have ih := vBools_ok (pos := pos) R S op (e' :: es)
    cases op with
    | And => exact pm_and (R.e S e) ih
    | Or => exact pm_or (R.e S e) ih
def evCmp (r : Ev) (Γ : SE) (a : Expr) (ops : List CmpOp) (bs : List Expr) : ME := match ops, bs with
  | [op], [b] => if behindInMarks op b then mBad else mBin (opC Γ op) (r.e Γ a) (r.e Γ b)
  | [op, op'], [b, c] => if lastMarks [op, op'] [b, c] then mBad else mChain (opC Γ op) (opC Γ op') (r.e Γ a) (r.e Γ b) (r.e Γ c)
  | _, _ => mBad
theorem evCmp_ok {pos : Pos} (R : EvOk r) (S : Sx X Γ Wx k) {a : Expr} {ops : List CmpOp} {bs : List Expr} : PM Wx X (.Compare a ops bs pos) (evCmp r Γ a ops bs) := by
  unfold evCmp
  split
  · split
    · exact pm_bad
    · rename_i h
      exact pm_cmpX (opC_ok S) (R.e S _) (R.e S _) (by simpa using h)
  · split
    · exact pm_bad
    · rename_i h
      exact pm_chainX (opC_ok S) (opC_ok S) (R.e S _) (R.e S _) (R.e S _) (by simpa using h)
  · exact pm_bad
theorem mB_bad : mB mBad = mtBad := rfl
theorem evCmp_t {pos : Pos} (R : EvOk r) (S : Sx X Γ Wx k) {a : Expr} {ops : List CmpOp} {bs : List Expr} : PMT Wx X (.Compare a ops bs pos) (mB (evCmp r Γ a ops bs)) := by
  unfold evCmp
  split
  · split
    · exact pmt_bad
    · rename_i h
      exact pmt_cmpX (opC_ok S) (R.e S _) (R.e S _) (by simpa using h)
  · split
    · exact pmt_bad
    · rename_i h
      exact pmt_chainX (opC_ok S) (opC_ok S) (R.e S _) (R.e S _) (R.e S _) (by simpa using h)
  · exact pmt_bad
def evT (r : Ev) (Γ : SE) : Expr → MT
  | .UnaryOp .Not x _ => mNotT (r.t Γ x)
  | .BoolOp op vs _ => tBools op (vs.map (r.t Γ))
  | .IfExp .. => mtBad
  | .Compare a ops bs _ => mB (evCmp r Γ a ops bs)
  | e => mB (r.e Γ e)
theorem evT_ok (R : EvOk r) (S : Sx X Γ Wx k) (e : Expr) : PMT Wx X e (evT r Γ e) := by
  unfold evT
  split
  · exact pmt_not (R.t S _)
  · exact (tBools_ok R S _ _).t
  · exact pmt_bad
  · exact evCmp_t R S
  · rename_i h1 h2 h3 h4
    refine pmt_val (R.e S _) fun whole => ?_
    cases e <;> first | rfl | (rename_i op x p; cases op <;> first | rfl | exact absurd rfl (h1 _ _)) | exact absurd rfl (h2 _ _ _) | exact absurd rfl (h3 _ _ _ _) | exact absurd rfl (h4 _ _ _ _)
end
end PM

end
section
set_option Elab.async false
set_option linter.all false
set_option maxRecDepth 100000
set_option maxHeartbeats 4000000
namespace PM
open PySem PySem.Spec PyProof.Rows L2 N1
open Evl (Ex)
def UnAt (X : Cx) (Wx : WX) (σ : L2.St) (g : W → M W) (Q : VK) (x : V) (H : Hp) : Prop := ∃ G μ h w, RelH X.K X.mgx G μ h H ∧ RepW X.K X.mgx G μ w x ∧ Ret X.K X.mgx G μ H (g w h) (PostW X.K X.mgx Q) (fun cls d H' => Wx cls d σ H')
def mUn (g : W → M W) (me : ME) : ME := fun σ => mBind (me σ) g
section
variable {X : Cx} {Γ : SE} {Wx : WX} {k : Nat} {g : W → M W} {me : ME}
theorem t_un {σ : L2.St} {H : Hp} {Q : VK} (q : tE X.K X.mgx Wx (mUn g me) σ H Q) : tE X.K X.mgx Wx me σ H fun x H1 => UnAt X Wx σ g Q x H1 := by
  obtain ⟨G, μ, σA, h, rs, rh, k⟩ := q
  exact ⟨G, μ, σA, h, rs, rh, k.bind.imp fun w G1 μ1 h1 H1 s1 rh1 k1 v rv => ⟨G1, μ1, h1, w, rh1, rv, k1⟩⟩
def okBase : Expr → Bool
  | .Call (.Name id _) [] [] _ => id != ("super" : Str)
  | _ => true
theorem base_ok {o : Expr} {f : Str} {env : Env} (h : okBase o = true) : attributeBase o f env (eval o env) = eval o env := by
  unfold okBase at h
  split at h
  · rename_i id p1 p2
    unfold attributeBase
    dsimp only
    have e : (id != ("super" : Str)) = true := h
    simp only [e, Bool.true_or, if_true]
  · rename_i hne
    unfold attributeBase
    split
    · rename_i id p1 pos
      exact absurd rfl (hne _ _ _)
    · rfl
def attrM (mo : Mo) (f : Str) : W → M W := fun w h => match clsOf h w with
  | some c => (match mo.cls c with
    | some ci => (match ixOf ci.slots f with
      | some i => mOf (attrA h c i w) h
      | none => (match ci.prop f with
        | some mf => mNoX (mLen 1 mf [w]) h
        | none => none))
    | none => none)
  | none => none
def exsOf (mo : Mo) (c : Str) : List Str := match mo.exc c with | some (some f) => [f] | _ => []
def attrX (mo : Mo) (f : Str) : W → M W := fun w => mOf (match w with | .exn c fs => if f ∈ exsOf mo c then (fs.lookup f).map .d else none | _ => none)
def evAttr (r : Ev) (Γ : SE) (o : Expr) (f : Str) : ME := if okBase o then (if Γ.hot then mUn (attrX Γ.mo f) (r.e Γ o) else mUn (attrM Γ.mo f) (r.e Γ o)) else mBad
theorem attrM_ok (S : Sx X Γ Wx k) (hh : Γ.hot = false) {f : Str} {b : Bool} {pins : List (Addr × Obj)} {s : Shared} {σ : L2.St} {H : Hp} {Q : VK} {x : V} {u : Value} (I : Inv X pins σ H s) (rx : RelV x u) (q : UnAt X Wx σ (attrM Γ.mo f) Q x H) :
    wpAny (model X.prog X.w) X.A (getAttr u f b) (EP X pins σ Q) X.xe s := by
  obtain ⟨hc, hr, _⟩ := S.calm hh
  obtain ⟨G, μ, h, w, rh, rw_, k1⟩ := q
  unfold attrM at k1
  cases e : clsOf h w with
  | none => rw [e] at k1; exact (ret_bad k1).elim
  | some c =>
    rw [e] at k1
    dsimp only at k1
    cases ec : Γ.mo.cls c with
    | none => rw [ec] at k1; exact (ret_bad k1).elim
    | some ci =>
      rw [ec] at k1
      dsimp only at k1
      obtain ⟨C, F⟩ := S.mo.cls c ci ec
      cases ei : ixOf ci.slots f with
      | some i =>
        rw [ei] at k1
        dsimp only at k1
        obtain ⟨p, sl⟩ := F.slot i f (ixOf_at ei)
        obtain ⟨z, ez, k2⟩ := k1.of rh
        obtain ⟨a, dx, vs, v, rfl, hs, ev, rv⟩ := attr_at (mg := X.mgx) (F := (⟨F.at_, F.scls, sl⟩ : SlF X.K X.mg c f i C p)) rh rw_ ez
        cases (show u = Value.ref a from rx)
        exact SlX.getslot_ok I hs F.scls sl ev fun u' s2 I2 ru => ⟨v, H, I2, ru, k2 v rv⟩
      | none =>
        rw [ei] at k1
        dsimp only at k1
        cases ep : ci.prop f with
        | none => rw [ep] at k1; exact (ret_bad k1).elim
        | some mf =>
          rw [ep] at k1
          dsimp only at k1
          obtain ⟨p, g, PF⟩ := F.prop f mf ep
          obtain ⟨a, dx, vs, rfl, hs⟩ := ob_at (mg := X.mgx) F.at_ rh rw_ (clsOf_ob e)
          cases (show u = Value.ref a from rx)
          have k2 : Ret X.K X.mgx G μ H (mLen 1 mf [w] h) (PostW X.K X.mgx Q) E0 := ret_noX k1
          refine SlX.getprop_sl (CX := CX X.prog X.w) (n := k) (E := E0) I hs F.scls PF.at_ PF.get PF.tk PF.rc PF.run (hr.mono (by omega)) (fun H s e s' z => ?_) ?_
          · obtain ⟨_, _, _, _, _, _, _, _, _, _, _, _, z⟩ := z
            exact z
          · rw [mgx_calm hc] at rh rw_ k2
            unfold mLen at k2
            exact ⟨rfl, G, μ, [w], h, .cons rw_ .nil, rh, k2⟩
theorem evAttr_ok {r : Ev} (R : EvOk r) (S : Sx X Γ Wx k) {o : Expr} {f : Str} {pos : Pos} : PM Wx X (.Attribute o f pos) (evAttr r Γ o f) := by
  unfold evAttr
  split
  · rename_i hb
    split
    · rename_i hh
      obtain ⟨rfl, X0, a, oe, pn, rfl, hf⟩ := S.hot hh
      refine pm_exnF (exs := exsOf Γ.mo) (fun c C gC hm => ?_) hf (R.e S o) (base_ok hb)
      unfold exsOf at hm
      split at hm
      · rename_i f' ef
        simp at hm
        subst hm
        obtain ⟨C', gC', _, h1, _, h2⟩ := S.mo.exc c _ ef
        have : X0.mg c = some (.ref C') := gC'
        rw [gC] at this
        cases this
        exact ⟨h1, h2 f rfl⟩
      · cases hm
    · rename_i hh
      refine ⟨fun pins s σ H Q I h => ?_⟩
      refine attr_of (base_ok hb) (thn ((R.e S o).run pins s σ H _ I (t_un h)) fun u s1 ⟨x, H1, I1, rx, q⟩ => ?_)
      exact attrM_ok S (by simpa using hh) I1 rx q
  · exact pm_bad
def evOpt (r : Ev) (Γ : SE) : Option Expr → MO
  | none => mNoPart
  | some e => mPart (r.e Γ e)
theorem evOpt_ok {r : Ev} (R : EvOk r) (S : Sx X Γ Wx k) : ∀ o : Option Expr, PO X o (tO X.K X.mgx Wx (evOpt r Γ o))
  | none => pmo_none
  | some e => pmo_some (R.e S e)
def evSub (r : Ev) (Γ : SE) (a b : Expr) : ME := match b with
  | .Slice lo hi none _ => mSlice (r.e Γ a) (evOpt r Γ lo) (evOpt r Γ hi)
  | .Slice _ _ (some _) _ => mBad
  | b => mBin (ixM Γ) (r.e Γ a) (r.e Γ b)
theorem evSub_ok {r : Ev} (R : EvOk r) (S : Sx X Γ Wx k) {a b : Expr} {pos : Pos} : PM Wx X (.Subscript a b pos) (evSub r Γ a b) := by
  unfold evSub
  split
  · exact pm_slice (R.e S a) (evOpt_ok R S _) (evOpt_ok R S _)
  · exact pm_bad
  · rename_i h1 h2
    refine pm_ixXS (ixM_ok S) (R.e S a) (R.e S b) (fun v u => ?_) (fun v u => ?_)
    all_goals
      unfold subscripted
      split
      · exact absurd rfl (h1 _ _ _)
      · first | rfl | contradiction
      · first | rfl | contradiction
end
end PM

end
section
set_option Elab.async false
set_option linter.all false
set_option maxRecDepth 100000
set_option maxHeartbeats 4000000
namespace PM
open PySem PySem.Spec PyProof.Rows L2 N1
open Evl (Ex)
def ArAt (X : Cx) (Wx : WX) (σ : L2.St) (g : List W → M W) (Q : VK) (vs : List V) (H : Hp) : Prop := ∃ G μ h ws, RelH X.K X.mgx G μ h H ∧ RepWs X.K X.mgx G μ ws vs ∧ Ret X.K X.mgx G μ H (g ws h) (PostW X.K X.mgx Q) (fun cls d H' => Wx cls d σ H')
section
variable {X : Cx} {Γ : SE} {Wx : WX} {k n : Nat} {g : List W → M W} {mas : MA} {x : Str} {p pos : Pos} {f : Addr} {mf : MF} {e : Expr} {es : List Expr}
theorem t_ar {σ : L2.St} {H : Hp} {Q : VK} (q : tE X.K X.mgx Wx (mCB g mas) σ H Q) : tA X.K X.mgx Wx mas σ H fun vs H1 => ArAt X Wx σ g Q vs H1 := by
  obtain ⟨G, μ, σA, h, rs, rh, k⟩ := q
  exact ⟨G, μ, σA, h, rs, rh, k.bind.imp fun w G1 μ1 h1 H1 s1 rh1 k1 v rv => ⟨G1, μ1, h1, w, rh1, rv, k1⟩⟩
theorem pm_fnX (F : FnM X.prog X.w X.K X.mg X.base k f n mf) (hr : Room k X.A) (hcm : X.calm = true) (hg : Gl X x) (hm : X.mg x = some (.ref f)) (hk : PySem.W.keepIn X.K (.ref f) = true) (tk : Takes X Wx) (hdb : (x == ("__debug__" : Str)) = false) (ha : PMA Wx X (e :: es) mas) (hs : noStar (e :: es) = true) :
    PM Wx X (.Call (.Name x p) (e :: es) [] pos) (mCB (mLen n mf) mas) := by
  refine ⟨fun pins s σ H Q I h => ?_⟩
  have q := t_ar h
  refine wpAny_Call_Name_kw (ld_glob I hg hm ?_ hdb)
  obtain ⟨h1, h2⟩ := noStar_cons (env := X.env) hs
  refine PySem.W.callWith_K (h₀ := X.base) I.ok.mod.kin hk (thn (ha.run pos pins s σ H _ I q) fun us s1 ⟨vs, H1, I1, r1, G, μ, h, ws, rh, rw_, k1⟩ => ⟨I1.kIn, ?_⟩) h1 (by rw [back_any]; exact noStar_at h2)
  exact run_X F hr I1.env0 hcm tk I1 rh rw_ r1 k1
theorem pm_fnX0 (F : FnM X.prog X.w X.K X.mg X.base k f n mf) (hr : Room k X.A) (hcm : X.calm = true) (hg : Gl X x) (hm : X.mg x = some (.ref f)) (hk : PySem.W.keepIn X.K (.ref f) = true) (tk : Takes X Wx) (hdb : (x == ("__debug__" : Str)) = false) :
    PM Wx X (.Call (.Name x p) [] [] pos) (fun _ => mLen n mf []) := by
  refine ⟨fun pins s σ H Q I ⟨G, μ, σA, h, rs, rh, q⟩ => ?_⟩
  refine wpAny_Call_Name_kw (ld_glob I hg hm ?_ hdb)
  exact PySem.W.callWith_K0 (first := []) I.kIn hk (run_X F hr I.env0 hcm tk I rh .nil .nil q)
theorem pm_callBX {id : String} (o : CallX X Wx (.builtin id) g) (hg : Gl X x) (hm : X.mg x = none) (hv : bootBuiltins x = some (.builtin id)) (hn : x ≠ "__name__") (hdb : (x == ("__debug__" : Str)) = false) (ha : PMA Wx X (e :: es) mas) (hs : noStar (e :: es) = true) :
    PM Wx X (.Call (.Name x p) (e :: es) [] pos) (mCB g mas) := by
  refine ⟨fun pins s σ H Q I h => ?_⟩
  obtain ⟨h1, h2⟩ := noStar_cons (env := X.env) hs
  refine wpAny_Call_Name_kw (ld_blt I hg hm hv ?_ hn hdb)
  refine PyProof.Rows.callWith_builtin1 (thn (ha.run pos pins s σ H _ I (t_ar h)) fun us s1 ⟨vs, H1, I1, r1, G, μ, h, ws, rh, rw_, k1⟩ => ?_) h1 (by rw [back_any]; exact noStar_at h2)
  exact o pins s1 σ H1 G μ h ws vs us Q I1 rh rw_ r1 k1
theorem pm_callTX {T : String} (o : CallX X Wx (.type T) g) (hg : Gl X x) (hm : X.mg x = none) (hv : bootBuiltins x = some (.type T)) (hn : x ≠ "__name__") (hdb : (x == ("__debug__" : Str)) = false) (ha : PMA Wx X (e :: es) mas) (hs : noStar (e :: es) = true) :
    PM Wx X (.Call (.Name x p) (e :: es) [] pos) (mCB g mas) := by
  refine ⟨fun pins s σ H Q I h => ?_⟩
  obtain ⟨h1, h2⟩ := noStar_cons (env := X.env) hs
  refine wpAny_Call_Name_kw (ld_blt I hg hm hv ?_ hn hdb)
  refine PyProof.Rows.callWith_type1 (thn (ha.run pos pins s σ H _ I (t_ar h)) fun us s1 ⟨vs, H1, I1, r1, G, μ, h, ws, rh, rw_, k1⟩ => ?_) h1 (by rw [back_any]; exact noStar_at h2)
  exact o pins s1 σ H1 G μ h ws vs us Q I1 rh rw_ r1 k1
end
def signs (x : Str) : List D := x.cps.toList.map fun c => .str ⟨#[c]⟩
def fListS : List W → M W := fun ws h => match ws with
  | [.d (.str x)] => if x.cps.size ≤ sizeLine then mPure (.d (.lst (signs x))) h else none
  | ws => fList ws h
section
variable {X : Cx} {Γ : SE} {Wx : WX} {k : Nat}
theorem vals_signs {x : Str} {acc : Array Value} (h : ItemsOf (SignAt x) acc x.cps.size) : Vals (x.cps.toList.map fun c => V.str ⟨#[c]⟩) acc.toList := by
  have e : acc.toList.length = x.cps.size := by rw [Array.length_toList]; exact h.1
  refine vals_of_at (by simp [e]) fun j v u hj hu => ?_
  rw [List.getElem?_map] at hj
  cases q : x.cps.toList[j]? with
  | none => rw [q] at hj; cases hj
  | some c =>
    rw [q] at hj
    cases hj
    have s := h.2 j u (by rw [← hu, Array.getElem?_toList])
    obtain ⟨c', t, e1, e2⟩ := s
    rw [← Array.getElem?_toList, q] at e1
    cases e1
    exact ⟨t, e2⟩
theorem call_listStr (hc : X.calm = true) : CallR X (.type "list") (fun xs H Q => ∃ x, xs = [.str x] ∧ x.cps.size ≤ sizeLine ∧ ∀ l, H l = none → Q (.ref l) (upd H l (.lst (x.cps.toList.map fun c => V.str ⟨#[c]⟩)))) := by
  intro pins s σ H xs us Q I r h
  obtain ⟨x, rfl, hx, q⟩ := h
  obtain ⟨u, rfl, ru⟩ := r.one
  obtain ⟨t, rfl⟩ := ru
  have hf : H s.heap.objs.size = none := I.hok.fresh (Nat.le_refl _)
  refine PySem.call_list_str (I.ok.hd hc) x t (fun h' tk acc c' kp hS hacc => ?_) hx
  refine ⟨.ref s.heap.objs.size, upd H s.heap.objs.size (.lst (x.cps.toList.map fun c => V.str ⟨#[c]⟩)), I.laid (t' := tk) kp (Nat.le_refl _) ?_, rfl, q _ hf⟩
  refine ⟨by simp; exact hx, acc.toList, c', vals_signs hacc, ?_⟩
  simpa using hS
theorem repl_signs {K : PySem.W.Frag} {mg : MgW} {G : Hp} : ∀ l : List Nat, RepL K mg G (l.map fun c => D.str ⟨#[c]⟩) (l.map fun c => V.str ⟨#[c]⟩)
  | [] => .nil
  | c :: l => .cons (.str _) (repl_signs l)
theorem fListS_ok (hc : X.calm = true) : CallX X Wx (.type "list") fListS := by
  intro pins s σ H G μ h ws vs us Q I rh r1 rx q
  unfold fListS at q
  split at q
  · rename_i x
    split at q
    · rename_i hx
      obtain ⟨v, rfl, rv⟩ := one_of r1
      cases rv
      exact call_listStr hc pins s σ H _ us Q I rx ⟨x, rfl, hx, Ret.lst (h := h) q rh (repl_signs _)⟩
    · exact (ret_bad q).elim
  · exact CallX.of call_list_of cm_list pins s σ H G μ h _ vs us Q I rh r1 rx q
end
def lenA (mo : Mo) : List W → M W := fun ws h => match ws with
  | [w] => (match clsOf h w with
    | some c => (match methOf mo c "__len__" 1 with
      | some mf => fLenO c mf [w] h
      | _ => none)
    | none => fLen [w] h)
  | _ => none
def fAbs : List W → M W := fun ws => mOf (match ws with | [.d (.int i)] => some (.d (.int (if i < 0 then -i else i))) | _ => none)
def fMax2 : List W → M W := fun ws => mOf (match ws with | [.d (.int i), .d (.int j)] => some (.d (.int (if j > i then j else i))) | _ => none)
def fMin2 : List W → M W := fun ws => mOf (match ws with | [.d (.int i), .d (.int j)] => some (.d (.int (if j < i then j else i))) | _ => none)
def fOrd : List W → M W := fun ws => mOf (match ws with | [.d (.str x)] => if x.length = 1 then some (.d (.int (x.cps.getD 0 0 : Nat))) else none | _ => none)
section
variable {X : Cx} {Γ : SE} {Wx : WX} {k : Nat}
theorem lenA_ok (S : Sx X Γ Wx k) (hh : Γ.hot = false) : CallX X Wx (.builtin "len") (lenA Γ.mo) := by
  obtain ⟨hc, hr, _⟩ := S.calm hh
  intro pins s σ H G μ h ws vs us Q I rh r1 rx q
  unfold lenA at q
  split at q
  · rename_i w
    cases e : clsOf h w with
    | none =>
      rw [e] at q
      exact CallX.of call_len cm_len pins s σ H G μ h _ vs us Q I rh r1 rx q
    | some c =>
      rw [e] at q
      dsimp only at q
      split at q
      · rename_i mf em
        obtain ⟨C, gg, ci, ec, F, O, _, _⟩ := S.own em
        exact callx_len (k := k) O (hr.mono (by omega)) hc S.tk pins s σ H G μ h _ vs us Q I rh r1 rx q
      · exact (ret_bad q).elim
  · exact (ret_bad q).elim
theorem cm_abs {K : PySem.W.Frag} {mg : MgX} : CallM K mg (fun xs H Q => ∃ i, xs = [.int i] ∧ Q (.int (if i < 0 then -i else i)) H) fAbs := fun G μ h H ws vs Q EX rh r k => by
  obtain ⟨w, e, k2⟩ := k.of rh
  split at e
  · cases e
    obtain ⟨v, rfl, rv⟩ := one_of r
    cases rv
    exact ⟨_, rfl, k2 _ (.int _)⟩
  · cases e
theorem cm_max2 {K : PySem.W.Frag} {mg : MgX} : CallM K mg (fun xs H Q => ∃ i j, xs = [.int i, .int j] ∧ Q (.int (if j > i then j else i)) H) fMax2 := fun G μ h H ws vs Q EX rh r k => by
  obtain ⟨w, e, k2⟩ := k.of rh
  split at e
  · cases e
    obtain ⟨v, u, rfl, rv, ru⟩ := two_of r
    cases rv
    cases ru
    exact ⟨_, _, rfl, k2 _ (.int _)⟩
  · cases e
theorem cm_min2 {K : PySem.W.Frag} {mg : MgX} : CallM K mg (fun xs H Q => ∃ i j, xs = [.int i, .int j] ∧ Q (.int (if j < i then j else i)) H) fMin2 := fun G μ h H ws vs Q EX rh r k => by
  obtain ⟨w, e, k2⟩ := k.of rh
  split at e
  · cases e
    obtain ⟨v, u, rfl, rv, ru⟩ := two_of r
    cases rv
    cases ru
    exact ⟨_, _, rfl, k2 _ (.int _)⟩
  · cases e
theorem cm_ord {K : PySem.W.Frag} {mg : MgX} : CallM K mg (fun xs H Q => ∃ x, xs = [.str x] ∧ x.length = 1 ∧ Q (.int (x.cps.getD 0 0 : Nat)) H) fOrd := fun G μ h H ws vs Q EX rh r k => by
  obtain ⟨w, e, k2⟩ := k.of rh
  split at e
  · split at e
    · rename_i c
      cases e
      obtain ⟨v, rfl, rv⟩ := one_of r
      cases rv
      exact ⟨_, rfl, c, k2 _ (.int _)⟩
    · cases e
  · cases e
inductive Bk where
  | fn (id : String) (g : List W → M W)
  | ty (T : String) (g : List W → M W)
def biN (Γ : SE) (x : Str) : Option Bk :=
  if x == ("len" : Str) then (if Γ.hot then none else some (.fn "len" (lenA Γ.mo)))
  else if x == ("int" : Str) then some (.ty "int" fInt)
  else if x == ("list" : Str) then some (.ty "list" (if Γ.hot then fList else fListS))
  else if x == ("tuple" : Str) then some (.ty "tuple" fTuple)
  else if x == ("all" : Str) then (if Γ.hot then none else some (.fn "all" (fBs fun bs => bs.all id)))
  else if x == ("any" : Str) then (if Γ.hot then none else some (.fn "any" (fBs fun bs => bs.any id)))
  else if x == ("sum" : Str) then (if Γ.hot then none else some (.fn "sum" fSum))
  else if x == ("abs" : Str) then some (.fn "abs" fAbs)
  else if x == ("max" : Str) then (if Γ.hot then none else some (.fn "max" fMax2))
  else if x == ("min" : Str) then (if Γ.hot then none else some (.fn "min" fMin2))
  else if x == ("ord" : Str) then some (.fn "ord" fOrd)
  else none
theorem biN_ok (S : Sx X Γ Wx k) {x : Str} {b : Bk} (e : biN Γ x = some b) : match b with
    | .fn id g => CallX X Wx (.builtin id) g ∧ bootBuiltins x = some (.builtin id)
    | .ty T g => CallX X Wx (.type T) g ∧ bootBuiltins x = some (.type T) := by
  have cm : Γ.hot = false → X.calm = true := fun h => (S.calm h).1
  unfold biN at e
  repeat' (split at e)
  all_goals first
    | (cases e; done)
    | skip
  all_goals
    rename_i hx
    cases e
    have hb := eq_of_beq (by assumption : (x == _) = true)
    subst hb
    first
    | exact ⟨lenA_ok S (by simp_all), by decide +kernel⟩
    | exact ⟨.of call_int1 cm_int, by decide +kernel⟩
    | exact ⟨.of call_list_of cm_list, by decide +kernel⟩
    | exact ⟨fListS_ok (cm (by simp_all)), by decide +kernel⟩
    | exact ⟨.of call_tuple_of cm_tuple, by decide +kernel⟩
    | exact ⟨.of (cr_all (cm (by simp_all))) (cm_bs _), by decide +kernel⟩
    | exact ⟨.of (cr_any (cm (by simp_all))) (cm_bs _), by decide +kernel⟩
    | exact ⟨.of (cr_sum (cm (by simp_all))) cm_sum, by decide +kernel⟩
    | exact ⟨.of call_abs cm_abs, by decide +kernel⟩
    | exact ⟨.of (call_max2 (cm (by simp_all))) cm_max2, by decide +kernel⟩
    | exact ⟨.of (call_min2 (cm (by simp_all))) cm_min2, by decide +kernel⟩
    | exact ⟨.of call_ord cm_ord, by decide +kernel⟩
end
end PM

end
section
set_option Elab.async false
set_option linter.all false
set_option maxRecDepth 100000
set_option maxHeartbeats 4000000
namespace PM
open PySem PySem.Spec PyProof.Rows L2 N1
open Evl (Ex)
inductive Tgt where
  | ty (T : String)
  | own (x : Str)
def isaOf (mo : Mo) (t : Tgt) (c : Str) : Option Bool := match t with | .ty n => mo.isT c n | .own x => mo.isO c x
def isaX (mo : Mo) (t : Tgt) (c : Str) : Option Bool := if (mo.exc c).isSome then isaOf mo t c else none
def isaN (mo : Mo) (t : Tgt) (n : String) : Option Bool := match t with | .ty T => kitB n T | .own x => mo.isN n x
def isiM (mo : Mo) (hot : Bool) (t : Tgt) : W → M W := fun w h => match w with
  | .exn c fs => if hot && fs.isEmpty then mOf ((isaX mo t c).map fun b => .d (.bl b)) h else none
  | w => (match clsOf h w with
    | some c => if (mo.cls c).isSome then mOf ((isaOf mo t c).map fun b => .d (.bl b)) h else none
    | none => (match tyN h w with
      | some n => mOf ((isaN mo t n).map fun b => .d (.bl b)) h
      | none => none))
inductive TgtV (X : Cx) (mo : Mo) : Tgt → V → Value → Prop where
  | ty (T : String) : TgtV X mo (.ty T) (.ty T) (.type T)
  | own {x : Str} {D : Addr} (h : X.mg x = some (.ref D)) : TgtV X mo (.own x) (.ref D) (.ref D)
section
variable {X : Cx} {Γ : SE} {Wx : WX} {k : Nat}
theorem TgtV.one {t : Tgt} {cv : V} {cu : Value} (T : TgtV X Γ.mo t cv cu) : ∀ u, RelV cv u → u = cu := by
  cases T with
  | ty T => exact fun u r => r
  | own h => exact fun u r => r
theorem TgtV.cls {t : Tgt} {cv : V} {cu : Value} (T : TgtV X Γ.mo t cv cu) : ClsV cv cu := by
  cases T with
  | ty T => exact .ty T
  | own h => exact .own _
theorem isi_ok (S : Sx X Γ Wx k) {t : Tgt} {cv : V} {cu : Value} (T : TgtV X Γ.mo t cv cu) {pins : List (Addr × Obj)} {s : Shared} {σ : L2.St} {H : Hp} {Q : VK} {v : V} {u1 u2 : Value} (I : Inv X pins σ H s) (r1 : RelV v u1) (r2 : RelV cv u2) (q : UnAt X Wx σ (isiM Γ.mo Γ.hot t) Q v H) :
    wpAny (model X.prog X.w) X.A (call (.builtin "isinstance") [u1, u2]) (EP X pins σ Q) X.xe s := by
  obtain ⟨G, μ, h, w, rh, rw_, k1⟩ := q
  unfold isiM at k1
  split at k1
  · rename_i c fs
    split at k1
    · rename_i hh
      rw [Bool.and_eq_true] at hh
      obtain ⟨rfl, X0, a, oe, pn, rfl, hf⟩ := S.hot hh.1
      have hfs : fs = [] := by simpa using hh.2
      subst hfs
      refine callx_exn (X := X0) (isa := isaX Γ.mo t) T.one (fun c C b gC hb => ?_) hf I rh rw_ r1 r2 k1
      have gC : (L2.Cx.suite X0 a ((a, oe) :: pn)).mg c = some (.ref C) := gC
      unfold isaX at hb
      split at hb
      · rename_i hs
        obtain ⟨o, ho⟩ := Option.isSome_iff_exists.mp hs
        obtain ⟨C', gC', _, _, h2, _⟩ := S.mo.exc c o ho
        rw [gC] at gC'
        cases gC'
        refine ⟨h2, ?_⟩
        cases T with
        | ty n => exact S.mo.isT c n b C hb gC
        | own hx => exact S.mo.isO c _ b C _ hb gC hx
      · cases hb
    · exact (ret_bad k1).elim
  · cases e : clsOf h w with
    | some c =>
      rw [e] at k1
      dsimp only at k1
      split at k1
      · rename_i hs
        obtain ⟨ci, ec⟩ := Option.isSome_iff_exists.mp hs
        obtain ⟨C, F⟩ := S.mo.cls c ci ec
        obtain ⟨z, ez, k2⟩ := k1.of rh
        obtain ⟨a, dx, vs, rfl, hsl⟩ := ob_at (mg := X.mgx) F.at_ rh rw_ (clsOf_ob e)
        cases qb : isaOf Γ.mo t c with
        | none => rw [qb] at ez; cases ez
        | some b =>
          rw [qb] at ez
          cases ez
          refine SlX.call_isiSl cu pins s σ H [.ref a, cv] [u1, u2] Q I (.cons r1 (.cons r2 .nil)) ⟨a, C, dx, vs, cv, b, rfl, by rw [← T.one u2 r2]; exact r2, T.one, hsl, F.scls, F.isi, ?_, k2 _ (.bl b)⟩
          cases T with
          | ty n => exact S.mo.isT c n b C qb F.at_
          | own hx => exact S.mo.isO c _ b C _ qb F.at_ hx
      · exact (ret_bad k1).elim
    | none =>
      rw [e] at k1
      dsimp only at k1
      cases en : tyN h w with
      | none => rw [en] at k1; exact (ret_bad k1).elim
      | some n =>
        rw [en] at k1
        dsimp only at k1
        obtain ⟨z, ez, k2⟩ := k1.of rh
        cases qb : isaN Γ.mo t n with
        | none => rw [qb] at ez; cases ez
        | some b =>
          rw [qb] at ez
          cases ez
          refine call_isi pins s σ H [v, cv] [u1, u2] Q I (.cons r1 (.cons r2 .nil)) ⟨v, cv, .type n, cu, b, rfl, T.cls, tyN_at rh rw_ en, ?_, k2 _ (.bl b)⟩
          cases T with
          | ty T => exact kit_ty qb
          | own hx => exact S.mo.isN n _ b _ qb hx
def tgtOf (Γ : SE) (x : Str) : Option Tgt := if isRes x then none else if isGlb (Γ.names.lookup x) then
    (if Γ.mo.free x then (match bootBuiltins x with | some (.type T) => some (.ty T) | _ => none)
     else if (Γ.mo.cls x).isSome || (Γ.mo.exc x).isSome then some (.own x) else none) else none
theorem tgtOf_ok (S : Sx X Γ Wx k) {x : Str} {t : Tgt} (e : tgtOf Γ x = some t) {p : Pos} : ∃ cv cu, TgtV X Γ.mo t cv cu ∧ PE X (.Name x p) (tC cv) := by
  unfold tgtOf at e
  split at e
  · cases e
  · rename_i hr
    obtain ⟨h1, h2, h3⟩ := res_no (by simpa using hr)
    split at e
    · rename_i hg
      split at e
      · rename_i hf
        obtain ⟨m1, m2⟩ := S.mo.free x hf
        split at e
        · rename_i T eT
          cases e
          exact ⟨.ty T, .type T, .ty T, pe_bltn (S.glb hg) m1 eT (v := .ty T) rfl h3 h1⟩
        · cases e
      · split at e
        · rename_i hc
          cases e
          obtain ⟨D, hD⟩ := S.mo.own x (by
            rw [Bool.or_eq_true] at hc
            rcases hc with hc | hc
            · exact .inl (Option.isSome_iff_exists.mp hc)
            · exact .inr (Option.isSome_iff_exists.mp hc))
          exact ⟨.ref D, .ref D, .own hD, pe_glob (S.glb hg) hD rfl h1⟩
        · cases e
    · cases e
theorem pm_isiX (S : Sx X Γ Wx k) {e : Expr} {me : ME} {x : Str} {t : Tgt} {p p2 pos : Pos} (he : PM Wx X e me) (et : tgtOf Γ x = some t) (hg : Gl X "isinstance") (hm : X.mg "isinstance" = none) (hs : noStar [e] = true) :
    PM Wx X (.Call (.Name "isinstance" p) [e, .Name x p2] [] pos) (mUn (isiM Γ.mo Γ.hot t) me) := by
  obtain ⟨cv, cu, T, hx⟩ := tgtOf_ok S et (p := p2)
  have hs1 : starEach [e, .Name x p2] X.env = (false, eval e X.env) :: starEach [.Name x p2] X.env := by
    refine star_no fun a q z => ?_
    subst z
    cases hs
  refine ⟨fun pins s σ H Q I h => ?_⟩
  refine wpAny_Call_Name_kw (ld_blt I hg hm (show bootBuiltins "isinstance" = some (.builtin "isinstance") by decide +kernel) ?_ (by decide) (by decide))
  refine PyProof.Rows.callWith_builtin1 (thn ((pa_cons he (pa_cons hx pa_nil rfl) hs1).run pos pins s σ H (fun vs H1 => ∃ v, vs = [v, cv] ∧ UnAt X Wx σ (isiM Γ.mo Γ.hot t) Q v H1) I ?_) fun us s1 ⟨vs, H1, I1, r1, v, ev, q⟩ => ?_) hs1 rfl
  · obtain ⟨G, μ, σA, h, rs, rh, k⟩ := t_un h
    exact ⟨G, μ, σA, h, rs, rh, k.imp fun w G1 μ1 h1 H1 s1 rh1 k1 v rv => ⟨v, rfl, k1 v rv⟩⟩
  · subst ev
    obtain ⟨u1, u2, rfl, ru1, ru2⟩ := r1.two
    exact isi_ok S T I1 ru1 ru2 q
end
end PM

end
section
set_option Elab.async false
set_option linter.all false
set_option maxRecDepth 100000
set_option maxHeartbeats 4000000
namespace PM
open PySem PySem.Spec PyProof.Rows L2 N1
open Evl (Ex)
def MtX (X : Cx) (Wx : WX) (id : String) (g : W → List W → M W) : Prop := ∀ (pins : List (Addr × Obj)) (s : Shared) (σ : L2.St) (H G : Hp) (μ : Mu) (h : AHp) (x : W) (ws : List W) (xv : V) (vs : List V) (v : Value) (us : List Value) (Q : VK),
  Inv X pins σ H s → RelH X.K X.mgx G μ h H → RepW X.K X.mgx G μ x xv → RepWs X.K X.mgx G μ ws vs → RelV xv v → Vals vs us →
  Ret X.K X.mgx G μ H (g x ws h) (PostW X.K X.mgx Q) (fun cls d H' => Wx cls d σ H') → wpAny (model X.prog X.w) X.A (call (.builtin id) (v :: us)) (EP X pins σ Q) X.xe s
section
variable {X : Cx} {Γ : SE} {Wx : WX} {k : Nat}
theorem MtX.of {id : String} {r : V → List V → Hp → VK → Prop} {g : W → List W → M W} (ho : MtR X id r) (om : MethM X.K X.mgx r g) : MtX X Wx id g := fun pins s σ H G μ h x ws xv vs v us Q I rh r1 r2 rx ry k => ho pins s σ H xv vs v us Q I rx ry (om G μ h H x ws xv vs Q _ rh r1 r2 k)
structure Bm where
  id : String
  g : W → List W → M W
def fExt : W → List W → M W := fun w ws h => match w, ws with
  | .ref a, [x] => (match h[a]?, seqOf h x with
    | some (.lst xs), some ys => if xs.length + ys.length ≤ sizeLine && !(match x with | .ref b => b == a | _ => false) then some (.ok (.d .non), h.set a (.lst (xs ++ ys))) else none
    | _, _ => none)
  | _, _ => none
def fClear : W → List W → M W := fun w ws h => match w, ws with
  | .ref a, [] => (match h[a]? with
    | some (.lst xs) => some (.ok (.d .non), h.set a (.lst []))
    | _ => none)
  | _, _ => none
def unS : List W → Option (List Str)
  | [] => some []
  | .d (.str x) :: r => (unS r).map (x :: ·)
  | _ => none
def cntS (k : Str) (ys : List Str) : Nat := ys.countP fun y => y == k
def fCnt : W → List W → M W := fun w ws h => match lstOf h w, ws with
  | some xs, [.d (.str k)] => (match unS xs with
    | some ys => some (.ok (.d (.int (cntS k ys : Nat))), h)
    | none => none)
  | _, _ => none
theorem unS_at {K : PySem.W.Frag} {mg : MgX} {G : Hp} {μ : Mu} : ∀ {ws : List W} {vs : List V} {ys : List Str}, RepWs K mg G μ ws vs → unS ws = some ys → vs = ys.map V.str
  | [], _, _, .nil, e => by cases e; rfl
  | w :: ws, _, ys, .cons r rs, e => by
    unfold unS at e
    split at e
    · rename_i heq; cases heq
    · rename_i x r' heq
      cases heq
      cases q : unS ws with
      | none => rw [q] at e; cases e
      | some zs =>
        rw [q] at e
        cases e
        cases r
        rw [unS_at rs q]
        rfl
    · cases e
def rCntS (K : PySem.W.Frag) : V → List V → Hp → VK → Prop := fun x xs H Q => ∃ (p : Addr) (ys : List Str) (k : Str), x = .ref p ∧ xs = [.str k] ∧ SqL K H p (ys.map V.str) ∧ Q (.int (cntS k ys : Nat)) H
theorem cntS_at {k : Str} : ∀ {us : List Value} {ys : List Str}, StrsAre us ys → us.countP (isStrOf k) = cntS k ys
  | _, _, .nil => rfl
  | _, _, .cons n t h => by
    have ih := cntS_at (k := k) h
    unfold cntS at ih ⊢
    rw [List.countP_cons, List.countP_cons, ih]
    rfl
theorem mt_cntS : MtR X "list.count" (rCntS X.K) := by
  intro pins s σ H x xs v us Q I rx rxs h
  obtain ⟨p, ys, k, rfl, rfl, hs, q⟩ := h
  cases rx
  obtain ⟨u, rfl, ru⟩ := rxs.one
  obtain ⟨t, rfl⟩ := ru
  obtain ⟨its, rv, ⟨⟨cls, dd, data, sl⟩, n, ho, hc, hdn, hd⟩, hlen⟩ := I.list hs
  simp only at hc hd
  subst hc hd
  have hi := Vals.strs rv
  refine call_meets PySem.F.slot_list_count ⟨_, ho, rfl⟩ PySem.F.entry_list_count (PySem.F.args_list_count_2 _ _)
    (SeqAt.list_countAt p its.toArray n dd sl (.str k t) (isStrOf k)) ⟨ho, fun y hy => (eq_isStrOf k t hi y (by simpa using hy)).at _ _, ?_⟩
  refine ⟨.int (cntS k ys : Nat), H, I.tok _, ⟨s.toks, ?_⟩, q⟩
  rw [show its.toArray.toList = its from rfl, cntS_at hi]
theorem mm_cntS {K : PySem.W.Frag} {mg : MgX} : MethM K mg (rCntS K) fCnt := fun G μ h H x ws v vs Q EX rh rx rws ⟨r, h', e, k⟩ => by
  unfold fCnt at e
  split at e
  · rename_i xs kk ex rr
    split at e
    · rename_i ys ey
      cases e
      obtain ⟨a, us, rfl, sq, ru⟩ := lst_at rh rx ex
      cases rws with
      | cons r1 r2 =>
        cases r2
        cases r1
        rw [unS_at ru ey] at sq
        exact ⟨a, ys, kk, rfl, rfl, sq, k _ _ _ Step.refl rh _ (.int _)⟩
    · cases e
  · cases e
def listM (m : Str) : Option Bm :=
  if m == ("append" : Str) then some ⟨"list.append", fApp⟩
  else if m == ("count" : Str) then some ⟨"list.count", fCnt⟩
  else none
theorem listM_ok {m : Str} {b : Bm} (e : listM m = some b) : MtX X Wx b.id b.g ∧ Slot "list" m b.id ∧ typeOf (.builtin b.id) = pure (.type "method_descriptor") := by
  unfold listM at e
  repeat' (split at e)
  · rename_i hx
    cases e
    have hb := eq_of_beq hx
    subst hb
    exact ⟨.of (fun pins s σ H x xs v us Q I rx rs h => mt_append pins s σ H x xs v us Q I rx rs h) mm_app, PySem.F.slot_list_append, PySem.F.type_list_append⟩
  · rename_i _ hx
    cases e
    have hb := eq_of_beq hx
    subst hb
    exact ⟨.of mt_cntS mm_cntS, PySem.F.slot_list_count, PySem.F.type_list_count⟩
  · cases e
theorem ta_nil {K : PySem.W.Frag} {mg : MgX} {σ : L2.St} {H : Hp} {R : List V → Hp → Prop} (q : tA K mg Wx mNil σ H R) : R [] H := by
  obtain ⟨G, μ, σA, h, rs, rh, k⟩ := q
  exact Ret.pure k rh [] .nil
def mMth (Γ : SE) (m : Str) (n : Nat) (mo : ME) (ma : MA) : ME := fun σ => mBind (mo σ) fun w h => match clsOf h w with
  | some c => if Γ.hot then none else (match methOf Γ.mo c m n with
    | some mf => mBind (ma σ) (fun ws => mLen n mf (w :: ws)) h
    | none => none)
  | none => if (lstOf h w).isSome then (match listM m with
      | some b => mBind (ma σ) (fun ws => b.g w ws) h
      | none => none) else none
theorem few_ok {pos : Pos} {es : List Expr} {env : Env} (hs : noStar es = true) (hl : es.length < 30) : methodCallForm (es.length + ([] : List Keyword).length) (backTo pos (starEach es env)) (backToKw pos (keywordEach [] env)) = true := by
  have h1 : (backTo pos (starEach es env)).all (fun x => !x.1) = true := by
    have h := noStar_at (env := env) hs
    rw [← back_any pos] at h
    rw [List.all_eq_not_any_not]
    simpa using h
  unfold methodCallForm
  rw [h1]
  have h2 : (backToKw pos (keywordEach [] env)) = [] := rfl
  rw [h2]
  simp
  exact hl
theorem mMth_ok (S : Sx X Γ Wx k) {o : Expr} {m : Str} {n : Nat} {es : List Expr} {mo : ME} {ma : MA} {apos pos : Pos} (ho : PM Wx X o mo) (ha : PMA Wx X es ma) (hn : es = [] → ma = mNil) (hb : okBase o = true) (hline : (apos.endLine == pos.line) = true) (hs : noStar es = true) (hl : es.length < 30) :
    PM Wx X (.Call (.Attribute o m apos) es [] pos) (mMth Γ m n mo ma) := by
  refine ⟨fun pins s σ H Q I h => ?_⟩
  rw [eval_meth hline (few_ok hs hl), base_ok hb]
  obtain ⟨G, μ, σA, h, rs, rh, k0⟩ := h
  refine wpAny_bind (thn (ho.run pins s σ H (fun x H1 => ∃ G μ h w, RelS X.K X.mgx G μ σA σ ∧ RelH X.K X.mgx G μ h H1 ∧ RepW X.K X.mgx G μ w x ∧ Ret X.K X.mgx G μ H1 (match clsOf h w with
    | some c => if Γ.hot then none else (match methOf Γ.mo c m n with
      | some mf => mBind (ma σA) (fun ws => mLen n mf (w :: ws)) h
      | none => none)
    | none => if (lstOf h w).isSome then (match listM m with
        | some b => mBind (ma σA) (fun ws => b.g w ws) h
        | none => none) else none) (PostW X.K X.mgx Q) (fun cls d H' => Wx cls d σ H')) I ⟨G, μ, σA, h, rs, rh, k0.bind.imp fun w G1 μ1 h1 H1 s1 rh1 k1 v rv => ⟨G1, μ1, h1, w, rs.mono s1, rh1, rv, k1⟩⟩) fun ov s1 ⟨x, H1, I1, rx, G1, μ1, h1, w, rs1, rh1, rv, k1⟩ => ?_)
  refine wpAny_bind (wpAny_standAt (wpAny_bind (wpAny_holding ?_)))
  cases e : clsOf h1 w with
  | some c =>
    rw [e] at k1
    dsimp only at k1
    split at k1
    · exact (ret_bad k1).elim
    · rename_i hh
      obtain ⟨hc, hr, _⟩ := S.calm (by simpa using hh)
      cases em : methOf Γ.mo c m n with
      | none => rw [em] at k1; exact (ret_bad k1).elim
      | some mf =>
        rw [em] at k1
        dsimp only at k1
        obtain ⟨C, g, ci, ec, F, O, _, hk⟩ := S.own em
        obtain ⟨a, dx, vs, rfl, hsl⟩ := ob_at (mg := X.mgx) F.at_ rh1 rv (clsOf_ob e)
        cases (show ov = Value.ref a from rx)
        refine SlX.getmethsl_ok I1 hsl F.scls ⟨O.find, O.fn, hk⟩ ?_
        have tq : tA X.K X.mgx Wx ma σ H1 (fun us H2 => ∃ G μ h ws, RelH X.K X.mgx G μ h H2 ∧ RepW X.K X.mgx G μ w (.ref a) ∧ RepWs X.K X.mgx G μ ws us ∧ Ret X.K X.mgx G μ H2 (mLen n mf (w :: ws) h) (PostW X.K X.mgx Q) (fun cls d H' => Wx cls d σ H')) :=
          ⟨G1, μ1, σA, h1, rs1, rh1, (Ret.bind k1).imp fun ws G2 μ2 h2 H2 s2 rh2 k2 us rus => ⟨G2, μ2, h2, ws, rh2, rv.mono s2, rus, k2⟩⟩
        show wpAny _ _ (callWith pos (.ref g) [.ref a] (backTo pos (starEach es X.env)) []) _ _ _
        cases es with
        | nil =>
          rw [hn rfl] at tq
          obtain ⟨G2, μ2, h2, ws, rh2, rv2, rws, k2⟩ := ta_nil tq
          cases rws
          exact PySem.W.callWith_K0 (first := [.ref a]) I1.kIn hk (run_X O.run (hr.mono (by omega)) I1.env0 hc S.tk I1 rh2 (.cons rv2 .nil) (.cons rfl .nil) k2)
        | cons e' es' =>
          obtain ⟨s1', s2'⟩ := noStar_cons (env := X.env) hs
          refine PySem.W.callWith_K (first := [.ref a]) (h₀ := X.base) I.ok.mod.kin hk (thn (ha.run pos pins s1 σ H1 _ I1 tq) fun us s2 ⟨vs', H2, I2, r2, G2, μ2, h2, ws, rh2, rv2, rws, k2⟩ => ⟨I2.kIn, ?_⟩) s1' (by rw [back_any]; exact noStar_at s2')
          exact run_X O.run (hr.mono (by omega)) I2.env0 hc S.tk I2 rh2 (.cons rv2 rws) (.cons rfl r2) k2
  | none =>
    rw [e] at k1
    dsimp only at k1
    split at k1
    · rename_i hls
      obtain ⟨ys, ey⟩ := Option.isSome_iff_exists.mp hls
      obtain ⟨a, vs, rfl, sq, _⟩ := lst_at rh1 rv ey
      cases eb : listM m with
      | none => rw [eb] at k1; exact (ret_bad k1).elim
      | some b =>
        rw [eb] at k1
        dsimp only at k1
        obtain ⟨m1, m2, m3⟩ := listM_ok (X := X) (Wx := Wx) eb
        obtain ⟨t1, t2⟩ := tyV_is I1 rx (T := "list") (.inl ⟨rfl, _, sq⟩)
        refine getMethod_builtin t1 PySem.F.plainAttrs_list m2 m3 t2 ?_
        have tq : tA X.K X.mgx Wx ma σ H1 (fun us H2 => ∃ G μ h ws, RelH X.K X.mgx G μ h H2 ∧ RepW X.K X.mgx G μ w (.ref a) ∧ RepWs X.K X.mgx G μ ws us ∧ Ret X.K X.mgx G μ H2 (b.g w ws h) (PostW X.K X.mgx Q) (fun cls d H' => Wx cls d σ H')) :=
          ⟨G1, μ1, σA, h1, rs1, rh1, (Ret.bind k1).imp fun ws G2 μ2 h2 H2 s2 rh2 k2 us rus => ⟨G2, μ2, h2, ws, rh2, rv.mono s2, rus, k2⟩⟩
        show wpAny _ _ (callWith pos (.builtin b.id) [ov] (backTo pos (starEach es X.env)) []) _ _ _
        cases es with
        | nil =>
          rw [hn rfl] at tq
          obtain ⟨G2, μ2, h2, ws, rh2, rv2, rws, k2⟩ := ta_nil tq
          exact Calls.callWith_builtin rfl (PySem.evalArgs_none (m1 pins s1 σ H1 G2 μ2 h2 w ws (.ref a) [] ov [] Q I1 rh2 rv2 rws rx .nil k2))
        | cons e' es' =>
          obtain ⟨s1', s2'⟩ := noStar_cons (env := X.env) hs
          have hA := ha.run pos pins s1 σ H1 _ I1 tq
          rw [s1'] at hA ⊢
          refine Calls.callWith_builtin (by show (false || (backTo pos (starEach es' X.env)).any (·.1)) = false; rw [back_any, noStar_at s2'] <;> rfl) (Calls.evalArgs_plain ?_)
          exact thn hA fun us s2 ⟨vs', H2, I2, r2, G2, μ2, h2, ws, rh2, rv2, rws, k2⟩ => m1 pins s2 σ H2 G2 μ2 h2 w ws (.ref a) vs' ov us Q I2 rh2 rv2 rws rx r2 k2
    · exact (ret_bad k1).elim
end
end PM

end
section
set_option Elab.async false
set_option linter.all false
set_option maxRecDepth 100000
set_option maxHeartbeats 4000000
namespace PM
open PySem PySem.Spec PyProof.Rows L2 N1
open Evl (Ex)
section
variable {X : Cx} {Γ : SE} {Wx : WX} {k : Nat}
def rgD (a b : Int) : List D := (List.range (b - a).toNat).map fun i => D.int (a + (i : Nat))
def rgOk (a b : Int) : Bool := decide (-(2 ^ 62) ≤ a) && decide (a < 2 ^ 62) && decide (-(2 ^ 62) ≤ b) && decide (b < 2 ^ 62) && decide ((b - a).toNat ≤ 2 ^ 24)
theorem rgOk_ok {a b : Int} (h : rgOk a b = true) : RgOk a b := by
  unfold rgOk at h
  simp only [Bool.and_eq_true, decide_eq_true_eq] at h
  exact ⟨h.1.1.1.1, h.1.1.1.2, h.1.1.2, h.1.2, h.2⟩
theorem repl_rg {K : PySem.W.Frag} {mg : MgW} {G : Hp} {a b : Int} : RepL K mg G (rgD a b) (rgV a b) := by
  unfold rgD rgV
  generalize List.range (b - a).toNat = l
  induction l with
  | nil => exact .nil
  | cons c l ih => exact .cons (.int _) ih
def mLstRg1 (me : ME) : ME := fun σ => mBind (me σ) fun w => mOf (match w with
  | .d (.int n) => if rgOk 0 n then some (.d (.lst (rgD 0 n))) else none
  | _ => none)
theorem pm_lstRg1 {a : Expr} {me : ME} {p q pos pos2 : Pos} (hc : X.calm = true) (hg : Gl X "list") (hm : X.mg "list" = none) (hg2 : Gl X "range") (hm2 : X.mg "range" = none) (ha : PM Wx X a me) (hs : noStar [a] = true) :
    PM Wx X (.Call (.Name "list" p) [.Call (.Name "range" q) [a] [] pos2] [] pos) (mLstRg1 me) := by
  have hs1 := (noStar_cons (env := X.env) hs).1
  refine pe_imp (pe_listRg hc hg hm (prg_1 hg2 hm2 ha hs1)) fun σ H Q ⟨G, μ, σA, h, rs, rh, k⟩ => ?_
  refine ⟨G, μ, σA, h, rs, rh, k.bind.imp fun w G1 μ1 h1 H1 s1 rh1 k1 v rv => ?_⟩
  have k2 := k1
  obtain ⟨z, e, _⟩ := k1.of rh1
  split at e
  · rename_i n
    split at e
    · rename_i c
      cases rv
      refine ⟨n, rfl, rgOk_ok c, ?_⟩
      simp only [mOf, if_pos c] at k2
      exact Ret.lst (h := h1) k2 rh1 repl_rg
    · cases e
  · cases e
def mLstRgR (me : ME) : ME := fun σ => mBind (me σ) fun w h => match w with
  | .d (.int n) => if rgOk 0 n then some (.ok (.ref h.length), h ++ [.lst ((rgD 0 n).map .d)]) else none
  | _ => none
theorem pm_lstRgR {a : Expr} {me : ME} {p q pos pos2 : Pos} (hc : X.calm = true) (hg : Gl X "list") (hm : X.mg "list" = none) (hg2 : Gl X "range") (hm2 : X.mg "range" = none) (ha : PM Wx X a me) (hs : noStar [a] = true) :
    PM Wx X (.Call (.Name "list" p) [.Call (.Name "range" q) [a] [] pos2] [] pos) (mLstRgR me) := by
  have hs1 := (noStar_cons (env := X.env) hs).1
  refine pe_imp (pe_listRg hc hg hm (prg_1 hg2 hm2 ha hs1)) fun σ H Q ⟨G, μ, σA, h, rs, rh, k⟩ => ?_
  refine ⟨G, μ, σA, h, rs, rh, k.bind.imp fun w G1 μ1 h1 H1 s1 rh1 k1 v rv => ?_⟩
  obtain ⟨z, h', e, k2⟩ := k1
  split at e
  · rename_i n
    split at e
    · rename_i c
      cases e
      cases rv
      refine ⟨n, rfl, rgOk_ok c, fun l hl => ?_⟩
      obtain ⟨n1, n2⟩ := rh1.newRef hl (repWs_of (repl_rg (K := X.K) (mg := X.mgx.f) (G := G1) (a := 0) (b := n)))
      refine k2 _ _ _ n2 n1 _ ⟨(l, l), ?_, rfl⟩
      rw [← rh1.len, List.getElem?_append_right (Nat.le_refl _)]
      simp
    · cases e
  · cases e
def evCall (r : Ev) (Γ : SE) (f : Expr) (es : List Expr) (kws : List Keyword) (pos : Pos) : ME :=
  if !kws.isEmpty || !noStar es then mBad else match f with
  | .Name x _ => if isRes x || !isGlb (Γ.names.lookup x) then mBad else
      if Γ.mo.free x then
        (if x == ("isinstance" : Str) then (match es with
          | [e, .Name y _] => (match tgtOf Γ y with
            | some t => mUn (isiM Γ.mo Γ.hot t) (r.e Γ e)
            | none => mBad)
          | _ => mBad)
        else match es with
          | [.Call (.Name y _) [a] [] _] => if x == ("list" : Str) && y == ("range" : Str) && Γ.mo.free y && isGlb (Γ.names.lookup y) && noStar [a] && !Γ.hot then mLstRg1 (r.e Γ a)
            else (match biN Γ x with
              | some (.fn _ g) => mCB g (evA r Γ es)
              | some (.ty _ g) => mCB g (evA r Γ es)
              | none => mBad)
          | _ :: _ => (match biN Γ x with
              | some (.fn _ g) => mCB g (evA r Γ es)
              | some (.ty _ g) => mCB g (evA r Γ es)
              | none => mBad)
          | [] => mBad)
      else if Γ.hot then mBad else (match Γ.mo.fn x es.length with
        | some mf => (match es with
          | [] => fun _ => mLen 0 mf []
          | _ :: _ => mCB (mLen es.length mf) (evAF r Γ es))
        | none => (match Γ.mo.cls x with
          | some ci => (match ci.init (es.length + 1), es with
            | some mf, _ :: _ => mMake x (es.length + 1) mf (evAF r Γ es)
            | _, _ => mBad)
          | none => mBad))
  | .Attribute o m apos => if okBase o && apos.endLine == pos.line && decide (es.length < 30) then mMth Γ m (es.length + 1) (r.e Γ o) (evAF r Γ es) else mBad
  | _ => mBad
theorem bi_ok (S : Sx X Γ Wx k) {r : Ev} (R : EvOk r) {x : Str} {e : Expr} {es : List Expr} {p pos : Pos} (hg : Gl X x) (hf : Γ.mo.free x = true) (hs : noStar (e :: es) = true) (hdb : (x == ("__debug__" : Str)) = false) :
    PM Wx X (.Call (.Name x p) (e :: es) [] pos) (match biN Γ x with
      | some (.fn _ g) => mCB g (evA r Γ (e :: es))
      | some (.ty _ g) => mCB g (evA r Γ (e :: es))
      | none => mBad) := by
  obtain ⟨m1, m2⟩ := S.mo.free x hf
  split
  · rename_i id g eb
    obtain ⟨h1, h2⟩ := biN_ok S eb
    exact pm_callBX h1 hg m1 h2 m2 hdb (evA_ok R S _) hs
  · rename_i T g eb
    obtain ⟨h1, h2⟩ := biN_ok S eb
    exact pm_callTX h1 hg m1 h2 m2 hdb (evA_ok R S _) hs
  · exact pm_bad
theorem evCall_ok {r : Ev} (R : EvOk r) (S : Sx X Γ Wx k) {f : Expr} {es : List Expr} {kws : List Keyword} {pos : Pos} : PM Wx X (.Call f es kws pos) (evCall r Γ f es kws pos) := by
  unfold evCall
  split
  · exact pm_bad
  · rename_i hk
    rw [Bool.or_eq_true] at hk
    have hk1 : kws = [] := by
      cases kws with
      | nil => rfl
      | cons a b => exact absurd (.inl rfl) hk
    have hs : noStar es = true := by
      cases q : noStar es with
      | true => rfl
      | false => rw [q] at hk; exact absurd (.inr rfl) hk
    subst hk1
    split
    · rename_i x p
      split
      · exact pm_bad
      · rename_i hx
        rw [Bool.or_eq_true] at hx
        have hr : isRes x = false := by
          cases q : isRes x with
          | false => rfl
          | true => rw [q] at hx; exact absurd (.inl rfl) hx
        have hgl : isGlb (Γ.names.lookup x) = true := by
          cases q : isGlb (Γ.names.lookup x) with
          | true => rfl
          | false => rw [q] at hx; exact absurd (.inr rfl) hx
        obtain ⟨d1, d2, d3⟩ := res_no hr
        have hg := S.glb hgl
        split
        · rename_i hf
          split
          · rename_i hi
            have hxi := eq_of_beq hi
            subst hxi
            split
            · rename_i e y p2
              split
              · rename_i t et
                refine pm_isiX S (R.e S e) et hg (S.mo.free _ hf).1 ?_
                have := hs
                unfold noStar at this ⊢
                split at this <;> first | (rename_i heq; cases heq; done) | (cases this; done) | skip
                rename_i h1 h2
                cases h2
                split
                · rename_i heq; cases heq
                · rename_i heq; cases heq; exact absurd rfl (h1 _ _)
                · rename_i heq; cases heq; rfl
              · exact pm_bad
            · exact pm_bad
          · split
            · rename_i y p2 a p3
              split
              · rename_i hc
                simp only [Bool.and_eq_true] at hc
                obtain ⟨⟨⟨⟨⟨c1, c2⟩, c3⟩, c4⟩, c5⟩, c6⟩ := hc
                have e1 := eq_of_beq c1
                have e2 := eq_of_beq c2
                subst e1 e2
                exact pm_lstRg1 (S.calm (by simpa using c6)).1 hg (S.mo.free _ hf).1 (S.glb c4) (S.mo.free _ c3).1 (R.e S a) c5
              · exact bi_ok S R hg hf hs d1
            · exact bi_ok S R hg hf hs d1
            · exact pm_bad
        · split
          · exact pm_bad
          · rename_i hh
            obtain ⟨hc, hrm, _⟩ := S.calm (by simpa using hh)
            split
            · rename_i mf ef
              obtain ⟨fa, g1, g2, g3⟩ := S.mo.fn x _ mf ef
              split
              · exact pm_fnX0 g3 (hrm.mono (by omega)) hc hg g1 g2 S.tk d1
              · exact pm_fnX g3 (hrm.mono (by omega)) hc hg g1 g2 S.tk d1 (evAF_ok R S _) hs
            · split
              · rename_i ci ec
                split
                · rename_i q0 mf e' es' ei
                  obtain ⟨C, F⟩ := S.mo.cls x ci ec
                  obtain ⟨g, m1, m2⟩ := F.init _ _ ei
                  obtain ⟨h1, h2⟩ := noStar_cons (env := X.env) hs
                  exact pm_make hc m1 m2 (hrm.mono (by omega)) hg F.at_ S.tk (evAF_ok R S _) d1 h1 (by rw [back_any]; exact noStar_at h2)
                · exact pm_bad
              · exact pm_bad
    · rename_i o m apos
      split
      · rename_i hc
        simp only [Bool.and_eq_true, decide_eq_true_eq] at hc
        exact mMth_ok S (R.e S o) (evAF_ok R S _) (fun h => by subst h; rfl) hc.1.1 hc.1.2 hs hc.2
      · exact pm_bad
    · exact pm_bad
end
end PM

end
section
set_option Elab.async false
set_option linter.all false
set_option maxRecDepth 100000
set_option maxHeartbeats 4000000
namespace PySem
open Sem (wp)
open AutoSeq1 (wpAny_loadPart')
theorem pmMeetsEnumT (l : Addr) (items : Array Value) (n : Nat) (dct : Option Addr) (sl : Array (Option Value)) :
    Meets (Builtin.«enumerate.__new__» ⟨[.type "enumerate", .ref l], []⟩) (fun _ R s => s.heap.get? l = some { cls := .type "tuple", dict := dct, data := .seq items n, slots := sl } ∧
      R (.ok (.ret (.ref (s.heap.push { cls := .type "tuple_iterator", data := .fields #[.ref l, .int 0 0] }).objs.size)))
        { s with heap := (s.heap.push { cls := .type "tuple_iterator", data := .fields #[.ref l, .int 0 0] }).push { cls := .type "enumerate", data := .fields #[.none, .bool false, .ref s.heap.objs.size, rawInt 0, .none, .none] } }) :=
  .of_wp fun prog w A R s h => by
    obtain ⟨hp, g, d, tk, os⟩ := s
    obtain ⟨hl, h⟩ := h
    have hsub := sub_enumerate
    have hT : Heap.IsTuple (Shared.heap ⟨hp, g, d, tk, os⟩) l items := ⟨_, hl, rfl, n, rfl⟩
    wp_walk using wpAny_loadPart' hl
    refine wpAny_stack_any fun st => wpAny_pure ?_
    split
    · rename_i c _ _ _ _ _
      cases (c == Value.type "enumerate")
      · wp_walk using wpAny_loadPart' hl, wpAny_pyIter_tuple hT
        exact ⟨_, rfl, h⟩
      · wp_walk using wpAny_loadPart' hl, wpAny_pyIter_tuple hT
        exact ⟨_, rfl, h⟩
    · wp_walk using wpAny_loadPart' hl, wpAny_pyIter_tuple hT
      exact ⟨_, rfl, h⟩
section
variable {prog : Program} {w : World} {A : Around} {E : Value → Shared → Prop} {s : Shared}
theorem pmCallEnumT {l : Addr} {items : Array Value} {Q : Value → Shared → Prop} (hL : s.heap.IsTuple l items)
    (h : ∀ h', IsEnum h' (s.heap.objs.size + 1) s.heap.objs.size 0 .none → h'.IsTupleIter s.heap.objs.size l 0 → h'.objs.size = s.heap.objs.size + 2 →
      (∀ b o, s.heap.get? b = some o → h'.get? b = some o) → Q (.ref (s.heap.objs.size + 1)) { s with heap := h' }) :
    wpAny (model prog w) A (call (.type "enumerate") [.ref l]) Q E s := by
  obtain ⟨⟨c, dct, dt, sl⟩, hl, hc, n, hd⟩ := hL
  replace hc : c = .type "tuple" := hc
  replace hd : dt = .seq items n := hd
  subst hc hd
  refine callType_new F.called_enumerate (by decide) (F.typeCall_enumerate_1 _) (F.newCall_enumerate_1 _) (fun obj => F.args_object_init_2 obj _) F.entry_enumerate_new
    (pmMeetsEnumT l items n dct sl) ⟨hl, ?_⟩
  have hz : (s.heap.push { cls := .type "tuple_iterator", data := .fields #[.ref l, .int 0 0] }).objs.size = s.heap.objs.size + 1 := Heap.size_push ..
  show _ ∧ _
  rw [hz]
  have he : IsEnum ((s.heap.push { cls := .type "tuple_iterator", data := .fields #[.ref l, .int 0 0] }).push
      { cls := .type "enumerate", data := .fields #[.none, .bool false, .ref s.heap.objs.size, rawInt 0, .none, .none] }) (s.heap.objs.size + 1) s.heap.objs.size 0 .none := by
    have := Heap.get?_push_size (s.heap.push { cls := .type "tuple_iterator", data := .fields #[.ref l, .int 0 0] })
      (o := { cls := .type "enumerate", data := .fields #[.none, .bool false, .ref s.heap.objs.size, rawInt 0, .none, .none] }) rfl
    rw [hz] at this
    exact this
  refine ⟨⟨_, he, rfl⟩, h _ he ⟨_, Heap.get?_push_of_some _ (Heap.get?_push_size _ rfl), rfl, rfl⟩ (by rw [Heap.size_push, hz]) fun b o x => Heap.get?_push_of_some _ (Heap.get?_push_of_some _ x)⟩
theorem pmNextEnumEnd {e it l : Addr} {i : Nat} {items : Array Value} {old : Value} {Q : Option Value → Shared → Prop} (hh : A.handled = none) (he : IsEnum s.heap e it i old) (hit : s.heap.IsTupleIter it l i) (hl : s.heap.IsTuple l items) (hx : items[i]? = none)
    (hQ : ∀ h', Heap.ExtBut it s.heap h' → Q none { s with heap := h' }) : wpAny (model prog w) A (pyNext (.ref e)) Q E s := by
  have hT : s.TypeIs (.ref e) "enumerate" := ⟨_, he, rfl⟩
  unfold pyNext
  refine wpAny_bind (wpAny_attempt (wpAny_callSpecial?_slot (name := Str.ofString "__next__") hT F.slot_enumerate_next (wpAny_call_entry F.slot_enumerate_next hT F.entry_enumerate_next ?_ (F.args_enumerate_next_1 _))))
  show wpAny _ _ (field (.ref e) 2 >>= _) _ _ _
  refine wpAny_bind (wpAny_field he rfl (x := .ref it) rfl (wpAny_bind (wpAny_nextOf_tuple_end hh hit hl hx fun h' x he' hx' => ?_)))
  obtain ⟨o, ho, hc⟩ := hx'
  exact wpAny_bind (wpAny_isInstance (T := "StopIteration") (b := true) ⟨o, ho, hc⟩ isSubtype_stop (wpAny_pure (hQ _ he')))
end
end PySem
namespace PM
open PySem PySem.Spec PyProof.Rows L2 N1
open Evl (Ex)
def IteT (K : PySem.W.Frag) (a : Addr) : It :=
  ⟨fun i H => ∃ (xs : List V) (x : V), SqT K H a xs ∧ xs[i]? = some x, fun i H v H' => ∃ T x, v = .ref T ∧ H T = none ∧ H' = upd H T (.tup [.int (i : Nat), x]) ∧ ∀ xs, SqT K H a xs → xs[i]? = some x, fun i H => ∃ xs : List V, SqT K H a xs ∧ xs.length ≤ i⟩
theorem turn_enumT {P : Program} {w : World} {K : PySem.W.Frag} {elts : List Expr} {kk : Nat} {tpos : Pos} (a e it : Addr) (ha : a ≠ it) (hae : a ≠ e) :
    Turn P w K (.Tuple elts kk tpos) (IteT K a) [e, it] e (fun i h => (∃ old, IsEnum h e it ((i : Nat) : Int) old) ∧ h.IsTupleIter it a i ∧ e ≠ it) where
  mem := by simp
  obj := fun i h st b hb => by
    obtain ⟨⟨old, he⟩, ⟨o, ho, hc, hd⟩, _⟩ := st
    have e' : b = e ∨ b = it := by simpa using hb
    rcases e' with z | z
    · rw [z]; exact ⟨_, he, fun v q => nomatch q⟩
    · rw [z]; exact ⟨o, ho, fun v q => by rw [hd] at q; cases q⟩
  keep := fun i h h' st k => let ⟨⟨old, he⟩, hi, hne⟩ := st; ⟨⟨old, k e (by simp) _ he⟩, hi.at fun o q => k it (by simp) o q, hne⟩
  item := by
    intro X hP hw hK hc i pins s σ H E I hf st hg
    subst hP hw hK
    obtain ⟨⟨old, he⟩, hit, hne⟩ := st
    obtain ⟨xs, x, hq, hx⟩ := hg
    obtain ⟨its, rv, p, hz⟩ := I.tuple hq
    obtain ⟨u, hu, ru⟩ := rv.get hx
    have hel : e < s.heap.objs.size := Heap.lt_size he
    have hil : it < s.heap.objs.size := by obtain ⟨_, q, _⟩ := hit; exact Heap.lt_size q
    have hlt : i < its.toArray.size := by have := (List.getElem?_eq_some_iff.mp hu).1; simpa using this
    refine wpAny_pyNext_enum_itemD (Draws.tuple (show X.A.in1.handled = none from I.ok.hd hc) it a ha its.toArray) he ⟨hit, p⟩ hlt hne (by simp [hne, Ne.symm hae]) fun x' h' tk hP ho hs' hT hsz hk => ?_
    have ex : x' = u := by
      have h1 : its.toArray[i]? = some x' := hP
      have h2 : its.toArray[i]? = some u := by simpa using hu
      rw [h2] at h1
      exact (Option.some.inj h1).symm
    subst ex
    refine ⟨_, rfl, wpAny_letOwnedTupleGo_enum (s := { s with heap := h', toks := tk + 1 }) ho fun h'' he' sb => ?_⟩
    have hT2 : h''.get? s.heap.objs.size = some { cls := .type "tuple", data := .seq #[.int i tk, x'] } := (sb.2 _ (Nat.ne_of_gt hel)).trans hT
    have new : ObjOk X.prog X.w (upd H s.heap.objs.size (.tup [.int (i : Nat), x])) h'' s.heap.objs.size (.tup [.int (i : Nat), x]) :=
      ⟨by show 2 ≤ sizeLine; decide, [.int i tk, x'], .cons ⟨_, rfl⟩ (.cons ru .nil), ⟨_, hT2, rfl, _, rfl⟩⟩
    have I1 : Inv X pins σ (upd H s.heap.objs.size (.tup [.int (i : Nat), x])) { s with heap := h'', toks := tk + 1 } :=
      I.turnedNew (ch := [e, it]) (fun b ob hb q => (sb.2 b (fun z => hb (by simp [z]))).trans (hk b ob (fun z => hb (by simp [z])) (fun z => hb (by simp [z])) q)) hf (Nat.le_refl _) new
    refine ⟨.ref s.heap.objs.size, _, I1, rfl, ⟨_, x, rfl, I.hok.fresh (Nat.le_refl _), rfl, fun ys hy => by rw [I.tuple_inj hy hq]; exact hx⟩, ⟨⟨x', ?_⟩, hs'.1.at fun o q => (sb.2 it (Ne.symm hne)).trans q, hne⟩, fun b hb => ?_⟩
    · have e1 : ((i + 1 : Nat) : Int) = (i : Int) + 1 := by omega
      rw [e1]; exact he'
    · have hb' : b < s.heap.objs.size := by
        have e' : b = e ∨ b = it := by simpa using hb
        rcases e' with z | z
        · rw [z]; exact hel
        · rw [z]; exact hil
      rw [upd_ne (Nat.ne_of_lt hb')]
      exact (hf b hb).1
  done := by
    intro X hP hw hK hc i pins s σ H E I hf st hg
    subst hP hw hK
    obtain ⟨⟨old, he⟩, hit, hne⟩ := st
    obtain ⟨xs, hq, hx⟩ := hg
    obtain ⟨its, rv, p, hz⟩ := I.tuple hq
    obtain ⟨f0, f1, f2, f3, f4, f5⟩ := hf it (by simp)
    have hl := rv.length
    exact pmNextEnumEnd (I.ok.hd hc) he hit p (by simp; omega) fun h' eb => ⟨rfl, I.turned (t' := s.toks) (fun b o hb q => eb b o hb q) f0 f1 f3 f4 f5⟩
  self := fun A i s Q E st h => let ⟨⟨_, he⟩, _⟩ := st; wpAny_pyIter_enum he h
def iEnumA (K : PySem.W.Frag) (ta : TA) : TI := fun σ H R => ta σ H fun vs H1 => ∃ a, vs = [.ref a] ∧ ((∃ xs, SqL K H1 a xs ∧ R (Ite K a) H1) ∨ ∃ xs, SqT K H1 a xs ∧ R (IteT K a) H1)
theorem pi_enumA {X : Cx} {e : Expr} {ta : TA} {p pos tpos : Pos} {elts : List Expr} {kk : Nat} (hg : Gl X "enumerate") (hm : X.mg "enumerate" = none) (ha : PA X [e] ta) (hs : starEach [e] X.env = [(false, eval e X.env)]) :
    PI X (.Tuple elts kk tpos) (.Call (.Name "enumerate" p) [e] [] pos) (iEnumA X.K ta) := by
  refine ⟨fun pins s σ H R I h => ?_⟩
  refine Call_ (ld_blt I hg hm boot_enumerate (PyProof.Rows.callWith_type1 (thn (ha.run pos pins s σ H _ I h) fun us s1 ⟨vs, H1, I1, r1, q1⟩ => ?_) hs rfl))
  obtain ⟨a, ex, q1⟩ := q1
  subst ex
  obtain ⟨u, rfl, ru⟩ := r1.one
  cases (show u = Value.ref a from ru)
  have fp : ∀ b ∈ [s1.heap.objs.size + 1, s1.heap.objs.size], FpOk X pins H1 b := fun b hb => by
    have e' : b = s1.heap.objs.size + 1 ∨ b = s1.heap.objs.size := by simpa using hb
    have hle : s1.heap.objs.size ≤ b := by omega
    exact I1.fpOk hle (I1.hok.fresh hle)
  rcases q1 with ⟨xs, hq, q⟩ | ⟨xs, hq, q⟩
  · obtain ⟨its, rv, p', hz⟩ := I1.list hq
    refine call_enumerate_list p'.isList fun h' he hit hsz hk => wpAny_pyIter_enum he ?_
    have I2 : Inv X pins σ H1 { s1 with heap := h' } := I1.kept (t' := s1.toks) hk
    exact ⟨s1.heap.objs.size + 1, [s1.heap.objs.size + 1, s1.heap.objs.size], _, _, H1, rfl, I2, turn_enum a (s1.heap.objs.size + 1) s1.heap.objs.size, ⟨⟨.none, he⟩, hit, Nat.succ_ne_self _⟩, fp, q⟩
  · obtain ⟨its, rv, p', hz⟩ := I1.tuple hq
    have hlt : a < s1.heap.objs.size := by obtain ⟨o, ho, _⟩ := id p'; exact Heap.lt_size ho
    refine pmCallEnumT p' fun h' he hit hsz hk => wpAny_pyIter_enum he ?_
    have I2 : Inv X pins σ H1 { s1 with heap := h' } := I1.kept (t' := s1.toks) hk
    exact ⟨s1.heap.objs.size + 1, [s1.heap.objs.size + 1, s1.heap.objs.size], _, _, H1, rfl, I2, turn_enumT a (s1.heap.objs.size + 1) s1.heap.objs.size (Nat.ne_of_lt hlt) (Nat.ne_of_lt (Nat.lt_succ_of_lt hlt)), ⟨⟨.none, he⟩, hit, Nat.succ_ne_self _⟩, fp, q⟩
theorem feeds_pair {K : PySem.W.Frag} {mg : MgX} {G H : Hp} {μ : Mu} {h : AHp} (rh : RelH K mg G μ h H) {T : Addr} (hT : H T = none) {d d' : D} {x y : V} (r1 : Rep K mg.f G d x) (r2 : Rep K mg.f G d' y) :
    ∃ G2, Step G μ H G2 μ (upd H T (.tup [x, y])) ∧ RelH K mg G2 μ h (upd H T (.tup [x, y])) ∧ RepW K mg G2 μ (.d (.tup [d, d'])) (.ref T) := by
  obtain ⟨n1, n2⟩ := rh.new hT (.tup [x, y])
  exact ⟨_, n2, n1, .tup (Evl.st_of upd_same) (.cons (r1.mono n2.g) (.cons (r2.mono n2.g) .nil))⟩
def enumW (ds : List D) : List W := (List.range ds.length).zipWith (fun i d => W.d (.tup [.int (i : Nat), d])) ds
theorem enumW_at {ds : List D} {i : Nat} {w : W} (e : (enumW ds)[i]? = some w) : ∃ d, ds[i]? = some d ∧ w = .d (.tup [.int (i : Nat), d]) := by
  unfold enumW at e
  rw [List.getElem?_zipWith] at e
  cases q : ds[i]? with
  | none => rw [q] at e; cases h : (List.range ds.length)[i]? <;> rw [h] at e <;> cases e
  | some d =>
    have hl := (List.getElem?_eq_some_iff.mp q).1
    rw [q, List.getElem?_range hl] at e
    cases e
    exact ⟨d, rfl, rfl⟩
theorem enumW_len {ds : List D} : (enumW ds).length = ds.length := by simp [enumW]
theorem feeds_enumL {K : PySem.W.Frag} {mg : MgX} {G H : Hp} {μ : Mu} {a : Addr} {vs : List V} {ds : List D} (hg : G a = some (.lst vs)) (r : RepL K mg.f G ds vs) : Feeds K mg G μ H (Ite K a) (enumW ds) := fun G1 μ1 h1 H1 s rh i => by
  have sq : SqL K H1 a vs := Evl.sq_of (rh.ex _ _ (s _ _ hg))
  refine ⟨fun w ew => ?_, fun hl => ⟨vs, sq, by rw [← r.length]; rw [enumW_len] at hl; exact hl⟩⟩
  obtain ⟨d, ed, rfl⟩ := enumW_at ew
  obtain ⟨v, ev, rv⟩ := r.get ed
  refine ⟨⟨vs, v, sq, ev⟩, fun x H2 ⟨T, y, ex, hT, e2, hy⟩ => ?_⟩
  subst ex e2
  have : vs[i]? = some y := hy vs sq
  rw [ev] at this
  cases this
  exact feeds_pair rh hT (.int _) (rv.mono s)
theorem feeds_enumT {K : PySem.W.Frag} {mg : MgX} {G H : Hp} {μ : Mu} {a : Addr} {vs : List V} {ds : List D} (hg : SqT K G a vs) (r : RepL K mg.f G ds vs) : Feeds K mg G μ H (IteT K a) (enumW ds) := fun G1 μ1 h1 H1 s rh i => by
  have sq : SqT K H1 a vs := Evl.ex_t rh.ex (Evl.ex_t s hg)
  refine ⟨fun w ew => ?_, fun hl => ⟨vs, sq, by rw [← r.length]; rw [enumW_len] at hl; exact hl⟩⟩
  obtain ⟨d, ed, rfl⟩ := enumW_at ew
  obtain ⟨v, ev, rv⟩ := r.get ed
  refine ⟨⟨vs, v, sq, ev⟩, fun x H2 ⟨T, y, ex, hT, e2, hy⟩ => ?_⟩
  subst ex e2
  have : vs[i]? = some y := hy vs sq
  rw [ev] at this
  cases this
  exact feeds_pair rh hT (.int _) (rv.mono s)
def seqD : W → Option (List D)
  | .d (.lst ds) => some ds
  | .d (.tup ds) => some ds
  | _ => none
def mEnum (me : ME) : MI := fun σ => mBind (me σ) fun w => mOf ((seqD w).map enumW)
theorem pmi_enum {X : Cx} {Wx : WX} {e : Expr} {me : ME} {p pos tpos : Pos} {elts : List Expr} {kk : Nat} (hg : Gl X "enumerate") (hm : X.mg "enumerate" = none) (he : PM Wx X e me) (hs : noStar [e] = true) :
    PI X (.Tuple elts kk tpos) (.Call (.Name "enumerate" p) [e] [] pos) (tI X.K X.mgx Wx (mEnum me)) := by
  have hs1 := (noStar_cons (env := X.env) hs).1
  refine pi_imp (pi_enumA hg hm (pa_cons he pa_nil hs1) hs1) fun σ H R ⟨G, μ, σA, h, rs, rh, k⟩ => ⟨G, μ, σA, h, rs, rh, k.bind.imp fun w G1 μ1 h1 H1 s1 rh1 k1 v rv => ?_⟩
  obtain ⟨ws, e, k2⟩ := k1.of rh1
  unfold seqD at e
  split at e
  · cases e
    cases rv with
    | lst s r => exact ⟨_, rfl, .inl ⟨_, Evl.sq_of (rh1.ex _ _ s), k2 _ (feeds_enumL s r)⟩⟩
  · cases e
    cases rv with
    | tup s r => exact ⟨_, rfl, .inr ⟨_, Evl.ex_t rh1.ex s, k2 _ (feeds_enumT s r)⟩⟩
  · cases e
end PM

end
section
set_option Elab.async false
set_option linter.all false
set_option maxRecDepth 100000
set_option maxHeartbeats 4000000
namespace PM
open PySem PySem.Spec PyProof.Rows L2 N1
open Evl (Ex)
def zipW (xs ys : List D) : List W := xs.zipWith (fun a b => W.d (.tup [a, b])) ys
theorem zipW_at {xs ys : List D} {i : Nat} {w : W} (e : (zipW xs ys)[i]? = some w) : ∃ a b, xs[i]? = some a ∧ ys[i]? = some b ∧ w = .d (.tup [a, b]) := by
  unfold zipW at e
  rw [List.getElem?_zipWith] at e
  cases q : xs[i]? with
  | none => rw [q] at e; cases h : ys[i]? <;> rw [h] at e <;> cases e
  | some a =>
    rw [q] at e
    cases q2 : ys[i]? with
    | none => rw [q2] at e; cases e
    | some b =>
      rw [q2] at e
      cases e
      exact ⟨a, b, rfl, rfl, rfl⟩
theorem zipW_len {xs ys : List D} {i : Nat} (h : (zipW xs ys).length ≤ i) : xs.length ≤ i ∨ ys.length ≤ i := by
  unfold zipW at h
  rw [List.length_zipWith] at h
  omega
theorem feeds_zipL {K : PySem.W.Frag} {mg : MgX} {G H : Hp} {μ : Mu} {a b : Addr} {us vs : List V} {xs ys : List D} (ha : G a = some (.lst us)) (hb : G b = some (.lst vs)) (r1 : RepL K mg.f G xs us) (r2 : RepL K mg.f G ys vs) : Feeds K mg G μ H (Itz K a b) (zipW xs ys) := fun G1 μ1 h1 H1 s rh i => by
  have q1 : SqL K H1 a us := Evl.sq_of (rh.ex _ _ (s _ _ ha))
  have q2 : SqL K H1 b vs := Evl.sq_of (rh.ex _ _ (s _ _ hb))
  refine ⟨fun w ew => ?_, fun hl => ⟨us, vs, q1, q2, by rw [← r1.length, ← r2.length]; exact zipW_len hl⟩⟩
  obtain ⟨d, d', e1, e2, rfl⟩ := zipW_at ew
  obtain ⟨v, ev, rv⟩ := r1.get e1
  obtain ⟨v', ev', rv'⟩ := r2.get e2
  refine ⟨⟨us, vs, v, v', q1, q2, ev, ev'⟩, fun x H2 ⟨T, y, y', ex, hT, e3, hy, hy'⟩ => ?_⟩
  subst ex e3
  have z1 := hy us q1
  have z2 := hy' vs q2
  rw [ev] at z1
  rw [ev'] at z2
  cases z1
  cases z2
  exact feeds_pair rh hT (rv.mono s) (rv'.mono s)
theorem feeds_zipT {K : PySem.W.Frag} {mg : MgX} {G H : Hp} {μ : Mu} {a b : Addr} {us vs : List V} {xs ys : List D} (ha : SqT K G a us) (hb : SqT K G b vs) (r1 : RepL K mg.f G xs us) (r2 : RepL K mg.f G ys vs) : Feeds K mg G μ H (RZ.ItzT K a b) (zipW xs ys) := fun G1 μ1 h1 H1 s rh i => by
  have q1 : SqT K H1 a us := Evl.ex_t rh.ex (Evl.ex_t s ha)
  have q2 : SqT K H1 b vs := Evl.ex_t rh.ex (Evl.ex_t s hb)
  refine ⟨fun w ew => ?_, fun hl => ⟨us, vs, q1, q2, by rw [← r1.length, ← r2.length]; exact zipW_len hl⟩⟩
  obtain ⟨d, d', e1, e2, rfl⟩ := zipW_at ew
  obtain ⟨v, ev, rv⟩ := r1.get e1
  obtain ⟨v', ev', rv'⟩ := r2.get e2
  refine ⟨⟨us, vs, v, v', q1, q2, ev, ev'⟩, fun x H2 ⟨T, y, y', ex, hT, e3, hy, hy'⟩ => ?_⟩
  subst ex e3
  have z1 := hy us q1
  have z2 := hy' vs q2
  rw [ev] at z1
  rw [ev'] at z2
  cases z1
  cases z2
  exact feeds_pair rh hT (rv.mono s) (rv'.mono s)
def zipD (ws : List W) : Option (List W) := match ws with
  | [.d (.lst xs), .d (.lst ys)] => some (zipW xs ys)
  | [.d (.tup xs), .d (.tup ys)] => some (zipW xs ys)
  | _ => none
def mZip (ma : MA) : MI := fun σ => mBind (ma σ) fun ws => mOf (zipD ws)
theorem pmi_zip {X : Cx} {Wx : WX} {e e2 : Expr} {ma : MA} {p pos tpos : Pos} {elts : List Expr} {kk : Nat} (hg : Gl X "zip") (hm : X.mg "zip" = none) (ha : PMA Wx X [e, e2] ma) (hs : noStar [e, e2] = true) :
    PI X (.Tuple elts kk tpos) (.Call (.Name "zip" p) [e, e2] [] pos) (tI X.K X.mgx Wx (mZip ma)) := by
  obtain ⟨s1, s2⟩ := noStar_cons (env := X.env) hs
  refine pi_imp (RZ.pi_zipA hg hm ha s1 (by rw [back_any]; exact noStar_at s2)) fun σ H R ⟨G, μ, σA, h, rs, rh, k⟩ => ⟨G, μ, σA, h, rs, rh, k.bind.imp fun ws G1 μ1 h1 H1 s1 rh1 k1 vs rvs => ?_⟩
  obtain ⟨zs, e, k2⟩ := k1.of rh1
  unfold zipD at e
  split at e
  · cases e
    cases rvs with
    | cons r1 q => cases q with
      | cons r2 q =>
        cases q
        have r1 : Rep X.K X.mgx.f G1 _ _ := r1
        have r2 : Rep X.K X.mgx.f G1 _ _ := r2
        cases r1 with
        | lst a1 b1 => cases r2 with
          | lst a2 b2 => exact ⟨_, _, _, _, rfl, .inl ⟨Evl.sq_of (rh1.ex _ _ a1), Evl.sq_of (rh1.ex _ _ a2), k2 _ (feeds_zipL a1 a2 b1 b2)⟩⟩
  · cases e
    cases rvs with
    | cons r1 q => cases q with
      | cons r2 q =>
        cases q
        have r1 : Rep X.K X.mgx.f G1 _ _ := r1
        have r2 : Rep X.K X.mgx.f G1 _ _ := r2
        cases r1 with
        | tup a1 b1 => cases r2 with
          | tup a2 b2 => exact ⟨_, _, _, _, rfl, .inr ⟨Evl.ex_t rh1.ex a1, Evl.ex_t rh1.ex a2, k2 _ (feeds_zipT a1 a2 b1 b2)⟩⟩
  · cases e
end PM

end
section
set_option Elab.async false
set_option linter.all false
set_option maxRecDepth 100000
set_option maxHeartbeats 4000000
namespace PM
open PySem PySem.Spec PyProof.Rows L2 N1
open Evl (Ex)
def isLocN (Γ : SE) (x : Str) : Bool := match Γ.names.lookup x with
  | some .local => true
  | some .cell => (match Γ.raw.lookup x with | some .cell => true | _ => false)
  | _ => false
def evGs (f : Expr → Option (List Nat × MG)) : List Expr → Option (List Nat × MGs)
  | [] => some ([], mgNil)
  | e :: es => match f e, evGs f es with
    | some (is, t), some (js, u) => some (is ++ js, mgCons t u)
    | _, _ => none
def evG (Γ : SE) : Nat → Expr → Option (List Nat × MG)
  | 0, _ => none
  | n + 1, e => match e with
    | .Name x _ => if isLocN Γ x then (match ixOf Γ.N x with | some i => some ([i], mgName i) | none => none) else none
    | .Tuple es _ _ => if Γ.hot || !noStar es then none else (match evGs (evG Γ n) es with | some (is, t) => some (is, mgTup t es.length) | none => none)
    | _ => none
section
variable {X : Cx} {Γ : SE} {Wx : WX} {k : Nat}
theorem assign_no {e : Expr} {es : List Expr} {env : Env} (h : noStar (e :: es) = true) : assignEach (e :: es) env = (false, assign e env) :: assignEach es env ∧ noStar es = true := by
  unfold noStar at h
  split at h
  · rename_i heq; cases heq
  · cases h
  · rename_i e' es' hne heq
    cases heq
    refine ⟨?_, h⟩
    cases e <;> first | rfl | exact absurd rfl (hne _ _)
theorem assign_len {env : Env} : ∀ {es : List Expr}, noStar es = true → (assignEach es env).length = es.length ∧ (assignEach es env).findIdx? (·.1) = none
  | [], _ => ⟨rfl, rfl⟩
  | e :: es, h => by
    obtain ⟨h1, h2⟩ := assign_no (env := env) h
    obtain ⟨i1, i2⟩ := assign_len (env := env) h2
    rw [h1]
    refine ⟨by simp [i1], ?_⟩
    rw [List.findIdx?_cons]
    simp [i2]
theorem Sx.loc (S : Sx X Γ Wx k) {x : Str} (h : isLocN Γ x = true) : L2.Loc X.env.scope x ∧ (X.fn x = true ∨ X.env.scope.names.lookup x = some .local) := by
  unfold isLocN at h
  unfold L2.Loc
  rw [S.names]
  split at h
  · rename_i e; exact ⟨.inl e, .inr e⟩
  · rename_i e
    split at h
    · rename_i e2; exact ⟨.inr e, .inl (S.fn x e2)⟩
    · cases h
  · cases h
theorem evGs_ok {f : Expr → Option (List Nat × MG)} : ∀ {es : List Expr} {is : List Nat} {t : MGs}, noStar es = true → (∀ e is t, f e = some (is, t) → PG X e (tG X.K X.mgx is t)) → evGs f es = some (is, t) → PGs X es (tGs X.K X.mgx is t)
  | [], is, t, _, _, e => by cases e; exact pmgs_nil
  | e :: es, is, t, hs, hf, q => by
    obtain ⟨h1, h2⟩ := assign_no (env := X.env) hs
    unfold evGs at q
    split at q
    · rename_i is1 t1 js u e1 e2
      cases q
      exact pmgs_cons (hf _ _ _ e1) (evGs_ok h2 hf e2) fun t u a b => pgs_cons a b (by rw [h1]; rfl)
    · cases q
theorem evG_ok (S : Sx X Γ Wx k) : ∀ (n : Nat) {tg : Expr} {is : List Nat} {t : MG}, evG Γ n tg = some (is, t) → PG X tg (tG X.K X.mgx is t)
  | 0, _, _, _, e => nomatch e
  | n + 1, tg, is, t, e => by
    unfold evG at e
    split at e
    · rename_i x p
      split at e
      · rename_i hl
        split at e
        · rename_i i ei
          cases e
          obtain ⟨l1, l2⟩ := S.loc hl
          exact pmg_name (pg_name S.nd (by rw [S.N]; exact ixOf_at ei) l1 l2)
        · cases e
      · cases e
    · rename_i es j p
      split at e
      · cases e
      · rename_i hh
        rw [Bool.or_eq_true] at hh
        have h1 : Γ.hot = false := by
          cases q : Γ.hot with
          | false => rfl
          | true => exact absurd (.inl q) hh
        have h2 : noStar es = true := by
          cases q : noStar es with
          | true => rfl
          | false => rw [q] at hh; exact absurd (.inr rfl) hh
        split at e
        · rename_i is' t' e1
          cases e
          obtain ⟨l1, l2⟩ := assign_len (env := X.env) h2
          exact pmg_tup (S.calm h1).1 (evGs_ok h2 (fun e is t q => evG_ok S n q) e1) l1 l2
        · cases e
    · cases e
theorem tG_more {tg : Expr} {is js : List Nat} {t : MG} (h : ∀ i ∈ is, i ∈ js) (p : PG X tg (tG X.K X.mgx is t)) : PG X tg (tG X.K X.mgx js t) := pg_imp p fun v σ H Q ⟨G, μ, σA, h', w, σ1, rs, rh, r, e, k⟩ =>
  ⟨G, μ, σA, h', w, σ1, rs, rh, r, e, fun σ' a b c => k σ' a (fun j hj => b j fun z => hj (h j z)) c⟩
def rngC (lo c : Int) (n : Nat) : List W := (List.range n).map fun i => .d (.int (lo + (i : Nat) * c))
theorem feeds_c {K : PySem.W.Frag} {mg : MgX} {G H : Hp} {μ : Mu} {lo c : Int} {n : Nat} : Feeds K mg G μ H (Itc lo c n) (rngC lo c n) := fun G1 μ1 h1 H1 s rh i => by
  unfold rngC
  refine ⟨fun w e => ?_, fun hl => ?_⟩
  · rw [List.getElem?_map] at e
    by_cases hi : i < n
    · rw [List.getElem?_range hi] at e
      cases e
      refine ⟨hi, fun x H2 y => ?_⟩
      obtain ⟨rfl, rfl⟩ := y
      exact ⟨G1, Step.refl, rh, .int _⟩
    · rw [List.getElem?_eq_none (by simpa using hi)] at e
      cases e
  · have : n ≤ i := by simpa using hl
    exact this
def rgc (i j c : Int) : Option Nat := if c ≠ 0 ∧ c.natAbs < 1073741824 ∧ Builtin.Range.small i j c = true then (if 0 ≤ Builtin.Range.rangeSize i j c then some (Builtin.Range.rangeSize i j c).toNat else none) else none
theorem rgc_ok {i j c : Int} {n : Nat} (h : rgc i j c = some n) : RgC i j c n := by
  unfold rgc at h
  split at h
  · rename_i q
    split at h
    · cases h
      exact ⟨q.1, q.2.1, q.2.2, by omega⟩
    · cases h
  · cases h
def mRng3 (m : MA) : MI := fun σ => mBind (m σ) fun ws => mOf (match ws with | [.d (.int i), .d (.int j), .d (.int c)] => (match rgc i j c with | some n => some (rngC i c n) | none => none) | _ => none)
theorem pmi_rng3 {tg a b c : Expr} {m : MA} {p pos : Pos} (hg : Gl X "range") (hm : X.mg "range" = none) (ha : PMA Wx X [a, b, c] m) (hs : noStar [a, b, c] = true) : PI X tg (.Call (.Name "range" p) [a, b, c] [] pos) (tI X.K X.mgx Wx (mRng3 m)) := by
  obtain ⟨s1, s2⟩ := noStar_cons (env := X.env) hs
  refine pi_imp (pi_range3 hg hm ha s1 (by rw [back_any]; exact noStar_at s2)) fun σ H R ⟨G, μ, σA, h, rs, rh, k⟩ => ⟨G, μ, σA, h, rs, rh, k.bind.imp fun ws G1 μ1 h1 H1 s1 rh1 k1 vs rvs => ?_⟩
  obtain ⟨z, e, k2⟩ := k1.of rh1
  split at e
  · rename_i i j c
    split at e
    · rename_i n en
      cases e
      cases rvs with
      | cons r1 q => cases q with
        | cons r2 q => cases q with
          | cons r3 q =>
            cases q
            cases r1; cases r2; cases r3
            exact ⟨i, j, c, n, rfl, rgc_ok en, k2 _ feeds_c⟩
    · cases e
  · cases e
def isTupE : Expr → Bool
  | .Tuple _ _ _ => true
  | _ => false
def isSetE : Expr → Bool
  | .Set _ _ _ => true
  | _ => false
theorem fold_no {e : Expr} (h : isSetE e = false) {env : Env} : ∀ x, foldedSetIterable e env x = pure x := fun x => by
  cases e <;> first | rfl | cases h
def evI (r : Ev) (Γ : SE) (tg it : Expr) : MI := match it with
  | .Call (.Name x p) es kws q => if kws.isEmpty && isGlb (Γ.names.lookup x) && Γ.mo.free x && noStar es && !isRes x then
      (if x == ("range" : Str) then (match es with
        | [_] => mRng1 (evA r Γ es)
        | [_, _] => mRng2 (evA r Γ es)
        | [_, _, _] => mRng3 (evA r Γ es)
        | _ => mItems (evF r Γ it))
      else if x == ("enumerate" : Str) && isTupE tg then (match es with
        | [e] => mEnum (evF r Γ e)
        | _ => mItems (evF r Γ it))
      else if x == ("zip" : Str) && isTupE tg then (match es with
        | [_, _] => mZip (evAF r Γ es)
        | _ => mItems (evF r Γ it))
      else mItems (evF r Γ it))
    else mItems (evF r Γ it)
  | _ => mItems (evF r Γ it)
theorem evI_ok {r : Ev} (R : EvOk r) (S : Sx X Γ Wx k) {tg it : Expr} : PI X tg it (tI X.K X.mgx Wx (evI r Γ tg it)) := by
  unfold evI
  split
  · rename_i x p es kws q
    split
    · rename_i hh
      simp only [Bool.and_eq_true] at hh
      obtain ⟨⟨⟨⟨h1, h2⟩, h3⟩, h4⟩, h5⟩ := hh
      have hk : kws = [] := by simpa using h1
      subst hk
      have hm := (S.mo.free x h3).1
      have hg := S.glb h2
      split
      · rename_i hx
        have e1 := eq_of_beq hx
        subst e1
        split
        · exact pmi_rng1 hg hm (evA_ok R S _) (noStar_cons (env := X.env) h4).1
        · rename_i a b
          obtain ⟨s1, s2⟩ := noStar_cons (env := X.env) h4
          exact pmi_rng2 hg hm (evA_ok R S _) fun ta ha => pi_range2 hg hm ha (s1.trans (by rw [(noStar_cons (env := X.env) s2).1]; rfl)) (noStar_cons (env := X.env) s2).1
        · exact pmi_rng3 hg hm (evA_ok R S _) h4
        · exact pmi_seq (evF_ok R S _)
      · split
        · rename_i hx
          rw [Bool.and_eq_true] at hx
          have e1 := eq_of_beq hx.1
          subst e1
          split
          · rename_i e
            cases tg <;> first | (cases hx.2; done) | exact pmi_enum hg hm (evF_ok R S _) h4
          · exact pmi_seq (evF_ok R S _)
        · split
          · rename_i hx
            rw [Bool.and_eq_true] at hx
            have e1 := eq_of_beq hx.1
            subst e1
            split
            · cases tg <;> first | (cases hx.2; done) | exact pmi_zip hg hm (evAF_ok R S _) h4
            · exact pmi_seq (evF_ok R S _)
          · exact pmi_seq (evF_ok R S _)
    · exact pmi_seq (evF_ok R S _)
  · exact pmi_seq (evF_ok R S _)
end
end PM

end
section
set_option Elab.async false
set_option linter.all false
set_option maxRecDepth 100000
set_option maxHeartbeats 4000000
namespace PM
open PySem PySem.Spec PyProof.Rows L2 N1
open Evl (Ex)
def mCompIn (t : MG) (tt : MT) (te : ME) (σ : Sl) (F : List D → M W) : List W → List D → M W
  | [], acc => F acc
  | w :: r, acc => match t w σ with
    | none => mFail
    | some σ1 => mBind (mNoX (tt σ1)) fun b => if b then mBind (mNoX (te σ1)) fun y => (match y with
        | .d d => if acc.length < sizeLine then mCompIn t tt te σ F r (acc ++ [d]) else mFail
        | _ => mFail) else mCompIn t tt te σ F r acc
def mCompOut (t : MG) (tt : MT) (mi1 : MI) (t1 : MG) (tt1 : MT) (te : ME) (vs1 : List Nat) (σ : Sl) : List W → List D → M W
  | [], acc => mPure (.d (.lst acc))
  | w :: r, acc => match t w σ with
    | none => mFail
    | some σ1 => mBind (mNoX (tt σ1)) fun b => if b then mBind (mNoX (mi1 σ1)) fun ws1 => mCompIn t1 tt1 te (wipeA σ1 vs1) (fun acc' => mCompOut t tt mi1 t1 tt1 te vs1 σ r acc') ws1 acc
      else mCompOut t tt mi1 t1 tt1 te vs1 σ r acc
def mComp2 (mi : MI) (t : MG) (tt : MT) (mi1 : MI) (t1 : MG) (tt1 : MT) (te : ME) (vs vs1 : List Nat) : ME := fun σ => mBind (mi σ) fun ws => mCompOut t tt mi1 t1 tt1 te vs1 (wipeA σ vs) ws []
section
variable {K : PySem.W.Frag} {mg : MgX}
structure CAt (K : PySem.W.Frag) (mg : MgX) (G1 : Hp) (μ1 : Mu) (H1 : Hp) (Dl : Addr) (f : List D → M W) (Q : VK) (EX : XK) (H : Hp) : Prop where
  go : ∃ G μ h ds vs, Step G1 μ1 H1 G μ H ∧ RelH K mg G μ h H ∧ H Dl = some (.lst vs) ∧ RepL K mg.f G ds vs ∧ G Dl = none ∧ ¬ Own μ Dl ∧ Ret K mg G1 μ1 H1 (f ds h) (fun w G' μ' _ H' => ∀ v, RepW K mg G' μ' w v → Q v H') EX
def EE : Hp := fun _ => none
theorem Step.fk {G H G' H' : Hp} {μ μ' : Mu} (s : Step G μ H G' μ' H') : Step G μ EE G' μ' EE := ⟨s.g, by obtain ⟨m, e, _⟩ := s.m; exact ⟨m, e, fun _ _ => ⟨rfl, rfl⟩⟩, fun _ _ h _ => absurd h (by unfold EE; simp), fun _ _ h => absurd h (by unfold EE; simp), fun _ _ h _ _ => absurd h (by unfold EE; simp)⟩
theorem Step.own {G1 H1 G H : Hp} {μ1 μ : Mu} {D : Addr} (s : Step G1 μ1 H1 G μ H) (hD : H1 D = none) (o : HO) : Step G1 μ1 H1 G μ (upd H D o) :=
  ⟨s.g, s.m, fun p q hp hn => by rw [upd_ne (ne_of_none hp hD)]; exact s.fr p q hp hn, fun p q hp => by rw [upd_ne (ne_of_none hp hD)]; exact s.st p q hp, s.gn⟩
theorem t_comp2 {Wx : WX} {mi mi1 : MI} {t t1 : MG} {tt tt1 : MT} {te : ME} {vs vs1 : List Nat} {σ : L2.St} {H : Hp} {Q : VK} (q : tE K mg Wx (mComp2 mi t tt mi1 t1 tt1 te vs vs1) σ H Q) :
    tLc2 (tI K mg Wx mi) (tG K mg vs t) (tT K mg WF tt) (tI K mg WF mi1) (tG K mg vs1 t1) (tT K mg WF tt1) (tE K mg WF te) vs vs1 σ H Q := by
  obtain ⟨G, μ, σA, h, rs, rh, k⟩ := q
  refine ⟨G, μ, σA, h, rs, rh, k.bind.imp fun ws G1 μ1 h1 H1 s1 rh1 k1 J fd Dl hD => ?_⟩
  have hg1 : G1 Dl = none := Evl.fresh_back rh1.ex hD
  have ho1 : ¬ Own μ1 Dl := fun ⟨z, hz, hh⟩ => by
    obtain ⟨⟨o1, y1⟩, o2, y2⟩ := rh1.there z hz
    rcases hh with e | e
    · rw [← e, hD] at y1; cases y1
    · rw [← e, hD] at y2; cases y2
  have st0 : Step G1 μ1 H1 G1 μ1 (upd H1 Dl (.lst [])) := Step.own Step.refl hD _
  have rh0 := rh1.aside (.lst []) hg1 ho1
  refine ⟨fun i mm H' => mm = ws.length - i ∧ CAt K mg G1 μ1 H1 Dl (mCompOut t tt mi1 t1 tt1 te vs1 (wipeA σA vs) (ws.drop i)) Q (fun cls d H' => Wx cls d σ H') H', ⟨_, rfl, ⟨G1, μ1, h1, [], [], st0, rh0, upd_same, .nil, hg1, ho1, k1⟩⟩, ?_⟩
  rintro i mm H' ⟨rfl, ⟨G2, μ2, h2, ds, us, s2, rh2, hDl, rds, hg2, ho2, k2⟩⟩
  by_cases hi : i < ws.length
  · have ew : ws[i]? = some ws[i] := List.getElem?_eq_getElem hi
    obtain ⟨f1, _⟩ := fd G2 μ2 h2 H' s2.g rh2 i
    obtain ⟨go, yl⟩ := f1 _ ew
    have ed : ws.drop i = ws[i] :: ws.drop (i + 1) := List.drop_eq_getElem_cons hi
    rw [ed] at k2
    refine .inr ⟨go, fun H3 => CAt K mg G1 μ1 H1 Dl (mCompOut t tt mi1 t1 tt1 te vs1 (wipeA σA vs) (ws.drop (i + 1))) Q (fun cls d H' => Wx cls d σ H') H3, fun H3 z => ⟨ws.length - (i + 1), by omega, rfl, z⟩, fun x H3 y => ?_⟩
    obtain ⟨G3, s3, rh3, rw3⟩ := yl x H3 y
    have hDl3 : H3 Dl = some (.lst us) := s3.fr _ _ hDl ho2
    unfold mCompOut at k2
    cases q : t ws[i] (wipeA σA vs) with
    | none => rw [q] at k2; obtain ⟨_, _, e, _⟩ := k2; cases e
    | some σ4 =>
      rw [q] at k2
      refine ⟨G3, μ2, wipeA σA vs, h2, ws[i], σ4, ((((rs.mono s1).mono s2).wipe vs).mono s3), rh3, rw3, q, fun σ5 rs5 hs5 hl5 => ⟨wipe_same (hl5.trans (wipe_length σ vs)) hs5, ?_⟩⟩
      refine ⟨G3, μ2, σ4, h2, rs5, rh3, (Ret.bindB k2).imp fun b G4 μ4 h4 H4 s4 rh4 k4 => ?_⟩
      have hDl4 : H4 Dl = some (.lst us) := s4.fr _ _ hDl3 ho2
      have ho4 : ¬ Own μ4 Dl := own_step s4 hDl3 ho2
      have hg4 : G4 Dl = none := s4.gn _ _ hDl3 ho2 (s3.gn _ _ hDl ho2 hg2)
      cases b with
      | false => exact ⟨G4, μ4, h4, ds, us, ((s2.trans s3).trans s4), rh4, hDl4, (rds.mono s3.g).mono s4.g, hg4, ho4, k4⟩
      | true =>
        refine ⟨G4, μ4, σ4, h4, rs5.mono s4, rh4, (Ret.bindB k4).imp fun ws1 G5 μ5 h5 H5 s5 rh5 k5 J1 fd1 => ?_⟩
        have hDl5 : H5 Dl = some (.lst us) := s5.fr _ _ hDl4 ho4
        have ho5 : ¬ Own μ5 Dl := own_step s5 hDl4 ho4
        have hg5 : G5 Dl = none := s5.gn _ _ hDl4 ho4 hg4
        have s15 : Step G1 μ1 H1 G5 μ5 H5 := ((s2.trans s3).trans s4).trans s5
        have r5 : RepL K mg.f G5 ds us := ((rds.mono s3.g).mono s4.g).mono s5.g
        have rsw : RelS K mg G5 μ5 (wipeA σ4 vs1) (wipe σ5 vs1) := ((rs5.mono s4).mono s5).wipe vs1
        refine ⟨fun j mm H' => mm = ws1.length - j ∧ ∃ G μ h ds us', Step G1 μ1 H1 G μ H' ∧ Step G5 μ5 EE G μ EE ∧ RelH K mg G μ h H' ∧ H' Dl = some (.lst us') ∧ RepL K mg.f G ds us' ∧ G Dl = none ∧ ¬ Own μ Dl ∧ Ret K mg G1 μ1 H1 (mCompIn t1 tt1 te (wipeA σ4 vs1) (fun acc' => mCompOut t tt mi1 t1 tt1 te vs1 (wipeA σA vs) (ws.drop (i + 1)) acc') (ws1.drop j) ds h) (fun w G' μ' _ H' => ∀ v, RepW K mg G' μ' w v → Q v H') (fun cls d H' => Wx cls d σ H'), ⟨_, rfl, G5, μ5, h5, ds, us, s15, Step.refl, rh5, hDl5, r5, hg5, ho5, k5⟩, ?_⟩
        rintro j mm H6 ⟨rfl, G6, μ6, h6, ds6, us6, s6, e6, rh6, hDl6, rds6, hg6, ho6, k6⟩
        by_cases hj : j < ws1.length
        · have ew1 : ws1[j]? = some ws1[j] := List.getElem?_eq_getElem hj
          obtain ⟨f1, _⟩ := fd1 G6 μ6 h6 H6 e6.g rh6 j
          obtain ⟨go, yl⟩ := f1 _ ew1
          have ed1 : ws1.drop j = ws1[j] :: ws1.drop (j + 1) := List.drop_eq_getElem_cons hj
          rw [ed1] at k6
          refine .inr ⟨go, fun H' => ∃ G μ h ds us', Step G1 μ1 H1 G μ H' ∧ Step G5 μ5 EE G μ EE ∧ RelH K mg G μ h H' ∧ H' Dl = some (.lst us') ∧ RepL K mg.f G ds us' ∧ G Dl = none ∧ ¬ Own μ Dl ∧ Ret K mg G1 μ1 H1 (mCompIn t1 tt1 te (wipeA σ4 vs1) (fun acc' => mCompOut t tt mi1 t1 tt1 te vs1 (wipeA σA vs) (ws.drop (i + 1)) acc') (ws1.drop (j + 1)) ds h) (fun w G' μ' _ H' => ∀ v, RepW K mg G' μ' w v → Q v H') (fun cls d H' => Wx cls d σ H'), fun H3 z => ⟨ws1.length - (j + 1), by omega, rfl, z⟩, fun x H7 y => ?_⟩
          obtain ⟨G7, s7, rh7, rw7⟩ := yl x H7 y
          have hDl7 : H7 Dl = some (.lst us6) := s7.fr _ _ hDl6 ho6
          unfold mCompIn at k6
          cases q1 : t1 ws1[j] (wipeA σ4 vs1) with
          | none => rw [q1] at k6; obtain ⟨_, _, e, _⟩ := k6; cases e
          | some σ8 =>
            rw [q1] at k6
            refine ⟨G7, μ6, wipeA σ4 vs1, h6, ws1[j], σ8, (rsw.mono e6).mono s7, rh7, rw7, q1, fun σ9 rs9 hs9 hl9 => ⟨wipe_same (hl9.trans (wipe_length σ5 vs1)) hs9, ?_⟩⟩
            refine ⟨G7, μ6, σ8, h6, rs9, rh7, (Ret.bindB k6).imp fun b G8 μ8 h8 H8 s8 rh8 k8 => ?_⟩
            have hDl8 : H8 Dl = some (.lst us6) := s8.fr _ _ hDl7 ho6
            have ho8 : ¬ Own μ8 Dl := own_step s8 hDl7 ho6
            have hg8 : G8 Dl = none := s8.gn _ _ hDl7 ho6 (s7.gn _ _ hDl6 ho6 hg6)
            cases b with
            | false => exact ⟨G8, μ8, h8, ds6, us6, ((s6.trans s7).trans s8), (e6.trans s7.fk).trans s8.fk, rh8, hDl8, (rds6.mono s7.g).mono s8.g, hg8, ho8, k8⟩
            | true =>
              refine ⟨G8, μ8, σ8, h8, rs9.mono s8, rh8, (Ret.bindB k8).imp fun y9 G9 μ9 h9 H9 s9 rh9 k9 v rv => ?_⟩
              have hDl9 : H9 Dl = some (.lst us6) := s9.fr _ _ hDl8 ho8
              have ho9 : ¬ Own μ9 Dl := own_step s9 hDl8 ho8
              have hg9 : G9 Dl = none := s9.gn _ _ hDl8 ho8 hg8
              split at k9
              · rename_i d
                split at k9
                · rename_i c
                  have r9 : RepL K mg.f G9 ds6 us6 := ((rds6.mono s7.g).mono s8.g).mono s9.g
                  exact ⟨us6, hDl9, by rw [← r9.length]; exact c, G9, μ9, h9, ds6 ++ [d], us6 ++ [v], (((s6.trans s7).trans s8).trans s9).own hD _, ((e6.trans s7.fk).trans s8.fk).trans s9.fk, rh9.aside _ hg9 ho9, upd_same, r9.append (.cons rv .nil), hg9, ho9, k9⟩
                · obtain ⟨_, _, e, _⟩ := k9; cases e
              · obtain ⟨_, _, e, _⟩ := k9; cases e
        · obtain ⟨_, st⟩ := fd1 G6 μ6 h6 H6 e6.g rh6 j
          rw [List.drop_eq_nil_of_le (show ws1.length ≤ j by omega)] at k6
          exact .inl ⟨st (by omega), ⟨G6, μ6, h6, ds6, us6, s6, rh6, hDl6, rds6, hg6, ho6, k6⟩⟩
  · obtain ⟨_, st⟩ := fd G2 μ2 h2 H' s2.g rh2 i
    rw [List.drop_eq_nil_of_le (by omega)] at k2
    refine .inl ⟨st (by omega), ?_⟩
    obtain ⟨r, h', e, k3⟩ := k2
    cases e
    have n1 := rh2.adopt hDl hg2 ho2
    have n2 : Step G1 μ1 H1 (upd G2 Dl (.lst us)) μ2 H' := ⟨s2.g.trans (Ex.new hg2), s2.m, s2.fr, s2.st, fun p o hp hn hg => by rw [upd_ne (ne_of_none hp hD)]; exact s2.gn p o hp hn hg⟩
    exact k3 _ _ _ n2 n1 _ (.lst upd_same (rds.mono (Ex.new hg2)))
end
section
variable {X : Cx} {Wx : WX} {elt tg iter tg1 iter1 : Expr} {ifs ifs1 : List Expr} {scope : Scope} {own : List (Str × Nat)} {pos : Pos} {mi mi1 : MI} {t t1 : MG} {tt tt1 : MT} {te : ME} {vs1 : List Nat}
theorem pm_comp2 (hc : X.calm = true) (hN : X.N.Nodup) (hi : PI X tg iter (tI X.K X.mgx Wx mi)) (ok : BlkOk X.N X.env.scope scope own) (hv : ∀ i ∈ vs1, i ∈ own.map (·.2))
    (hg : ∀ (s : Shared) (H : Hp) (C : Addr) (cl : List (Str × Addr)) (fp : List Addr), PG (X.blk s H scope (compEnvC scope cl C X.env) fp) tg (tG X.K X.mgx (own.map (·.2)) t)) (ht : ∀ (s : Shared) (H : Hp) (C : Addr) (cl : List (Str × Addr)) (fp : List Addr), PTs (X.blk s H scope (compEnvC scope cl C X.env) fp) ifs (tT X.K X.mgx WF tt))
    (hi1 : ∀ (s : Shared) (H : Hp) (C : Addr) (cl : List (Str × Addr)) (fp : List Addr), PI (X.blk s H scope (compEnvC scope cl C X.env) fp) tg1 iter1 (tI X.K X.mgx WF mi1))
    (hg1 : ∀ (s : Shared) (H : Hp) (C : Addr) (cl : List (Str × Addr)) (fp : List Addr), PG (X.blk s H scope (compEnvC scope cl C X.env) fp) tg1 (tG X.K X.mgx vs1 t1)) (ht1 : ∀ (s : Shared) (H : Hp) (C : Addr) (cl : List (Str × Addr)) (fp : List Addr), PTs (X.blk s H scope (compEnvC scope cl C X.env) fp) ifs1 (tT X.K X.mgx WF tt1))
    (he : ∀ (s : Shared) (H : Hp) (C : Addr) (cl : List (Str × Addr)) (fp : List Addr), PE (X.blk s H scope (compEnvC scope cl C X.env) fp) elt (tE X.K X.mgx WF te)) (hs : ∀ x, foldedSetIterable iter X.env x = pure x) (hs1 : ∀ env x, foldedSetIterable iter1 env x = pure x) :
    PM Wx X (.ListComp elt [⟨tg, iter, ifs, 0⟩, ⟨tg1, iter1, ifs1, 0⟩] scope pos) (mComp2 mi t tt mi1 t1 tt1 te (own.map (·.2)) vs1) := pe_imp (pe_lc2 hc hN hi ok hv hg ht hi1 hg1 ht1 he hs hs1) fun _ _ _ => t_comp2
end
end PM

end
section
set_option Elab.async false
set_option linter.all false
set_option maxRecDepth 100000
set_option maxHeartbeats 4000000
namespace PM
open PySem PySem.Spec PyProof.Rows L2 N1
open Evl (Ex)
def setV {κ α : Type} [DecidableEq κ] (k : κ) (a : α) : List κ → List α → List α
  | x :: xs, b :: bs => (if x = k then a else b) :: setV k a xs bs
  | _, bs => bs
def hasK {κ : Type} [DecidableEq κ] (k : κ) (ks : List κ) : Bool := ks.any fun x => decide (x = k)
def dputA {α : Type} (nst : Bool) (ks : List D) (vs : List α) (k : D) (v : α) : Option (List D × List α) :=
  if nst then (match tkey k, tkeys ks with
    | some nk, some nks => some (if hasK nk nks then (ks, setV nk v nks vs) else (ks ++ [k], vs ++ [v]))
    | _, _ => none)
  else (match keyD k, keysD ks with
    | some key, some kk => some (if hasK key kk then (ks, setV key v kk vs) else (ks ++ [k], vs ++ [v]))
    | _, _ => none)
section
variable {K : PySem.W.Frag} {mg : MgX} {G H : Hp} {μ : Mu}
inductive DSt (K : PySem.W.Frag) (mg : MgX) (G : Hp) (Dl : Addr) : Bool → List D → List V → HO → Prop
  | k {kk : List Key} {vs : List V} : kk.length = vs.length → DSt K mg G Dl false (kk.map kD) vs (.dK (kk.zip vs))
  | n {xs : List NE} {ks : List D} {vs : List V} : RepL K mg.f G ks (xs.map fun x => .ref x.2.1) → tkeys ks = some (xs.map (·.1)) → Vals vs (xs.map (·.2.2)) → DSt K mg G Dl true ks vs (DNo mg.f.w Dl xs)
theorem DSt.mono {G' : Hp} (e : Ex G G') {Dl : Addr} {nst : Bool} {ks : List D} {vs : List V} {o : HO} (h : DSt K mg G Dl nst ks vs o) : DSt K mg G' Dl nst ks vs o := by
  cases h with
  | k l => exact .k l
  | n r t v => exact .n (r.mono e) t v
theorem DSt.at {Dl : Addr} {nst : Bool} {ks : List D} {vs : List V} {o : HO} (h : DSt K mg G Dl nst ks vs o) (hH : H Dl = some o) : DctAt K mg G H Dl ks vs := by
  cases h with
  | k l => exact .inl ⟨_, rfl, l, hH⟩
  | n r t v => exact .inr ⟨_, hH, r, t, v⟩
theorem RepL.setV {κ : Type} [DecidableEq κ] {k : κ} {d : D} {z : V} (rd : Rep K mg.f G d z) : ∀ {ks : List κ} {ds : List D} {vs : List V}, RepL K mg.f G ds vs → RepL K mg.f G (setV k d ks ds) (setV k z ks vs)
  | [], _, _, r => by unfold PM.setV; exact r
  | _ :: _, _, _, .nil => by unfold PM.setV; exact .nil
  | x :: ks, _, _, .cons r rs => by
    unfold PM.setV
    refine .cons ?_ (RepL.setV rd rs)
    split
    · exact rd
    · exact r
theorem setV_len {κ α : Type} [DecidableEq κ] {k : κ} {a : α} : ∀ (ks : List κ) (bs : List α), (setV k a ks bs).length = bs.length
  | [], _ => by unfold setV; rfl
  | _ :: _, [] => by unfold setV; rfl
  | _ :: ks, _ :: bs => by unfold setV; rw [List.length_cons, List.length_cons, setV_len ks bs]
theorem any_zip {key : Key} : ∀ {kk : List Key} {vs : List V}, kk.length = vs.length → ((kk.zip vs).any fun kv => decide (kv.1 = key)) = hasK key kk
  | [], _, _ => rfl
  | _ :: _, [], h => by simp at h
  | k :: kk, v :: vs, h => by
    rw [List.zip_cons_cons, List.any_cons, any_zip (by simpa using h)]
    rfl
theorem put_zip {key : Key} {z : V} : ∀ {kk : List Key} {vs : List V}, kk.length = vs.length → ((kk.zip vs).map fun kv => if kv.1 = key then (kv.1, z) else kv) = kk.zip (setV key z kk vs)
  | [], _, _ => rfl
  | _ :: _, [], h => by simp at h
  | k :: kk, v :: vs, h => by
    unfold setV
    rw [List.zip_cons_cons, List.map_cons, List.zip_cons_cons, put_zip (by simpa using h)]
    congr 1
    dsimp only
    split <;> rfl
theorem vals_set {nk : NestedKey} {z : V} {r : Value} (rz : RelV z r) : ∀ {xs : List NE} {vs : List V}, Vals vs (xs.map (·.2.2)) → Vals (setV nk z (xs.map (·.1)) vs) ((xs.map (putAt nk r)).map (·.2.2))
  | [], [], _ => by unfold setV; exact .nil
  | [], _ :: _, h => nomatch h
  | _ :: _, [], h => nomatch h
  | x :: xs, v :: vs, .cons h hs => by
    rw [List.map_cons, List.map_cons, List.map_cons]
    unfold setV
    refine .cons ?_ (vals_set rz hs)
    unfold putAt
    split
    · exact rz
    · exact h
theorem keys_set {nk : NestedKey} {r : Value} : ∀ xs : List NE, (xs.map (putAt nk r)).map (·.1) = xs.map (·.1) ∧ (xs.map (putAt nk r)).map (fun x => V.ref x.2.1) = xs.map fun x => V.ref x.2.1
  | [] => ⟨rfl, rfl⟩
  | x :: xs => by
    obtain ⟨h1, h2⟩ := keys_set (nk := nk) (r := r) xs
    have e : (putAt nk r x).1 = x.1 ∧ (putAt nk r x).2.1 = x.2.1 := by unfold putAt; split <;> exact ⟨rfl, rfl⟩
    refine ⟨?_, ?_⟩
    · rw [List.map_cons, List.map_cons, List.map_cons, h1, e.1]
    · rw [List.map_cons, List.map_cons, List.map_cons, h2, e.2]
theorem hasK_at {nk : NestedKey} : ∀ xs : List NE, (atKey xs nk).isSome = hasK nk (xs.map (·.1))
  | [] => rfl
  | x :: xs => by
    by_cases e : x.1 = nk
    · simp [atKey, hasK, List.find?_cons, e]
    · have ea : atKey (x :: xs) nk = atKey xs nk := by simp [atKey, List.find?_cons, e]
      rw [ea, hasK_at xs]
      simp [hasK, e]
theorem tkeys_app : ∀ {ks : List D} {nks : List NestedKey} {k : D} {nk : NestedKey}, tkeys ks = some nks → tkey k = some nk → tkeys (ks ++ [k]) = some (nks ++ [nk])
  | [], _, k, nk, e, ek => by
    cases e
    rw [List.nil_append]
    unfold tkeys
    rw [ek]
    rfl
  | d :: ds, nks, k, nk, e, ek => by
    unfold tkeys at e
    split at e
    · rename_i a b e1 e2
      cases e
      rw [List.cons_append]
      unfold tkeys
      rw [e1, tkeys_app e2 ek]
      rfl
    · cases e
theorem vals_app {vs : List V} {us : List Value} {z : V} {r : Value} (h : Vals vs us) (rz : RelV z r) : Vals (vs ++ [z]) (us ++ [r]) := Paired.snoc h rz
theorem DSt.put {N : Hp → Prop} {Dl : Addr} {nst : Bool} {ks ks' : List D} {vs : List V} {ds ds' : List D} {o : HO} {k d : D} {y z : V} (st : DSt K mg G Dl nst ks vs o) (e : dputA nst ks ds k d = some (ks', ds')) (rds : RepL K mg.f G ds vs) (rk : Rep K mg.f G k y) (rd : Rep K mg.f G d z) (hH : H Dl = some o) (eg : Ex G H) (hz : ds.length < sizeLine)
    (nx : ∀ o' vs', DSt K mg G Dl nst ks' vs' o' → RepL K mg.f G ds' vs' → N (upd H Dl o')) : Put K mg Dl y z H N := by
  have hlen := rds.length
  cases st with
  | @k kk vs hl =>
    unfold dputA at e
    rw [if_neg (by simp)] at e
    split at e
    · rename_i key kk' ek ekk
      rw [keysD_map] at ekk
      cases ekk
      have := keyD_eq ek
      subst this
      have ey := kD_v rk
      refine .inl ⟨_, key, ey, hH, by rw [List.length_zip]; omega, ?_⟩
      unfold putK
      rw [any_zip hl]
      injection e with e
      cases c : hasK key kk with
      | true =>
        rw [c] at e
        simp only [if_true] at e ⊢
        cases e
        rw [put_zip hl]
        exact nx _ _ (.k (by rw [setV_len]; exact hl)) (rds.setV rd)
      | false =>
        rw [c] at e
        simp only [Bool.false_eq_true, if_false] at e ⊢
        cases e
        have := nx (.dK ((kk ++ [key]).zip (vs ++ [z]))) (vs ++ [z]) (by
          have h := DSt.k (K := K) (mg := mg) (G := G) (Dl := Dl) (kk := kk ++ [key]) (vs := vs ++ [z]) (by simp [hl])
          rw [List.map_append] at h
          exact h) (rds.append (.cons rd .nil))
        rw [List.zip_append hl] at this
        exact this
    · cases e
  | @n xs ks vs rkk tk vv =>
    unfold dputA at e
    rw [if_pos rfl] at e
    split at e
    · rename_i nk nks ek ekk
      rw [tk] at ekk
      cases ekk
      obtain ⟨_, dds, kds, rfl, _, _, _⟩ := tkey_no ek
      obtain ⟨b, rfl⟩ : ∃ b, y = .ref b := by cases rk; exact ⟨_, rfl⟩
      have hxl : xs.length = ds.length := by have := vv.length; rw [List.length_map] at this; omega
      refine .inr ⟨G, ks, xs, _, b, nk, rfl, eg, hH, rkk, tk, rk, ek, by omega, fun r rz => ?_⟩
      unfold storedH
      rw [hasK_at]
      injection e with e
      cases c : hasK nk (xs.map (·.1)) with
      | true =>
        rw [c] at e
        simp only [if_true] at e ⊢
        cases e
        obtain ⟨k1, k2⟩ := keys_set (nk := nk) (r := r) xs
        exact nx _ _ (.n (by rw [k2]; exact rkk) (by rw [k1]; exact tk) (vals_set rz vv)) (rds.setV rd)
      | false =>
        rw [c] at e
        simp only [Bool.false_eq_true, if_false] at e ⊢
        cases e
        exact nx _ (vs ++ [z]) (.n (by rw [List.map_append]; exact rkk.append (.cons rk .nil)) (by rw [List.map_append]; exact tkeys_app tk ek) (by rw [List.map_append]; exact vals_app vv rz)) (rds.append (.cons rd .nil))
    · cases e
theorem dst0 {nst : Bool} {Dl : Addr} : DSt K mg G Dl nst [] [] (dct0 mg.f.w nst Dl) := by
  cases nst with
  | false => exact .k (kk := []) rfl
  | true => exact .n .nil rfl .nil
end
def mDcIn (nst : Bool) (t : MG) (tt : MT) (mk mv : ME) (σ : Sl) (F : List D → List D → M W) : List W → List D → List D → M W
  | [], ks, vs => F ks vs
  | w :: r, ks, vs => match t w σ with
    | none => mFail
    | some σ1 => mBind (mNoX (tt σ1)) fun b => if b then mBind (mNoX (mk σ1)) fun y => mBind (mNoX (mv σ1)) fun z => (match y, z with
        | .d k, .d d => if vs.length < sizeLine then (match dputA nst ks vs k d with
          | some p => mDcIn nst t tt mk mv σ F r p.1 p.2
          | none => mFail) else mFail
        | _, _ => mFail) else mDcIn nst t tt mk mv σ F r ks vs
def mDcOut (nst : Bool) (t : MG) (tt : MT) (mi1 : MI) (t1 : MG) (tt1 : MT) (mk mv : ME) (vs1 : List Nat) (σ : Sl) : List W → List D → List D → M W
  | [], ks, vs => mPure (.d (.dct ks vs))
  | w :: r, ks, vs => match t w σ with
    | none => mFail
    | some σ1 => mBind (mNoX (tt σ1)) fun b => if b then mBind (mNoX (mi1 σ1)) fun ws1 => mDcIn nst t1 tt1 mk mv (wipeA σ1 vs1) (fun ks' vs' => mDcOut nst t tt mi1 t1 tt1 mk mv vs1 σ r ks' vs') ws1 ks vs
      else mDcOut nst t tt mi1 t1 tt1 mk mv vs1 σ r ks vs
def mDc2 (nst : Bool) (mi : MI) (t : MG) (tt : MT) (mi1 : MI) (t1 : MG) (tt1 : MT) (mk mv : ME) (vs vs1 : List Nat) : ME := fun σ => mBind (mi σ) fun ws => mDcOut nst t tt mi1 t1 tt1 mk mv vs1 (wipeA σ vs) ws [] []
section
variable {K : PySem.W.Frag} {mg : MgX}
structure DAt (K : PySem.W.Frag) (mg : MgX) (G1 : Hp) (μ1 : Mu) (H1 : Hp) (Dl : Addr) (nst : Bool) (f : List D → List D → M W) (Q : VK) (EX : XK) (H : Hp) : Prop where
  go : ∃ G μ h ks ds vs o, Step G1 μ1 H1 G μ H ∧ RelH K mg G μ h H ∧ H Dl = some o ∧ DSt K mg G Dl nst ks vs o ∧ RepL K mg.f G ds vs ∧ G Dl = none ∧ ¬ Own μ Dl ∧ Ret K mg G1 μ1 H1 (f ks ds h) (fun w G' μ' _ H' => ∀ v, RepW K mg G' μ' w v → Q v H') EX
theorem t_dc2 {Wx : WX} {nst : Bool} {mi mi1 : MI} {t t1 : MG} {tt tt1 : MT} {mk mv : ME} {vs vs1 : List Nat} {σ : L2.St} {H : Hp} {Q : VK} (q : tE K mg Wx (mDc2 nst mi t tt mi1 t1 tt1 mk mv vs vs1) σ H Q) :
    tDc2 K mg nst (tI K mg Wx mi) (tG K mg vs t) (tT K mg WF tt) (tI K mg WF mi1) (tG K mg vs1 t1) (tT K mg WF tt1) (tE K mg WF mk) (tE K mg WF mv) vs vs1 σ H Q := by
  obtain ⟨G, μ, σA, h, rs, rh, k⟩ := q
  refine ⟨G, μ, σA, h, rs, rh, k.bind.imp fun ws G1 μ1 h1 H1 s1 rh1 k1 J fd Dl hD => ?_⟩
  have hg1 : G1 Dl = none := Evl.fresh_back rh1.ex hD
  have ho1 : ¬ Own μ1 Dl := fun ⟨z, hz, hh⟩ => by
    obtain ⟨⟨o1, y1⟩, o2, y2⟩ := rh1.there z hz
    rcases hh with e | e
    · rw [← e, hD] at y1; cases y1
    · rw [← e, hD] at y2; cases y2
  have st0 : Step G1 μ1 H1 G1 μ1 (upd H1 Dl (dct0 mg.f.w nst Dl)) := Step.own Step.refl hD _
  have rh0 := rh1.aside (dct0 mg.f.w nst Dl) hg1 ho1
  refine ⟨fun i mm H' => mm = ws.length - i ∧ DAt K mg G1 μ1 H1 Dl nst (mDcOut nst t tt mi1 t1 tt1 mk mv vs1 (wipeA σA vs) (ws.drop i)) Q (fun cls d H' => Wx cls d σ H') H', ⟨_, rfl, ⟨G1, μ1, h1, [], [], [], _, st0, rh0, upd_same, dst0, .nil, hg1, ho1, k1⟩⟩, ?_⟩
  rintro i mm H' ⟨rfl, ⟨G2, μ2, h2, ks, ds, us, o, s2, rh2, hDl, dst, rds, hg2, ho2, k2⟩⟩
  by_cases hi : i < ws.length
  · have ew : ws[i]? = some ws[i] := List.getElem?_eq_getElem hi
    obtain ⟨f1, _⟩ := fd G2 μ2 h2 H' s2.g rh2 i
    obtain ⟨go, yl⟩ := f1 _ ew
    have ed : ws.drop i = ws[i] :: ws.drop (i + 1) := List.drop_eq_getElem_cons hi
    rw [ed] at k2
    refine .inr ⟨go, fun H3 => DAt K mg G1 μ1 H1 Dl nst (mDcOut nst t tt mi1 t1 tt1 mk mv vs1 (wipeA σA vs) (ws.drop (i + 1))) Q (fun cls d H' => Wx cls d σ H') H3, fun H3 z => ⟨ws.length - (i + 1), by omega, rfl, z⟩, fun x H3 y => ?_⟩
    obtain ⟨G3, s3, rh3, rw3⟩ := yl x H3 y
    have hDl3 : H3 Dl = some o := s3.fr _ _ hDl ho2
    unfold mDcOut at k2
    cases q : t ws[i] (wipeA σA vs) with
    | none => rw [q] at k2; obtain ⟨_, _, e, _⟩ := k2; cases e
    | some σ4 =>
      rw [q] at k2
      refine ⟨G3, μ2, wipeA σA vs, h2, ws[i], σ4, ((((rs.mono s1).mono s2).wipe vs).mono s3), rh3, rw3, q, fun σ5 rs5 hs5 hl5 => ⟨wipe_same (hl5.trans (wipe_length σ vs)) hs5, ?_⟩⟩
      refine ⟨G3, μ2, σ4, h2, rs5, rh3, (Ret.bindB k2).imp fun b G4 μ4 h4 H4 s4 rh4 k4 => ?_⟩
      have hDl4 : H4 Dl = some o := s4.fr _ _ hDl3 ho2
      have ho4 : ¬ Own μ4 Dl := own_step s4 hDl3 ho2
      have hg4 : G4 Dl = none := s4.gn _ _ hDl3 ho2 (s3.gn _ _ hDl ho2 hg2)
      cases b with
      | false => exact ⟨G4, μ4, h4, ks, ds, us, o, ((s2.trans s3).trans s4), rh4, hDl4, (dst.mono s3.g).mono s4.g, (rds.mono s3.g).mono s4.g, hg4, ho4, k4⟩
      | true =>
        refine ⟨G4, μ4, σ4, h4, rs5.mono s4, rh4, (Ret.bindB k4).imp fun ws1 G5 μ5 h5 H5 s5 rh5 k5 J1 fd1 => ?_⟩
        have hDl5 : H5 Dl = some o := s5.fr _ _ hDl4 ho4
        have ho5 : ¬ Own μ5 Dl := own_step s5 hDl4 ho4
        have hg5 : G5 Dl = none := s5.gn _ _ hDl4 ho4 hg4
        have s15 : Step G1 μ1 H1 G5 μ5 H5 := ((s2.trans s3).trans s4).trans s5
        have r5 : RepL K mg.f G5 ds us := ((rds.mono s3.g).mono s4.g).mono s5.g
        have d5 := ((dst.mono s3.g).mono s4.g).mono s5.g
        have rsw : RelS K mg G5 μ5 (wipeA σ4 vs1) (wipe σ5 vs1) := ((rs5.mono s4).mono s5).wipe vs1
        let F : List D → List D → M W := fun ks' vs' => mDcOut nst t tt mi1 t1 tt1 mk mv vs1 (wipeA σA vs) (ws.drop (i + 1)) ks' vs'
        let P : Nat → Hp → Prop := fun j H' => ∃ G μ h ks ds us' o', Step G1 μ1 H1 G μ H' ∧ Step G5 μ5 EE G μ EE ∧ RelH K mg G μ h H' ∧ H' Dl = some o' ∧ DSt K mg G Dl nst ks us' o' ∧ RepL K mg.f G ds us' ∧ G Dl = none ∧ ¬ Own μ Dl ∧ Ret K mg G1 μ1 H1 (mDcIn nst t1 tt1 mk mv (wipeA σ4 vs1) F (ws1.drop j) ks ds h) (fun w G' μ' _ H' => ∀ v, RepW K mg G' μ' w v → Q v H') (fun cls d H' => Wx cls d σ H')
        refine ⟨fun j mm H' => mm = ws1.length - j ∧ P j H', ⟨_, rfl, G5, μ5, h5, ks, ds, us, o, s15, Step.refl, rh5, hDl5, d5, r5, hg5, ho5, k5⟩, ?_⟩
        rintro j mm H6 ⟨rfl, G6, μ6, h6, ks6, ds6, us6, o6, s6, e6, rh6, hDl6, dst6, rds6, hg6, ho6, k6⟩
        by_cases hj : j < ws1.length
        · have ew1 : ws1[j]? = some ws1[j] := List.getElem?_eq_getElem hj
          obtain ⟨f1, _⟩ := fd1 G6 μ6 h6 H6 e6.g rh6 j
          obtain ⟨go, yl⟩ := f1 _ ew1
          have ed1 : ws1.drop j = ws1[j] :: ws1.drop (j + 1) := List.drop_eq_getElem_cons hj
          rw [ed1] at k6
          refine .inr ⟨go, fun H' => P (j + 1) H', fun H3 z => ⟨ws1.length - (j + 1), by omega, rfl, z⟩, fun x H7 y => ?_⟩
          obtain ⟨G7, s7, rh7, rw7⟩ := yl x H7 y
          have hDl7 : H7 Dl = some o6 := s7.fr _ _ hDl6 ho6
          unfold mDcIn at k6
          cases q1 : t1 ws1[j] (wipeA σ4 vs1) with
          | none => rw [q1] at k6; obtain ⟨_, _, e, _⟩ := k6; cases e
          | some σ8 =>
            rw [q1] at k6
            refine ⟨G7, μ6, wipeA σ4 vs1, h6, ws1[j], σ8, (rsw.mono e6).mono s7, rh7, rw7, q1, fun σ9 rs9 hs9 hl9 => ⟨wipe_same (hl9.trans (wipe_length σ5 vs1)) hs9, ?_⟩⟩
            refine ⟨G7, μ6, σ8, h6, rs9, rh7, (Ret.bindB k6).imp fun b G8 μ8 h8 H8 s8 rh8 k8 => ?_⟩
            have hDl8 : H8 Dl = some o6 := s8.fr _ _ hDl7 ho6
            have ho8 : ¬ Own μ8 Dl := own_step s8 hDl7 ho6
            have hg8 : G8 Dl = none := s8.gn _ _ hDl7 ho6 (s7.gn _ _ hDl6 ho6 hg6)
            cases b with
            | false => exact ⟨G8, μ8, h8, ks6, ds6, us6, o6, ((s6.trans s7).trans s8), (e6.trans s7.fk).trans s8.fk, rh8, hDl8, (dst6.mono s7.g).mono s8.g, (rds6.mono s7.g).mono s8.g, hg8, ho8, k8⟩
            | true =>
              refine ⟨G8, μ8, σ8, h8, rs9.mono s8, rh8, (Ret.bindB k8).imp fun y9 G9 μ9 h9 H9 s9 rh9 k9 v rv => ?_⟩
              have hDl9 : H9 Dl = some o6 := s9.fr _ _ hDl8 ho8
              have ho9 : ¬ Own μ9 Dl := own_step s9 hDl8 ho8
              have hg9 : G9 Dl = none := s9.gn _ _ hDl8 ho8 hg8
              refine ⟨G9, μ9, σ8, h9, (rs9.mono s8).mono s9, rh9, (Ret.bindB k9).imp fun y10 G10 μ10 h10 H10 s10 rh10 k10 v2 rv2 => ?_⟩
              have hDl10 : H10 Dl = some o6 := s10.fr _ _ hDl9 ho9
              have ho10 : ¬ Own μ10 Dl := own_step s10 hDl9 ho9
              have hg10 : G10 Dl = none := s10.gn _ _ hDl9 ho9 hg9
              split at k10
              · rename_i kd d
                split at k10
                · rename_i c
                  cases ep : dputA nst ks6 ds6 kd d with
                  | none => rw [ep] at k10; obtain ⟨_, _, e, _⟩ := k10; cases e
                  | some p =>
                    rw [ep] at k10
                    obtain ⟨ks', ds'⟩ := p
                    have r10 : RepL K mg.f G10 ds6 us6 := (((rds6.mono s7.g).mono s8.g).mono s9.g).mono s10.g
                    have d10 := (((dst6.mono s7.g).mono s8.g).mono s9.g).mono s10.g
                    have rv' : Rep K mg.f G10 kd v := Rep.mono s10.g rv
                    refine d10.put ep r10 rv' rv2 hDl10 rh10.ex c fun o' vs' dst' rl' => ?_
                    exact ⟨G10, μ10, h10, ks', ds', vs', o', ((((s6.trans s7).trans s8).trans s9).trans s10).own hD _, (((e6.trans s7.fk).trans s8.fk).trans s9.fk).trans s10.fk, rh10.aside _ hg10 ho10, upd_same, dst', rl', hg10, ho10, k10⟩
                · obtain ⟨_, _, e, _⟩ := k10; cases e
              · obtain ⟨_, _, e, _⟩ := k10; cases e
        · obtain ⟨_, st⟩ := fd1 G6 μ6 h6 H6 e6.g rh6 j
          rw [List.drop_eq_nil_of_le (show ws1.length ≤ j by omega)] at k6
          exact .inl ⟨st (by omega), ⟨G6, μ6, h6, ks6, ds6, us6, o6, s6, rh6, hDl6, dst6, rds6, hg6, ho6, k6⟩⟩
  · obtain ⟨_, st⟩ := fd G2 μ2 h2 H' s2.g rh2 i
    rw [List.drop_eq_nil_of_le (by omega)] at k2
    refine .inl ⟨st (by omega), ?_⟩
    obtain ⟨r, h', e, k3⟩ := k2
    cases e
    have n1 := rh2.adopt hDl hg2 ho2
    have n2 : Step G1 μ1 H1 (upd G2 Dl o) μ2 H' := ⟨s2.g.trans (Ex.new hg2), s2.m, s2.fr, s2.st, fun p o hp hn hg => by rw [upd_ne (ne_of_none hp hD)]; exact s2.gn p o hp hn hg⟩
    refine k3 _ _ _ n2 n1 _ ?_
    have dst' := dst.mono (Ex.new hg2 (o := o))
    generalize ho : o = o' at dst'
    cases dst' with
    | k l => exact .dK (by rw [← ho]; exact upd_same) l (rds.mono (Ex.new hg2))
    | n r t v => exact .dN (by rw [← ho]; exact upd_same) r t v (rds.mono (Ex.new hg2))
end
section
variable {X : Cx} {Wx : WX} {kx vx tg iter tg1 iter1 : Expr} {ifs ifs1 : List Expr} {scope : Scope} {own : List (Str × Nat)} {pos : Pos} {mi mi1 : MI} {t t1 : MG} {tt tt1 : MT} {mk mv : ME} {vs1 : List Nat} {nst : Bool}
theorem pm_dc2 (hu : X.A.units + 100 < cLine) (hc : X.calm = true) (hN : X.N.Nodup) (hi : PI X tg iter (tI X.K X.mgx Wx mi)) (ok : BlkOk X.N X.env.scope scope own) (hv : ∀ i ∈ vs1, i ∈ own.map (·.2)) (hg : InB X scope fun Y => PG Y tg (tG X.K X.mgx (own.map (·.2)) t)) (ht : InB X scope fun Y => PTs Y ifs (tT X.K X.mgx WF tt)) (hi1 : InB X scope fun Y => PI Y tg1 iter1 (tI X.K X.mgx WF mi1))
    (hg1 : InB X scope fun Y => PG Y tg1 (tG X.K X.mgx vs1 t1)) (ht1 : InB X scope fun Y => PTs Y ifs1 (tT X.K X.mgx WF tt1)) (hk : InB X scope fun Y => PE Y kx (tE X.K X.mgx WF mk)) (he : InB X scope fun Y => PE Y vx (tE X.K X.mgx WF mv)) (hs : ∀ x, foldedSetIterable iter X.env x = pure x) (hs1 : ∀ env x, foldedSetIterable iter1 env x = pure x) :
    PM Wx X (.DictComp kx vx [⟨tg, iter, ifs, 0⟩, ⟨tg1, iter1, ifs1, 0⟩] scope pos) (mDc2 nst mi t tt mi1 t1 tt1 mk mv (own.map (·.2)) vs1) := pe_imp (pe_dc2 hu hc hN hi ok hv hg ht hi1 hg1 ht1 hk he hs hs1) fun _ _ _ => t_dc2
end
end PM

end
section
set_option Elab.async false
set_option linter.all false
set_option maxRecDepth 100000
set_option maxHeartbeats 4000000
namespace PM
open PySem PySem.Spec PyProof.Rows L2 N1
open Evl (Ex)
section
variable {X : Cx}
theorem setK_fresh {h : Heap} (P : Program) (w : World) : (h.push { cls := .type "set", dict := none, data := .set #[] 0 (.fresh 0 0 (!w.params.followText "set-order")) }).SetOf (mixKind P w) h.objs.size (fun _ => false) 0 :=
  ⟨_, #[], 0, _, Heap.get?_push_size _ rfl, ⟨rfl, rfl, rfl⟩, rfl, (fun e he => by simp at he), (fun k => by simp), (by decide), (by rfl), rfl⟩
theorem addK_ok {pins : List (Addr × Obj)} {σ : L2.St} {H : Hp} {s : Shared} {E : Value → Shared → Prop} {D : Addr} {S : Key → Bool} {n : Nat} {k : Key} {u : Value} {Q : Value → Shared → Prop} (I : Inv X pins σ H s) (ry : RelV (kV k) u) (ha : H D = some (SetK X.prog X.w D S n)) (room : n + 1 < scanBound)
    (q : ∀ s', Inv X pins σ (upd H D (SetK X.prog X.w D (fun j => S j || decide (j = k)) (if S k = true then n else n + 1))) s' → Q .none s') : wpAny (model X.prog X.w) X.A (call (.builtin "set.add") [.ref D, u]) Q E s := by
  refine call_set_add (kV_is ry) (key_scan ry) (setK_get I ha) room fun h' sb new => ?_
  have he : ∃ u, h'.get? D = some u := by
    have ⟨o, _, _, _, ho, _⟩ := new
    exact ⟨o, ho⟩
  exact q _ (I.write (e := D) (t' := s.toks + 1) (by rw [ha]; trivial) (.inl rfl) (fun b u hb hu => (sb.2 b hb).trans hu) he (setK_new new))
def tScK (P : Program) (w : World) (wi : TI) (g : TG) (tt : TT) (te : TE) (vs : List Nat) : TE := fun σ H Q => wi σ H fun J HH1 => ∀ D, HH1 D = none → ∃ W : Nat → Nat → Hp → Prop, (∃ m, W 0 m (upd HH1 D (SetK P w D (fun _ => false) 0))) ∧ ∀ i m H, W i m H →
  (J.stop i H ∧ Q (.ref D) H) ∨ (J.go i H ∧ ∃ Nx : Hp → Prop, (∀ H', Nx H' → ∃ m', m' < m ∧ W (i + 1) m' H') ∧ ∀ x H', J.yld i H x H' → g x (wipe σ vs) H' fun σ2 HH2 => wipe σ2 vs = wipe σ vs ∧ tt σ2 HH2 fun b HH3 =>
    if b = true then te σ2 HH3 fun y HH4 => ∃ (c : Key) (S : Key → Bool) (n : Nat), y = kV c ∧ HH4 D = some (SetK P w D S n) ∧ n + 1 < scanBound ∧ Nx (upd HH4 D (SetK P w D (fun j => S j || decide (j = c)) (if S c = true then n else n + 1))) else Nx HH3)
theorem sc_coreK {pp : List (Addr × Obj)} {s : Shared} {σ : L2.St} {H : Hp} {Q : VK} {elt tg iter : Expr} {ifs : List Expr} {scope : Scope} {own : List (Str × Nat)} {pos pos' : Pos} {wi : TI} {g : TG} {tt : TT} {te : TE} {use : Option (Value → Sem Unit)} {Qf : Value → Shared → Prop}
    (hc : X.calm = true) (hN : X.N.Nodup) (I : Inv X pp σ H s) (hi : PI X tg iter wi) (ok : BlkOk X.N X.env.scope scope own)
    (hg : ∀ (s : Shared) (H : Hp) (C : Addr) (cl : List (Str × Addr)) (ft : List Addr), PG (X.blk s H scope (compEnvC scope cl C X.env) ft) tg g) (ht : ∀ (s : Shared) (H : Hp) (C : Addr) (cl : List (Str × Addr)) (ft : List Addr), PTs (X.blk s H scope (compEnvC scope cl C X.env) ft) ifs tt)
    (he : ∀ (s : Shared) (H : Hp) (C : Addr) (cl : List (Str × Addr)) (ft : List Addr), PE (X.blk s H scope (compEnvC scope cl C X.env) ft) elt te) (hs : ∀ x, foldedSetIterable iter X.env x = pure x)
    (h : tScK X.prog X.w wi g tt te (own.map (·.2)) σ H Q)
    (hRR : ∀ D C s' m H', Inv X pp σ H' s' → Q (.ref D) H' → s'.heap.Ns C m → FpOk X pp H' C → compPost (model X.prog X.w) X.A X.xe use Qf (.ref D) C (.ok .next) s') :
    wpAny (model X.prog X.w) X.A (comprehension (.SetComp elt [⟨tg, iter, ifs, 0⟩] scope pos) scope X.env pos' (newSet (.type "set")) false (eval iter X.env) use) Qf X.xe s := by
  have hfr : ∀ y ∈ scope.names, y.2 = .free → ∃ c, X.env.cells.lookup y.1 = some c := fun y hy e => by
    rcases ok.free y hy e with k | k
    · exact I.ok.has _ (.inl k)
    · exact I.ok.has _ (.inr k)
  refine wpAny_comprehension_free (use := use) rfl hs (closure_ok hfr) ok.kind (fun y hy e => by rw [ok.uniq y hy, e])
    (thn (hi.run pp s σ H _ I h) fun xv z1 hx => thn hx fun itv z2 h2 => ?_)
  obtain ⟨it, ft, tn, J, HH2, e, J2, T, tu2, f2, q⟩ := h2
  subst e
  refine PpSet.newSet_ok (newEnv_comp ?_)
  generalize hD : z2.heap.objs.size = D
  have hDn : HH2 D = none := J2.hok.fresh (Nat.le_of_eq hD)
  obtain ⟨W, ⟨m0, w0⟩, turn⟩ := q D hDn
  generalize hs3 : ({ z2 with heap := z2.heap.push { cls := .type "set", dict := none, data := .set #[] 0 (.fresh 0 0 (!X.w.params.followText "set-order")) } } : Shared) = z3
  have J3 : Inv X pp σ (upd HH2 D (SetK X.prog X.w D (fun _ => false) 0)) z3 := by
    rw [← hs3]
    refine J2.laid (t' := z2.toks) (fun b o e => Heap.get?_push_of_some _ e) (Nat.le_of_eq hD) ?_
    rw [← hD]
    exact setK_new (setK_fresh X.prog X.w)
  have h3 : z3.heap = z2.heap.push { cls := .type "set", dict := none, data := .set #[] 0 (.fresh 0 0 (!X.w.params.followText "set-order")) } := by rw [← hs3]
  have sz : ∀ b ∈ ft, b < z2.heap.objs.size := fun b hb => by
    obtain ⟨o, e, _⟩ := T.obj _ _ tu2 b hb
    exact Heap.lt_size e
  have f3 : ∀ b ∈ ft, FpOk X pp (upd HH2 D (SetK X.prog X.w D (fun _ => false) 0)) b ∧ b < z3.heap.objs.size := fun b hb => by
    have hlt := sz b hb
    refine ⟨⟨?_, (f2 b hb).2⟩, by rw [h3, Heap.size_push]; exact Nat.lt_succ_of_lt hlt⟩
    rw [upd_ne (by rw [← hD]; exact Nat.ne_of_lt hlt)]
    exact (f2 b hb).1
  have tu3 : tn 0 z3.heap := T.keep _ _ _ tu2 fun b _ o e => by rw [h3]; exact Heap.get?_push_of_some _ e
  have J4 := block_start J3 ok hN f3
  have pg := hg z3 (upd HH2 D (SetK X.prog X.w D (fun _ => false) 0)) z3.heap.objs.size (cellsFrom (z3.heap.objs.size + 1) scope.names (cloFrom X.env.cells scope.names [])) ft
  have pt := ht z3 (upd HH2 D (SetK X.prog X.w D (fun _ => false) 0)) z3.heap.objs.size (cellsFrom (z3.heap.objs.size + 1) scope.names (cloFrom X.env.cells scope.names [])) ft
  have pe := he z3 (upd HH2 D (SetK X.prog X.w D (fun _ => false) 0)) z3.heap.objs.size (cellsFrom (z3.heap.objs.size + 1) scope.names (cloFrom X.env.cells scope.names [])) ft
  show codeAny _ _ (.compStart (.SetComp elt [⟨tg, iter, ifs, 0⟩] scope pos) 0 (.ref it) (.ref D) (compEnvC scope (cellsFrom (z3.heap.objs.size + 1) scope.names (cloFrom X.env.cells scope.names [])) z3.heap.objs.size X.env)) (compPost (model X.prog X.w) X.A X.xe use Qf (.ref D) z3.heap.objs.size) { z3 with heap := pushCells (z3.heap.push { cls := .type "dict", data := .dict #[] }) scope.names }
  have nfp : ∀ b ∈ ft, (upd HH2 D (SetK X.prog X.w D (fun _ => false) 0)) b = none := fun b hb => (f3 b hb).1.1
  generalize hce : compEnvC scope (cellsFrom (z3.heap.objs.size + 1) scope.names (cloFrom X.env.cells scope.names [])) z3.heap.objs.size X.env = ce at J4 pg pt pe ⊢
  have cL : ce.locals = z3.heap.objs.size := by subst hce; rfl
  generalize hH3 : upd HH2 D (SetK X.prog X.w D (fun _ => false) 0) = HH3 at J3 J4 pg pt pe w0 nfp f3
  generalize hs4 : ({ z3 with heap := pushCells (z3.heap.push { cls := .type "dict", data := .dict #[] }) scope.names } : Shared) = z4 at J4 ⊢
  have tu4 : tn 0 z4.heap := T.keep _ _ _ tu3 fun b _ o e => by rw [← hs4]; exact pushCells_keeps _ _ _ _ (Heap.get?_push_of_some _ e)
  have stat : ∀ {σ' : L2.St} {H' : Hp} {s' : Shared}, Inv (X.blk z3 HH3 scope ce ft) [] σ' H' s' → (∀ b ∈ ft, H' b = none) → ∀ b ∈ ft, FpOk (X.blk z3 HH3 scope ce ft) [] H' b := fun {σ' H' s'} I' hn b hb =>
    ⟨hn b hb, (I'.ok.exf b hb).1, I'.ok.exfs b hb, .inl hb, fun x c e => (I'.ok.exf b hb).2 x c e, fun p hp => absurd (show p ∈ ([] : List (Addr × Obj)) ++ [] from hp) (by simp)⟩
  have loop : codeAny (model X.prog X.w) X.A (.compLoop (.SetComp elt [⟨tg, iter, ifs, 0⟩] scope pos) 0 (.ref it) (.ref D) ce) (compPost (model X.prog X.w) X.A X.xe use Qf (.ref D) z3.heap.objs.size) z4 := by
    refine PpSet.compLoopS_any (fun n s' => ∃ i H', Inv (X.blk z3 HH3 scope ce ft) [] (wipe σ (own.map (·.2))) H' s' ∧ tn i s'.heap ∧ (∀ b ∈ ft, H' b = none) ∧ W i n H') ?_ m0 ⟨0, HH3, J4, tu4, nfp, w0⟩
    rintro n z5 ⟨i, HH5, J5, tu5, n5, w5⟩
    rcases turn i n HH5 w5 with ⟨stop, qq⟩ | ⟨go, Nx, hNx, step⟩
    · have td := T.done (X.blk z3 HH3 scope ce ft) rfl rfl rfl hc i [] z5 _ HH5 (fun _ _ => False) J5 (stat J5 n5) tu5 stop
      refine thnF td fun r z6 ⟨hr, J6⟩ => ?_
      subst hr
      have J7 : Inv X pp σ HH5 z6 := J3.call' (ch := ft) J6.os J6.base J6.hok J6.bare fun b hb => ⟨(f3 b hb).1.2.2.2.1, (f3 b hb).1.2.1, (f3 b hb).1.2.2.2.2.1, (f3 b hb).1.2.2.2.2.2⟩
      have nC : HH5 z3.heap.objs.size = none := by
        have z : HH5 ce.locals = none := J6.free
        rw [cL] at z
        exact z
      obtain ⟨m, hn, _⟩ := J6.loc
      have hn : z6.heap.Ns ce.locals m := hn
      rw [cL] at hn
      exact hRR D z3.heap.objs.size z6 m HH5 J7 qq hn (J3.fpOk (Nat.le_refl _) nC)
    · have ti := T.item (X.blk z3 HH3 scope ce ft) rfl rfl rfl hc i [] z5 _ HH5 (fun _ _ => False) J5 (stat J5 n5) tu5 go
      refine thnF ti fun r z6 ⟨u, hr, h6⟩ => ?_
      subst hr
      refine thnF h6 fun _ z7 ⟨x, HH7, J7, r7, y7, tu7, n7⟩ => ?_
      have J7' := J7.pinned (stat J7 n7) (T.obj _ _ tu7)
      refine thnF (pg.run _ z7 _ HH7 x u _ J7' r7 (step x HH7 y7)) fun _ z8 ⟨σ8, HH8, J8, hw8, q8⟩ => ?_
      refine thnF (pt.run _ z8 σ8 HH8 _ J8 q8) fun b z9 ⟨HH9, J9, q9⟩ => ?_
      have fin : ∀ {s' : Shared} {H' : Hp}, Inv (X.blk z3 HH3 scope ce ft) ([] ++ pinsAt ft z7.heap) σ8 H' s' → Nx H' → ∃ m, m < n ∧ ∃ i H', Inv (X.blk z3 HH3 scope ce ft) [] (wipe σ (own.map (·.2))) H' s' ∧ tn i s'.heap ∧ (∀ b ∈ ft, H' b = none) ∧ W i m H' := fun {s' H'} I' nx => by
        obtain ⟨m', hm, w'⟩ := hNx H' nx
        have pin' : ∀ b ∈ ft, ∀ o, z7.heap.get? b = some o → s'.heap.get? b = some o ∧ H' b = none := fun b hb o e =>
          let z := I'.pin (b, o) (List.mem_append_right _ (List.mem_append_right _ (mem_pinsAt hb e)))
          ⟨z.1, z.2.1⟩
        have hl : (wipe σ (own.map (·.2))).length = σ8.length := by rw [← hw8, wipe_length]
        refine ⟨m', hm, i + 1, H', (I'.unpinned (pins := [])).weak hl (fun j v e => ?_), T.keep _ _ _ tu7 fun b hb o e => (pin' b hb o e).1, fun b hb => ?_, w'⟩
        · rw [← hw8] at e
          exact (wipe_some e).1
        · obtain ⟨o, e, _⟩ := T.obj _ _ tu7 b hb
          exact (pin' b hb o e).2
      cases b with
      | false =>
        simp only [Bool.false_eq_true, if_false] at q9 ⊢
        exact fin J9 q9
      | true =>
        simp only [if_true] at q9 ⊢
        refine thnF (pe.run _ z9 σ8 HH9 _ J9 q9) fun z z10 ⟨yv, HH10, J10, r10, cb, S0, n0, ey, hD10, hz10, nx⟩ => ?_
        subst ey
        exact addK_ok (X := X.blk z3 HH3 scope ce ft) J10 r10 hD10 hz10 fun z11 J11 => fin J11 nx
  exact PpSet.codeAny_compStart_set loop (T.self X.A 0 _ _ _ tu4 loop)
theorem pe_scK {elt tg iter : Expr} {ifs : List Expr} {scope : Scope} {own : List (Str × Nat)} {pos : Pos} {wi : TI} {g : TG} {tt : TT} {te : TE} (hc : X.calm = true) (hN : X.N.Nodup) (hi : PI X tg iter wi) (ok : BlkOk X.N X.env.scope scope own)
    (hg : ∀ (s : Shared) (H : Hp) (C : Addr) (cl : List (Str × Addr)) (ft : List Addr), PG (X.blk s H scope (compEnvC scope cl C X.env) ft) tg g) (ht : ∀ (s : Shared) (H : Hp) (C : Addr) (cl : List (Str × Addr)) (ft : List Addr), PTs (X.blk s H scope (compEnvC scope cl C X.env) ft) ifs tt)
    (he : ∀ (s : Shared) (H : Hp) (C : Addr) (cl : List (Str × Addr)) (ft : List Addr), PE (X.blk s H scope (compEnvC scope cl C X.env) ft) elt te) (hs : ∀ x, foldedSetIterable iter X.env x = pure x := by intro _; rfl) :
    PE X (.SetComp elt [⟨tg, iter, ifs, 0⟩] scope pos) (tScK X.prog X.w wi g tt te (own.map (·.2))) := by
  refine ⟨fun pp s σ H Q I h => ?_⟩
  rw [PpSet.eval_SetComp]
  refine sc_coreK hc hN I hi ok hg ht he hs h fun D C s' m H' I' q hn f => ⟨m, hn, fun h'' sb => ?_⟩
  obtain ⟨f0, f1, f2, f3, f4, f5⟩ := f
  exact ⟨.ref D, H', I'.turned (t' := s'.toks) (fun b o hb e => (sb.2 b hb).trans e) f0 f1 f3 f4 f5, rfl, q⟩
end
def keyW : W → Option Key
  | .d (.int i) => some (.inl i)
  | .d (.str x) => some (.inr x)
  | _ => none
theorem keyW_v {K : PySem.W.Frag} {mg : MgX} {G : Hp} {μ : Mu} {w : W} {v : V} {c : Key} (r : RepW K mg G μ w v) (e : keyW w = some c) : v = kV c := by
  unfold keyW at e
  split at e
  · cases e; cases r; rfl
  · cases e; cases r; rfl
  · cases e
def memK (c : Key) (acc : List Key) : Bool := acc.any fun j => decide (j = c)
theorem memK_iff {c : Key} {acc : List Key} : memK c acc = true ↔ c ∈ acc := by
  unfold memK
  rw [List.any_eq_true]
  exact ⟨fun ⟨j, hj, e⟩ => by rw [decide_eq_true_eq] at e; exact e ▸ hj, fun h => ⟨c, h, by simp⟩⟩
def mSc1 (t : MG) (tt : MT) (te : ME) (σ : Sl) : List W → List Key → M W
  | [], acc => mPure (.d (.int (acc.length : Nat)))
  | w :: r, acc => match t w σ with
    | none => mFail
    | some σ1 => mBind (mNoX (tt σ1)) fun b => if b then mBind (mNoX (te σ1)) fun y => (match keyW y with
        | some c => if acc.length + 1 < scanBound then mSc1 t tt te σ r (if memK c acc then acc else acc ++ [c]) else mFail
        | none => mFail) else mSc1 t tt te σ r acc
def mLenSc (mi : MI) (t : MG) (tt : MT) (te : ME) (vs : List Nat) : ME := fun σ => mBind (mi σ) fun ws => mSc1 t tt te (wipeA σ vs) ws []
def rLenK (P : Program) (w : World) : List V → Hp → VK → Prop := fun xs H Q => ∃ a S n, xs = [V.ref a] ∧ H a = some (SetK P w a S n) ∧ Q (.int (n : Nat)) H
theorem cr_lenK {X : Cx} : CallR X (.builtin "len") (rLenK X.prog X.w) := by
  intro pins s σ H xs us Q I r h
  obtain ⟨a, S, n, rfl, ha, q⟩ := h
  cases r with
  | cons r rr =>
    cases rr
    cases r
    obtain ⟨o, es, ep, t, ho, hex, hd, hel, hS, hsz, hf, hn⟩ := setK_get I ha
    have hb : es.size < 2 ^ 63 := Nat.lt_of_lt_of_le hsz (by decide)
    refine call_len_set ho hex hd hf (by omega) ⟨.int (n : Nat), H, I.tok _, ⟨_, by rw [hn]⟩, q⟩
section
variable {K : PySem.W.Frag} {mg : MgX}
structure ScAt (P : Program) (w : World) (K : PySem.W.Frag) (mg : MgX) (G1 : Hp) (μ1 : Mu) (H1 : Hp) (Dl : Addr) (f : List Key → M W) (Q : VK) (EX : XK) (H : Hp) : Prop where
  go : ∃ G μ h acc S, Step G1 μ1 H1 G μ H ∧ RelH K mg G μ h H ∧ H Dl = some (SetK P w Dl S acc.length) ∧ (∀ c : Key, S c = true ↔ c ∈ acc) ∧ G Dl = none ∧ ¬ Own μ Dl ∧ Ret K mg G1 μ1 H1 (f acc h) (fun w G' μ' _ H' => ∀ v, RepW K mg G' μ' w v → Q v H') EX
theorem t_lenSc {P : Program} {w : World} {Wx : WX} {mi : MI} {t : MG} {tt : MT} {te : ME} {vs : List Nat} {σ : L2.St} {H : Hp} {Q : VK} (q : tE K mg Wx (mLenSc mi t tt te vs) σ H Q) :
    tScK P w (tI K mg Wx mi) (tG K mg vs t) (tT K mg WF tt) (tE K mg WF te) vs σ H (fun v H' => rLenK P w [v] H' Q) := by
  obtain ⟨G, μ, σA, h, rs, rh, k⟩ := q
  refine ⟨G, μ, σA, h, rs, rh, k.bind.imp fun ws G1 μ1 h1 H1 s1 rh1 k1 J fd Dl hD => ?_⟩
  have hg1 : G1 Dl = none := Evl.fresh_back rh1.ex hD
  have ho1 : ¬ Own μ1 Dl := fun ⟨z, hz, hh⟩ => by
    obtain ⟨⟨o1, y1⟩, o2, y2⟩ := rh1.there z hz
    rcases hh with e | e
    · rw [← e, hD] at y1; cases y1
    · rw [← e, hD] at y2; cases y2
  have st0 : Step G1 μ1 H1 G1 μ1 (upd H1 Dl (SetK P w Dl (fun _ => false) 0)) := Step.own Step.refl hD _
  have rh0 := rh1.aside (SetK P w Dl (fun _ => false) 0) hg1 ho1
  refine ⟨fun i mm H' => mm = ws.length - i ∧ ScAt P w K mg G1 μ1 H1 Dl (mSc1 t tt te (wipeA σA vs) (ws.drop i)) Q (fun cls d H' => Wx cls d σ H') H', ⟨_, rfl, ⟨G1, μ1, h1, [], _, st0, rh0, upd_same, fun c => by simp, hg1, ho1, k1⟩⟩, ?_⟩
  rintro i mm H' ⟨rfl, ⟨G2, μ2, h2, acc, S, s2, rh2, hDl, hS, hg2, ho2, k2⟩⟩
  by_cases hi : i < ws.length
  · have ew : ws[i]? = some ws[i] := List.getElem?_eq_getElem hi
    obtain ⟨f1, _⟩ := fd G2 μ2 h2 H' s2.g rh2 i
    obtain ⟨go, yl⟩ := f1 _ ew
    have ed : ws.drop i = ws[i] :: ws.drop (i + 1) := List.drop_eq_getElem_cons hi
    rw [ed] at k2
    refine .inr ⟨go, fun H3 => ScAt P w K mg G1 μ1 H1 Dl (mSc1 t tt te (wipeA σA vs) (ws.drop (i + 1))) Q (fun cls d H' => Wx cls d σ H') H3, fun H3 z => ⟨ws.length - (i + 1), by omega, rfl, z⟩, fun x H3 y => ?_⟩
    obtain ⟨G3, s3, rh3, rw3⟩ := yl x H3 y
    have hDl3 := s3.fr _ _ hDl ho2
    unfold mSc1 at k2
    cases q : t ws[i] (wipeA σA vs) with
    | none => rw [q] at k2; obtain ⟨_, _, e, _⟩ := k2; cases e
    | some σ4 =>
      rw [q] at k2
      refine ⟨G3, μ2, wipeA σA vs, h2, ws[i], σ4, ((((rs.mono s1).mono s2).wipe vs).mono s3), rh3, rw3, q, fun σ5 rs5 hs5 hl5 => ⟨wipe_same (hl5.trans (wipe_length σ vs)) hs5, ?_⟩⟩
      refine ⟨G3, μ2, σ4, h2, rs5, rh3, (Ret.bindB k2).imp fun b G4 μ4 h4 H4 s4 rh4 k4 => ?_⟩
      have hDl4 := s4.fr _ _ hDl3 ho2
      have ho4 : ¬ Own μ4 Dl := own_step s4 hDl3 ho2
      have hg4 : G4 Dl = none := s4.gn _ _ hDl3 ho2 (s3.gn _ _ hDl ho2 hg2)
      cases b with
      | false => exact ⟨G4, μ4, h4, acc, S, ((s2.trans s3).trans s4), rh4, hDl4, hS, hg4, ho4, k4⟩
      | true =>
        refine ⟨G4, μ4, σ4, h4, rs5.mono s4, rh4, (Ret.bindB k4).imp fun y5 G5 μ5 h5 H5 s5 rh5 k5 v rv => ?_⟩
        have hDl5 := s5.fr _ _ hDl4 ho4
        have ho5 : ¬ Own μ5 Dl := own_step s5 hDl4 ho4
        have hg5 : G5 Dl = none := s5.gn _ _ hDl4 ho4 hg4
        have s15 : Step G1 μ1 H1 G5 μ5 H5 := ((s2.trans s3).trans s4).trans s5
        cases ec : keyW y5 with
        | none => rw [ec] at k5; obtain ⟨_, _, e, _⟩ := k5; cases e
        | some c =>
          rw [ec] at k5
          dsimp only at k5
          by_cases cl : acc.length + 1 < scanBound
          · rw [if_pos cl] at k5
            refine ⟨c, S, acc.length, keyW_v rv ec, hDl5, cl, G5, μ5, h5, _, (fun j => S j || decide (j = c)), s15.own hD _, rh5.aside _ hg5 ho5, ?_, ?_, hg5, ho5, k5⟩
            · rw [upd_same]
              by_cases hm : memK c acc = true
              · rw [if_pos hm, if_pos ((hS c).mpr (memK_iff.mp hm))]
              · rw [if_neg hm, if_neg (fun z => hm (memK_iff.mpr ((hS c).mp z)))]
                simp
            · intro c'
              rw [Bool.or_eq_true, decide_eq_true_eq, hS c']
              by_cases hm : memK c acc = true
              · rw [if_pos hm]
                exact ⟨fun z => z.elim id fun z => z ▸ memK_iff.mp hm, .inl⟩
              · rw [if_neg hm]
                simp
          · rw [if_neg cl] at k5; obtain ⟨_, _, e, _⟩ := k5; cases e
  · obtain ⟨_, st⟩ := fd G2 μ2 h2 H' s2.g rh2 i
    rw [List.drop_eq_nil_of_le (by omega)] at k2
    refine .inl ⟨st (by omega), ?_⟩
    obtain ⟨r, h', e, k3⟩ := k2
    cases e
    exact ⟨Dl, S, acc.length, rfl, hDl, k3 _ _ _ s2 rh2 _ (.int _)⟩
end
section
variable {X : Cx} {Wx : WX} {elt tg iter : Expr} {ifs : List Expr} {scope : Scope} {own : List (Str × Nat)} {p pos cpos : Pos} {mi : MI} {t : MG} {tt : MT} {te : ME}
theorem pm_lenSc (hc : X.calm = true) (hg0 : Gl X "len") (hm0 : X.mg "len" = none) (hN : X.N.Nodup) (hi : PI X tg iter (tI X.K X.mgx Wx mi)) (ok : BlkOk X.N X.env.scope scope own)
    (hg : ∀ (s : Shared) (H : Hp) (C : Addr) (cl : List (Str × Addr)) (fp : List Addr), PG (X.blk s H scope (compEnvC scope cl C X.env) fp) tg (tG X.K X.mgx (own.map (·.2)) t)) (ht : ∀ (s : Shared) (H : Hp) (C : Addr) (cl : List (Str × Addr)) (fp : List Addr), PTs (X.blk s H scope (compEnvC scope cl C X.env) fp) ifs (tT X.K X.mgx WF tt))
    (he : ∀ (s : Shared) (H : Hp) (C : Addr) (cl : List (Str × Addr)) (fp : List Addr), PE (X.blk s H scope (compEnvC scope cl C X.env) fp) elt (tE X.K X.mgx WF te)) (hs : ∀ x, foldedSetIterable iter X.env x = pure x) :
    PM Wx X (.Call (.Name "len" p) [.SetComp elt [⟨tg, iter, ifs, 0⟩] scope cpos] [] pos) (mLenSc mi t tt te (own.map (·.2))) :=
  pe_imp (pe_callB cr_lenK hg0 hm0 rfl (pa_cons (pe_scK hc hN hi ok hg ht he hs) pa_nil)) fun σ H Q q => by
    have z := t_lenSc (P := X.prog) (w := X.w) q
    exact z
end
end PM

end
section
set_option Elab.async false
set_option linter.all false
set_option maxRecDepth 100000
set_option maxHeartbeats 4000000
namespace PM
open PySem PySem.Spec PyProof.Rows L2 N1
open Evl (Ex)
def isCellK : Option NameKind → Bool
  | some .cell => true
  | _ => false
def isFreeK : NameKind → Bool
  | .free => true
  | _ => false
def relS (Γ : SE) (names : List (Str × NameKind)) : List (Str × NameKind) := names.map fun (n, k) => if isFreeK k && isCellK (Γ.names.lookup n) then (n, .cell) else (n, k)
def blkΓ (Γ : SE) (scope : Scope) : SE := { Γ with names := relS Γ scope.names, raw := scope.names, fun_ := false }
def isOwnK : NameKind → Bool
  | .local => true
  | .cell => true
  | _ => false
def ownOf (Γ : SE) (scope : Scope) : List (Str × Nat) := scope.names.filterMap fun (n, k) => if isOwnK k then (ixOf Γ.N n).map fun i => (n, i) else none
def blkB (Γ : SE) (scope : Scope) : Bool := blkC Γ.N { scope with names := Γ.names } scope (ownOf Γ scope)
section
variable {X : Cx} {Γ : SE} {Wx : WX} {k : Nat}
theorem blkC_names {N : List Str} {sc sc' scope : Scope} {own : List (Str × Nat)} (h : sc.names = sc'.names) : blkC N sc scope own = blkC N sc' scope own := by
  unfold blkC
  rw [h]
theorem Sx.blkOk (S : Sx X Γ Wx k) {scope : Scope} (h : blkB Γ scope = true) : BlkOk X.N X.env.scope scope (ownOf Γ scope) := by
  refine blkOk_by ?_
  unfold blkB at h
  rw [S.N, ← h]
  exact blkC_names S.names
theorem beqK_free (k : NameKind) : (k == NameKind.free) = isFreeK k := by cases k <;> rfl
theorem beqK_cell (o : Option NameKind) : (o == some NameKind.cell) = isCellK o := by
  cases o with
  | none => rfl
  | some k => cases k <;> rfl
theorem Sx.blk (S : Sx X Γ Wx k) (hh : Γ.hot = false) {scope : Scope} (h : blkB Γ scope = true) (s : Shared) (H : Hp) (C : Addr) (cl : List (Str × Addr)) (fp : List Addr) :
    Sx (X.blk s H scope (compEnvC scope cl C X.env) fp) (blkΓ Γ scope) WF k where
  N := S.N
  nd := S.nd
  names := by
    show (relabel scope X.env).names = relS Γ scope.names
    unfold relabel relS
    refine List.map_congr_left fun x hx => ?_
    obtain ⟨n, kk⟩ := x
    have e1 : X.env.kindOf n = Γ.names.lookup n := by
      show X.env.scope.names.lookup n = _
      rw [S.names]
    show (if (kk == NameKind.free && X.env.scope.kind == .function && X.env.kindOf n == some .cell) = true then _ else _) = _
    rw [S.kind, e1, beqK_free, beqK_cell]
    have e2 : ((ScopeKind.function == ScopeKind.function) : Bool) = true := rfl
    rw [e2, Bool.and_true]
  kind := (S.blkOk h).kind
  calm := fun _ => ⟨(S.calm hh).1, (S.calm hh).2.1, fun z => nomatch z⟩
  hot := fun z => by
    have z : Γ.hot = true := z
    rw [hh] at z
    cases z
  fr := fun z => nomatch z
  fn := fun x z => by
    have z : scope.names.lookup x = some .cell := z
    show (scope.names.lookup x == some .cell) = true
    rw [z]
    rfl
  tk := takes_F
  mo := S.mo
  units := S.units
  kp := S.kp
theorem blk_mgx (hc : X.calm = true) (s : Shared) (H : Hp) (scope : Scope) (ce : Env) (fp : List Addr) : (X.blk s H scope ce fp).mgx = X.mgx := by
  rw [mgx_calm hc, mgx_calm (X := X.blk s H scope ce fp) hc]
def evTs (r : Ev) (Γ : SE) : List Expr → Option MT
  | [] => some mYes
  | [c] => some (r.t Γ c)
  | _ => none
def subN (is js : List Nat) : Bool := is.all fun i => js.any fun j => i == j
theorem subN_ok {is js : List Nat} (h : subN is js = true) : ∀ i ∈ is, i ∈ js := fun i hi => by
  unfold subN at h
  rw [List.all_eq_true] at h
  have := h i hi
  rw [List.any_eq_true] at this
  obtain ⟨j, hj, e⟩ := this
  have : i = j := by simpa using e
  exact this ▸ hj
def evLc (r : Ev) (Γ : SE) (elt : Expr) (gs : List Comprehension) (scope : Scope) : ME :=
  if Γ.hot || !blkB Γ scope then mBad else match gs with
  | [⟨tg, it, ifs, 0⟩] => if isSetE it then mBad else (match evG (blkΓ Γ scope) 4 tg, evTs r (blkΓ Γ scope) ifs with
    | some (is, t), some tt => if subN is ((ownOf Γ scope).map (·.2)) then mComp (evI r Γ tg it) t tt (evF r (blkΓ Γ scope) elt) ((ownOf Γ scope).map (·.2)) else mBad
    | _, _ => mBad)
  | [⟨tg, it, ifs, 0⟩, ⟨tg1, it1, ifs1, 0⟩] => if isSetE it || isSetE it1 then mBad else (match evG (blkΓ Γ scope) 4 tg, evTs r (blkΓ Γ scope) ifs, evG (blkΓ Γ scope) 4 tg1, evTs r (blkΓ Γ scope) ifs1 with
    | some (is, t), some tt, some (is1, t1), some tt1 => if subN is ((ownOf Γ scope).map (·.2)) && subN is1 ((ownOf Γ scope).map (·.2)) then mComp2 (evI r Γ tg it) t tt (evI r (blkΓ Γ scope) tg1 it1) t1 tt1 (evF r (blkΓ Γ scope) elt) ((ownOf Γ scope).map (·.2)) is1 else mBad
    | _, _, _, _ => mBad)
  | _ => mBad
def evLenSc (r : Ev) (Γ : SE) (elt : Expr) (gs : List Comprehension) (scope : Scope) : ME :=
  if Γ.hot || !blkB Γ scope then mBad else match gs with
  | [⟨tg, it, ifs, 0⟩] => if isSetE it then mBad else (match evG (blkΓ Γ scope) 4 tg, evTs r (blkΓ Γ scope) ifs with
    | some (is, t), some tt => if subN is ((ownOf Γ scope).map (·.2)) then mLenSc (evI r Γ tg it) t tt (evF r (blkΓ Γ scope) elt) ((ownOf Γ scope).map (·.2)) else mBad
    | _, _ => mBad)
  | _ => mBad
theorem or_no {a b : Bool} (h : ¬ (a || b) = true) : a = false ∧ b = false := by
  cases a <;> cases b <;> simp_all
structure Cl (X : Cx) (Wx : WX) (scope : Scope) (vs : List Nat) (tg : Expr) (ifs : List Expr) (elt : Expr) (t : MG) (tt : MT) (te : ME) : Prop where
  hg : ∀ (s : Shared) (H : Hp) (C : Addr) (cl : List (Str × Addr)) (fp : List Addr), PG (X.blk s H scope (compEnvC scope cl C X.env) fp) tg (tG X.K X.mgx vs t)
  ht : ∀ (s : Shared) (H : Hp) (C : Addr) (cl : List (Str × Addr)) (fp : List Addr), PTs (X.blk s H scope (compEnvC scope cl C X.env) fp) ifs (tT X.K X.mgx WF tt)
  he : ∀ (s : Shared) (H : Hp) (C : Addr) (cl : List (Str × Addr)) (fp : List Addr), PE (X.blk s H scope (compEnvC scope cl C X.env) fp) elt (tE X.K X.mgx WF te)
theorem evTs_ok {r : Ev} (R : EvOk r) (S : Sx X Γ Wx k) {ifs : List Expr} {tt : MT} (e : evTs r Γ ifs = some tt) : PTs X ifs (tT X.K X.mgx Wx tt) := by
  unfold evTs at e
  split at e
  · cases e; exact pmts_nil
  · cases e; exact pmts_one (R.t S _)
  · cases e
theorem clause {r : Ev} (R : EvOk r) (S : Sx X Γ Wx k) (hh : Γ.hot = false) {scope : Scope} (hb : blkB Γ scope = true) {tg elt : Expr} {ifs : List Expr} {is js : List Nat} {t : MG} {tt : MT} (e1 : evG (blkΓ Γ scope) 4 tg = some (is, t)) (e2 : evTs r (blkΓ Γ scope) ifs = some tt) (hs : ∀ i ∈ is, i ∈ js) :
    Cl X Wx scope js tg ifs elt t tt (evF r (blkΓ Γ scope) elt) where
  hg := fun s H C cl fp => by
    have z := tG_more hs (evG_ok (S.blk hh hb s H C cl fp) 4 e1)
    rwa [blk_mgx (S.calm hh).1] at z
  ht := fun s H C cl fp => by
    have z := evTs_ok R (S.blk hh hb s H C cl fp) e2
    rwa [blk_mgx (S.calm hh).1] at z
  he := fun s H C cl fp => by
    have z := evF_ok R (S.blk hh hb s H C cl fp) elt
    show PE _ _ _
    have z : PE _ _ (tE X.K (X.blk s H scope (compEnvC scope cl C X.env) fp).mgx WF _) := z
    rwa [blk_mgx (S.calm hh).1] at z
theorem evLc_ok {r : Ev} (R : EvOk r) (S : Sx X Γ Wx k) {elt : Expr} {gs : List Comprehension} {scope : Scope} {pos : Pos} : PM Wx X (.ListComp elt gs scope pos) (evLc r Γ elt gs scope) := by
  unfold evLc
  split
  · exact pm_bad
  · rename_i h0
    obtain ⟨hh, hb⟩ := or_no h0
    have hb : blkB Γ scope = true := by simpa using hb
    have hc := (S.calm hh).1
    split
    · rename_i tg it ifs
      split
      · exact pm_bad
      · rename_i hi
        split
        · rename_i is t tt e1 e2
          split
          · rename_i hs
            have c := clause (Wx := Wx) (elt := elt) R S hh hb e1 e2 (subN_ok hs)
            exact pm_comp hc S.nd (evI_ok R S) (S.blkOk hb) c.hg c.ht c.he (fold_no (by simpa using hi))
          · exact pm_bad
        · exact pm_bad
    · rename_i tg it ifs tg1 it1 ifs1
      split
      · exact pm_bad
      · rename_i hi
        obtain ⟨hi1, hi2⟩ := or_no hi
        split
        · rename_i is t tt is1 t1 tt1 e1 e2 e3 e4
          split
          · rename_i hs
            rw [Bool.and_eq_true] at hs
            have c := clause (Wx := Wx) (elt := elt) R S hh hb e1 e2 (subN_ok hs.1)
            have c1 := clause (Wx := Wx) (elt := elt) R S hh hb e3 e4 (fun i hi => hi)
            refine pm_comp2 hc S.nd (evI_ok R S) (S.blkOk hb) (subN_ok hs.2) c.hg c.ht (fun s H C cl fp => ?_) c1.hg c1.ht c.he (fold_no hi1) (fun env => fold_no hi2)
            have z := evI_ok R (S.blk hh hb s H C cl fp) (tg := tg1) (it := it1)
            rwa [blk_mgx hc] at z
          · exact pm_bad
        · exact pm_bad
    · exact pm_bad
theorem evLenSc_ok {r : Ev} (R : EvOk r) (S : Sx X Γ Wx k) {elt : Expr} {gs : List Comprehension} {scope : Scope} {p pos cpos : Pos} (hg0 : Gl X "len") (hm0 : X.mg "len" = none) : PM Wx X (.Call (.Name "len" p) [.SetComp elt gs scope cpos] [] pos) (evLenSc r Γ elt gs scope) := by
  unfold evLenSc
  split
  · exact pm_bad
  · rename_i h0
    obtain ⟨hh, hb⟩ := or_no h0
    have hb : blkB Γ scope = true := by simpa using hb
    have hc := (S.calm hh).1
    split
    · rename_i tg it ifs
      split
      · exact pm_bad
      · rename_i hi
        split
        · rename_i is t tt e1 e2
          split
          · rename_i hs
            have c := clause (Wx := Wx) (elt := elt) R S hh hb e1 e2 (subN_ok hs)
            exact pm_lenSc hc hg0 hm0 S.nd (evI_ok R S) (S.blkOk hb) c.hg c.ht c.he (fold_no (by simpa using hi))
          · exact pm_bad
        · exact pm_bad
    · exact pm_bad
def evDc (r : Ev) (Γ : SE) (kx vx : Expr) (gs : List Comprehension) (scope : Scope) : ME :=
  if Γ.hot || !blkB Γ scope then mBad else match gs with
  | [⟨tg, it, ifs, 0⟩, ⟨tg1, it1, ifs1, 0⟩] => if isSetE it || isSetE it1 then mBad else (match evG (blkΓ Γ scope) 4 tg, evTs r (blkΓ Γ scope) ifs, evG (blkΓ Γ scope) 4 tg1, evTs r (blkΓ Γ scope) ifs1 with
    | some (is, t), some tt, some (is1, t1), some tt1 => if subN is ((ownOf Γ scope).map (·.2)) && subN is1 ((ownOf Γ scope).map (·.2)) then mDc2 (isTupE kx) (evI r Γ tg it) t tt (evI r (blkΓ Γ scope) tg1 it1) t1 tt1 (evF r (blkΓ Γ scope) kx) (evF r (blkΓ Γ scope) vx) ((ownOf Γ scope).map (·.2)) is1 else mBad
    | _, _, _, _ => mBad)
  | _ => mBad
theorem evDc_ok {r : Ev} (R : EvOk r) (S : Sx X Γ Wx k) {kx vx : Expr} {gs : List Comprehension} {scope : Scope} {pos : Pos} : PM Wx X (.DictComp kx vx gs scope pos) (evDc r Γ kx vx gs scope) := by
  unfold evDc
  split
  · exact pm_bad
  · rename_i h0
    obtain ⟨hh, hb⟩ := or_no h0
    have hb : blkB Γ scope = true := by simpa using hb
    have hc := (S.calm hh).1
    split
    · rename_i tg it ifs tg1 it1 ifs1
      split
      · exact pm_bad
      · rename_i hi
        obtain ⟨hi1, hi2⟩ := or_no hi
        split
        · rename_i is t tt is1 t1 tt1 e1 e2 e3 e4
          split
          · rename_i hs
            rw [Bool.and_eq_true] at hs
            have c := clause (Wx := Wx) (elt := kx) R S hh hb e1 e2 (subN_ok hs.1)
            have c1 := clause (Wx := Wx) (elt := vx) R S hh hb e3 e4 (fun i hi => hi)
            refine pm_dc2 S.units hc S.nd (evI_ok R S) (S.blkOk hb) (subN_ok hs.2) c.hg c.ht (fun s H C cl fp => ?_) c1.hg c1.ht c.he c1.he (fold_no hi1) (fun env => fold_no hi2)
            have z := evI_ok R (S.blk hh hb s H C cl fp) (tg := tg1) (it := it1)
            rwa [blk_mgx hc] at z
          · exact pm_bad
        · exact pm_bad
    · exact pm_bad
def isLenSc (Γ : SE) (f : Expr) (es : List Expr) (kws : List Keyword) : Option (Expr × List Comprehension × Scope) := match f, es, kws with
  | .Name x _, [.SetComp elt gs scope _], [] => if x == ("len" : Str) && isGlb (Γ.names.lookup x) && Γ.mo.free x then some (elt, gs, scope) else none
  | _, _, _ => none
def evE (r : Ev) (Γ : SE) : Expr → ME
  | .Constant c _ _ => evConst c
  | .Name x _ => evName Γ x
  | .BinOp a op b _ => mBin (opB Γ op) (r.e Γ a) (r.e Γ b)
  | .UnaryOp op a _ => (match op with | .Not => mNotV (r.e Γ a) | .USub => mNeg (r.e Γ a) | _ => mBad)
  | .BoolOp op vs _ => vBools op (vs.map (r.e Γ))
  | .Compare a ops bs _ => evCmp r Γ a ops bs
  | .IfExp c a b _ => mIf (r.t Γ c) (r.e Γ a) (r.e Γ b)
  | .Tuple es _ _ => mTup (evAF r Γ es)
  | .List es _ => mLst (evAF r Γ es)
  | .Attribute o f _ => evAttr r Γ o f
  | .Subscript a b _ => evSub r Γ a b
  | .Call f es kws pos => (match isLenSc Γ f es kws with
    | some (elt, gs, scope) => evLenSc r Γ elt gs scope
    | none => evCall r Γ f es kws pos)
  | .ListComp elt gs scope _ => evLc r Γ elt gs scope
  | .DictComp kx vx gs scope _ => evDc r Γ kx vx gs scope
  | _ => mBad
theorem evE_ok {r : Ev} (R : EvOk r) (S : Sx X Γ Wx k) (e : Expr) : PM Wx X e (evE r Γ e) := by
  unfold evE
  split
  · exact evConst_ok
  · exact evName_ok S
  · exact pm_opX (opB_ok S) (R.e S _) (R.e S _)
  · split
    · exact pm_not (R.e S _)
    · exact pm_neg (R.e S _)
    · exact pm_bad
  · exact vBools_ok R S _ _
  · exact evCmp_ok R S
  · exact pm_if (R.t S _) (R.e S _) (R.e S _)
  · exact pm_tup (evAF_ok R S _)
  · exact pm_lst (evAF_ok R S _)
  · exact evAttr_ok R S
  · exact evSub_ok R S
  · split
    · rename_i f es kws pos elt gs scope e
      unfold isLenSc at e
      split at e
      · split at e
        · rename_i hx
          cases e
          simp only [Bool.and_eq_true] at hx
          have e1 := eq_of_beq hx.1.1
          subst e1
          exact evLenSc_ok R S (S.glb hx.1.2) (S.mo.free _ hx.2).1
        · cases e
      · cases e
    · exact evCall_ok R S
  · exact evLc_ok R S
  · exact evDc_ok R S
  · exact pm_bad
end
end PM

end
section
set_option Elab.async false
set_option linter.all false
set_option maxRecDepth 100000
set_option maxHeartbeats 4000000
namespace PM
open PySem PySem.Spec PyProof.Rows L2 N1
open Evl (Ex)
def notComp : Expr → Bool
  | .ListComp .. => false
  | .SetComp .. => false
  | .DictComp .. => false
  | _ => true
def notTup : Expr → Bool
  | .Tuple .. => false
  | _ => true
def notSlc : Expr → Bool
  | .Slice .. => false
  | _ => true
section
variable {X : Cx} {Γ : SE} {Wx : WX} {k : Nat}
theorem sw_no {e : Expr} (h : notComp e = true) {t : Option Expr} {l : Nat} {env : Env} : swapsWith e t l env = pure false := by
  cases e <;> first | rfl | cases h
theorem sws_no {e : Expr} (h : notTup e = true) {t : Expr} {env : Env} : swappedStores [t] e env = pure none := by
  cases e <;> first | (cases h; done) | (cases t <;> rfl)
theorem t_asgN {K : PySem.W.Frag} {mg : MgX} {me : ME} {i : Nat} {D : Ends} {σ : L2.St} {H : Hp} (q : tS K mg Wx (mAsg me (mgName i)) D σ H) : tE K mg Wx me σ H fun x H1 => gName i x σ H1 D.nx := by
  obtain ⟨G, μ, σA, h, rs, rh, k⟩ := q
  refine ⟨G, μ, σA, h, rs, rh, (RetS.then rs k).imp fun w G1 μ1 h1 H1 s1 rh1 k1 v rv => ?_⟩
  cases q : mgName i w σA with
  | none => rw [q] at k1; obtain ⟨_, _, e, _⟩ := k1; cases e
  | some σ1 =>
    rw [q] at k1
    unfold mgName at q
    split at q
    · cases q
      exact k1.nx rh1 ((rs.mono s1).set rv)
    · cases q
def evM (r : Ev) (Γ : SE) (x : Str) (e : Expr) : ME := match Γ.mu.lookup x with
  | none => evF r Γ e
  | some _ => match e with
    | .List es _ => mLstR (evAF r Γ es)
    | .Call (.Name f _) [.Call (.Name y _) [a] [] _] [] _ => if f == ("list" : Str) && y == ("range" : Str) && Γ.mo.free f && isGlb (Γ.names.lookup f) && Γ.mo.free y && isGlb (Γ.names.lookup y) && noStar [a] && !Γ.hot then mLstRgR (r.e Γ a) else r.e Γ e
    | .Call (.Name f _) [a] [] _ => if f == ("list" : Str) && Γ.mo.free f && isGlb (Γ.names.lookup f) && noStar [a] && notComp a then mCB fListR (evAF r Γ [a]) else r.e Γ e
    | _ => r.e Γ e
theorem evM_ok {r : Ev} (R : EvOk r) (S : Sx X Γ Wx k) {x : Str} {e : Expr} : PM Wx X e (evM r Γ x e) := by
  unfold evM
  split
  · exact evF_ok R S _
  · split
    · exact pm_lstR (evAF_ok R S _)
    · split
      · rename_i hh
        simp only [Bool.and_eq_true] at hh
        obtain ⟨⟨⟨⟨⟨⟨⟨h1, h2⟩, h3⟩, h4⟩, h5⟩, h6⟩, h7⟩, h8⟩ := hh
        have e1 := eq_of_beq h1
        have e2 := eq_of_beq h2
        subst e1 e2
        have hh : Γ.hot = false := by simpa using h8
        exact pm_lstRgR (S.calm hh).1 (S.glb h4) (S.mo.free _ h3).1 (S.glb h6) (S.mo.free _ h5).1 (R.e S _) h7
      · exact R.e S _
    · split
      · rename_i f p a pos hh
        simp only [Bool.and_eq_true] at hh
        obtain ⟨⟨⟨⟨h1, h2⟩, h3⟩, h4⟩, h5⟩ := hh
        have e1 := eq_of_beq h1
        subst e1
        obtain ⟨s1, s2⟩ := noStar_cons (env := X.env) h4
        exact pm_callTy cm_listR call_list_of (S.glb h3) (S.mo.free _ h2).1 (by decide +kernel) (evAF_ok R S _) (by decide) (by decide) s1 rfl
      · exact R.e S _
    · exact R.e S _
def isLocalK : Option NameKind → Bool
  | some .local => true
  | _ => false
theorem isLocalK_ok {o : Option NameKind} (h : isLocalK o = true) : o = some .local := by
  unfold isLocalK at h
  split at h
  · rfl
  · cases h
def swOk (Γ : SE) (x : Str) (py : Pos) (scope : Scope) (pos : Pos) : Bool := isLocalK (Γ.names.lookup x) && (py.line == pos.line) && !(scope.names.any fun (n, k) => n == x && (k == .local || k == .cell))
def evSetLc (r : Ev) (Γ : SE) (x : Str) (py : Pos) (elt : Expr) (gs : List Comprehension) (scope : Scope) (pos : Pos) : MS :=
  if swOk Γ x py scope pos || isLocN Γ x then (match ixOf Γ.N x with
    | some i => mAsg (evLc r Γ elt gs scope) (mgName i)
    | none => msBad) else msBad
theorem sw_lc {elt : Expr} {gs : List Comprehension} {scope : Scope} {pos py : Pos} {y : Str} {l : Nat} {env : Env} (hk : env.scope.kind = .function) (h : ¬ swOk { N := [], names := env.scope.names, raw := [], mu := [], hot := false, fun_ := false, mo := Γ.mo } y py scope pos = true) : swapsWith (.ListComp elt gs scope pos) (some (.Name y py)) l env = pure false := by
  have hb : env.blockKind = .function := by unfold Env.blockKind; rw [hk]; rfl
  unfold swapsWith
  simp only [hb, Expr.pos]
  show (pure _ : Sem Bool) = pure false
  congr 1
  unfold swOk at h
  simp only [Bool.and_eq_true, Bool.not_eq_true'] at h
  have ek : (env.kindOf y == some .local) = isLocalK (env.scope.names.lookup y) := by
    show (env.scope.names.lookup y == some .local) = _
    cases q : env.scope.names.lookup y with
    | none => rfl
    | some kk => cases kk <;> rfl
  rw [ek]
  cases a1 : isLocalK (env.scope.names.lookup y) with
  | false => simp
  | true =>
    cases a2 : (py.line == pos.line) with
    | false => simp [a2]
    | true =>
      cases a3 : (scope.names.any fun (n, k) => n == y && (k == .local || k == .cell)) with
      | true => simp [a3]
      | false => exact absurd ⟨⟨a1, a2⟩, a3⟩ h
theorem msBad_asg {i : Nat} {K : PySem.W.Frag} {mg : MgX} {D : Ends} {σ : L2.St} {H : Hp} (q : tS K mg Wx (mAsg mBad (mgName i)) D σ H) : False := by
  obtain ⟨G, μ, σA, h, rs, rh, _, _, e, _⟩ := q
  cases e
theorem pms_badA {st : Stmt} {i : Nat} : PMS Wx X st (mAsg mBad (mgName i)) := ⟨fun pins s σ H D I q => (msBad_asg q).elim⟩
theorem evSetLc_ok {r : Ev} (R : EvOk r) (S : Sx X Γ Wx k) {x : Str} {py pos spos : Pos} {elt : Expr} {gs : List Comprehension} {scope : Scope} : PMS Wx X (.Assign [.Name x py] (.ListComp elt gs scope pos) spos) (evSetLc r Γ x py elt gs scope pos) := by
  unfold evSetLc
  by_cases hsw : swOk Γ x py scope pos = true
  · rw [hsw, Bool.true_or, if_pos rfl]
    unfold swOk at hsw
    simp only [Bool.and_eq_true] at hsw
    obtain ⟨⟨w1, w2⟩, w3⟩ := hsw
    have hl : X.env.scope.names.lookup x = some .local := by rw [S.names]; exact isLocalK_ok w1
    have hsw : swapsWith (.ListComp elt gs scope pos) (some (.Name x py)) spos.line X.env = pure true := sw_true S.kind hl w2 (by simpa using w3)
    split
    · rename_i i ei
      have hi : X.N[i]? = some x := by rw [S.N]; exact ixOf_at ei
      unfold evLc
      split
      · exact pms_badA
      · rename_i h0
        obtain ⟨hh, hb⟩ := or_no h0
        have hb : blkB Γ scope = true := by simpa using hb
        have hc := (S.calm hh).1
        split
        · rename_i tg it ifs
          split
          · exact pms_badA
          · rename_i hi'
            split
            · rename_i is t tt e1 e2
              split
              · rename_i hs
                have c := clause (Wx := Wx) (elt := elt) R S hh hb e1 e2 (subN_ok hs)
                exact ps_imp (ps_setLc hc S.nd hi hl hsw (evI_ok R S) (S.blkOk hb) c.hg c.ht c.he (fold_no (by simpa using hi'))) fun D σ H q => t_comp (t_asgN q)
              · exact pms_badA
            · exact pms_badA
        · rename_i tg it ifs tg1 it1 ifs1
          split
          · exact pms_badA
          · rename_i hi'
            obtain ⟨hi1, hi2⟩ := or_no hi'
            split
            · rename_i is t tt is1 t1 tt1 e1 e2 e3 e4
              split
              · rename_i hs
                rw [Bool.and_eq_true] at hs
                have c := clause (Wx := Wx) (elt := elt) R S hh hb e1 e2 (subN_ok hs.1)
                have c1 := clause (Wx := Wx) (elt := elt) R S hh hb e3 e4 (fun i hi => hi)
                refine ps_imp (ps_setLc2 hc S.nd hi hl hsw (evI_ok R S) (S.blkOk hb) (subN_ok hs.2) c.hg c.ht (fun s H C cl fp => ?_) c1.hg c1.ht c.he (fold_no hi1) (fun env => fold_no hi2)) fun D σ H q => t_comp2 (t_asgN q)
                have z := evI_ok R (S.blk hh hb s H C cl fp) (tg := tg1) (it := it1)
                rwa [blk_mgx hc] at z
              · exact pms_badA
            · exact pms_badA
        · exact pms_badA
    · exact pms_bad
  · split
    · rename_i hl
      have hl : isLocN Γ x = true := by
        rcases Bool.or_eq_true _ _ ▸ hl with z | z
        · exact absurd z hsw
        · exact z
      split
      · rename_i i ei
        obtain ⟨l1, l2⟩ := S.loc hl
        exact pms_set S.nd (by rw [S.N]; exact ixOf_at ei) l1 (evLc_ok R S) (sw_lc (Γ := Γ) S.kind (by
          unfold swOk at hsw ⊢
          rw [S.names]
          exact hsw)) l2
      · exact pms_bad
    · exact pms_bad
def slotIx (mo : Mo) (f c : Str) : Option Nat := (mo.cls c).bind fun ci => ixOf ci.slots f
def mStoA (mo : Mo) (f : Str) (me mo' : ME) : MS := fun σ => mThen (mBind (me σ) fun w => mBind (mo' σ) fun x => mPure (w, x)) σ fun z h => match z.2 with
  | .ref a => (match h[a]? with
    | some (.inst c fs) => (match slotIx mo f c with
      | some i => some (.nx σ, h.set a (.inst c (putA i z.1 fs)))
      | none => none)
    | _ => none)
  | _ => none
theorem Sx.slot (S : Sx X Γ Wx k) {f c : Str} {i : Nat} (e : slotIx Γ.mo f c = some i) : ∃ C p, SlF X.K X.mg c f i C p := by
  unfold slotIx at e
  cases q : Γ.mo.cls c with
  | none => rw [q] at e; cases e
  | some ci =>
    rw [q] at e
    obtain ⟨C, F⟩ := S.mo.cls c ci q
    obtain ⟨p, hp⟩ := F.slot i f (ixOf_at e)
    exact ⟨C, p, F.at_, F.scls, hp⟩
theorem pms_stoA (S : Sx X Γ Wx k) {e o : Expr} {me mo : ME} {f : Str} {pos pos' : Pos} (he : PM Wx X e me) (ho : PM Wx X o mo) (hs : swapsWith e (some (.Attribute o f pos')) pos.line X.env = pure false) : PMS Wx X (.Assign [.Attribute o f pos'] e pos) (mStoA Γ.mo f me mo) :=
  ps_imp (SlX.ps_sl ho he hs) fun D σ H ⟨G, μ, σA, h, rs, rh, k⟩ => by
    have k0 := RetS.then rs k
    refine ⟨G, μ, σA, h, rs, rh, k0.bind.imp fun w G1 μ1 h1 H1 s1 rh1 k1 v rv => ⟨G1, μ1, σA, h1, rs.mono s1, rh1, k1.bind.imp fun x G2 μ2 h2 H2 s2 rh2 k2 u ru => ?_⟩⟩
    have k3 := Ret.pure k2 rh2
    obtain ⟨r, h', e, k4⟩ := k3
    dsimp only at e
    split at e
    · rename_i a
      split at e
      · rename_i c' fs e1
        split at e
        · rename_i i ei
          cases e
          obtain ⟨C, p, F⟩ := S.slot ei
          obtain ⟨q, eq, rfl⟩ := ru
          obtain ⟨C', vs, m, s, hl, nq, ro⟩ := rh2.ok _ _ _ eq e1
          have m : X.mg _ = _ := m
          rw [F.at_] at m
          cases m
          obtain ⟨n1, n2⟩ := rh2.poke (H' := SlX.slH H2 q.1 C q.2 (SlX.putS i v vs)) (o' := .inst c' (putA i w fs)) eq e1 (fun z => nomatch z) (fun b z1 z2 => SlX.slH_ne z1 z2) (by
            rcases SlX.slH_slt (H := H2) (a := q.1) (C := C) (dx := q.2) (vs := SlX.putS i v vs) nq with ⟨y, _⟩ | ⟨y1, y2⟩
            · refine ⟨⟨_, y⟩, ?_⟩
              unfold SlX.slH
              rw [upd_ne nq]
              exact ⟨_, upd_same⟩
            · exact ⟨⟨_, y1⟩, _, y2⟩) ⟨C, _, F.at_, SlX.slH_slt nq, putA_len hl, nq, putA_rep hl ro (rv.mono s2)⟩
          exact ⟨q.1, C, q.2, p, vs, i, rfl, s, F.cls, F.sl, k4 _ _ _ σ n2 n1 (((rs.mono s1).mono s2).mono n2)⟩
        · cases e
      · cases e
    · cases e
def isStE : Expr → Bool
  | .Starred .. => true
  | _ => false
def nmAt (names : List (Str × NameKind)) (line : Nat) : Expr → Option Str
  | .Name id pos => if names.lookup id == some .local && pos.line == line then some id else none
  | _ => none
def swp (names : List (Str × NameKind)) (ts vs : List Expr) : Option (Option (List Str)) :=
  if !(ts.length == 2 || ts.length == 3) || vs.length != ts.length then some none else
  if vs.any isStE then some none else
  let ns := ts.filterMap (nmAt names ((ts.head?.map (·.pos.line)).getD 0))
  if ns.length != ts.length || ns.eraseDups.length != ns.length then some none else
  if vs.all (foldedForSure 8) then some none else
  if vs.all (constantsAlone 8) then none else some (some ns)
theorem swp_ok {env : Env} {ts vs : List Expr} {k1 k2 : Nat} {p1 p2 : Pos} {o : Option (List Str)} (hk : env.scope.kind = .function) (h : swp env.scope.names ts vs = some o) : swappedStores [.Tuple ts k1 p1] (.Tuple vs k2 p2) env = pure o := by
  have hb : env.blockKind = .function := by unfold Env.blockKind; rw [hk]; rfl
  have e1 : ∀ f : Expr → Bool, (∀ e, f e = isStE e) → vs.any f = vs.any isStE := fun f h => congrArg _ (funext h)
  have e2 : ∀ g : Expr → Option Str, (∀ e, g e = nmAt env.scope.names ((ts.head?.map (·.pos.line)).getD 0) e) → ts.filterMap g = ts.filterMap (nmAt env.scope.names ((ts.head?.map (·.pos.line)).getD 0)) := fun g h => congrArg (fun f => ts.filterMap f) (funext h)
  unfold swp at h
  unfold swappedStores
  dsimp only
  rw [hb, e1, e2]
  · by_cases c1 : (!(ts.length == 2 || ts.length == 3) || vs.length != ts.length) = true
    · rw [if_pos c1] at h
      cases h
      rw [if_pos (by rw [c1]; rfl)]
    · rw [if_neg c1] at h
      rw [if_neg (by have : (ScopeKind.function != ScopeKind.function) = false := rfl; rw [this, Bool.or_false]; exact c1)]
      by_cases c2 : vs.any isStE = true
      · rw [if_pos c2] at h
        cases h
        rw [if_pos c2]
      · rw [if_neg c2] at h ⊢
        dsimp only at h
        generalize List.filterMap (nmAt env.scope.names ((ts.head?.map (·.pos.line)).getD 0)) ts = ns at h ⊢
        by_cases c3 : (ns.length != ts.length || ns.eraseDups.length != ns.length) = true
        · rw [if_pos c3] at h
          cases h
          rw [if_pos c3]
        · rw [if_neg c3] at h ⊢
          by_cases c4 : vs.all (foldedForSure 8) = true
          · rw [if_pos c4] at h
            cases h
            rw [if_pos c4]
          · rw [if_neg c4] at h ⊢
            by_cases c5 : vs.all (constantsAlone 8) = true
            · rw [if_pos c5] at h
              cases h
            · rw [if_neg c5] at h ⊢
              cases h
              rfl
  · intro e; cases e <;> rfl
  · intro e; cases e <;> rfl
end
end PM

end
section
set_option Elab.async false
set_option linter.all false
set_option maxRecDepth 100000
set_option maxHeartbeats 4000000
namespace PM
open PySem PySem.Spec PyProof.Rows L2 N1
open Evl (Ex)
def mCs (w : W) : List (Option ME × MS) → MS
  | [] => mSkip
  | (none, m) :: _ => m
  | (some me, m) :: r => fun σ => mThen (mBind (mBind (me σ) fun x => fEq false w x) fun z => mOf (unB z)) σ fun b h => if b then m σ h else mCs w r σ h
def mMatch (me : ME) (cs : List (Option ME × MS)) : MS := fun σ => mThen (me σ) σ fun w h => mCs w cs σ h
def csOf (r : Ev) (Γ : SE) (ss : SE → List Stmt → MS) : List MatchCase → Option (List (Option ME × MS))
  | [] => some []
  | c :: cs => match c with
    | ⟨.MatchValue e _, none, body⟩ => (csOf r Γ ss cs).map fun l => (some (r.e Γ e), ss Γ body) :: l
    | ⟨.MatchAs none none _, none, body⟩ => (csOf r Γ ss cs).map fun l => (none, ss Γ body) :: l
    | _ => none
section
variable {X : Cx} {Γ : SE} {Wx : WX} {k : Nat}
theorem cs_ok {r : Ev} (R : EvOk r) (S : Sx X Γ Wx k) {ss : SE → List Stmt → MS} (hss : ∀ sts, PMSs Wx X sts (ss Γ sts)) : ∀ {cs : List MatchCase} {l : List (Option ME × MS)} {first : Bool} {w : W} {v : V} {u : Value} {pins : List (Addr × Obj)} {s : Shared} {σ : L2.St} {H G : Hp} {μ : Mu} {σA : Sl} {h : AHp} {D : Ends},
    csOf r Γ ss cs = some l → Inv X pins σ H s → RelS X.K X.mgx G μ σA σ → RelH X.K X.mgx G μ h H → RepW X.K X.mgx G μ w v → RelV v u → RetS X.K X.mgx Wx D G μ H (mCs w l σA h) → wpAny (model X.prog X.w) X.A (matchCases cs X.env u first) (SP X pins D) X.xe s
  | [], l, first, w, v, u, pins, s, σ, H, G, μ, σA, h, D, e, I, rs, rh, rw_, rv, k => by
    cases e
    exact wpAny_matchCases_nil ⟨σ, H, I, RetS.nx k rh rs⟩
  | c :: cs, l, first, w, v, u, pins, s, σ, H, G, μ, σA, h, D, e, I, rs, rh, rw_, rv, k => by
    unfold csOf at e
    split at e
    · rename_i ex p body
      cases q : csOf r Γ ss cs with
      | none => rw [q] at e; cases e
      | some l' =>
        rw [q] at e
        cases e
        refine wpAny_matchCases_cons (wpAny_matchPattern_Value ?_)
        have k0 := RetS.then rs (show RetS X.K X.mgx Wx D G μ H (mThen (mBind (mBind (r.e Γ ex σA) fun x => fEq false w x) fun z => mOf (unB z)) σA (fun b h => if b then ss Γ body σA h else mCs w l' σA h) h) from k)
        refine thn ((R.e S ex).run pins s σ H (fun x H1 => BinAt X Wx σ (fEq false) (fun z H2 => ∃ c, z = .bl c ∧ ∃ G μ h, RelS X.K X.mgx G μ σA σ ∧ RelH X.K X.mgx G μ h H2 ∧ RepW X.K X.mgx G μ w v ∧ RetS X.K X.mgx Wx D G μ H2 (if c then ss Γ body σA h else mCs w l' σA h)) v x H1) I ⟨G, μ, σA, h, rs, rh, k0.bind.bind.imp fun x G1 μ1 h1 H1 s1 rh1 k1 y ry => ⟨G1, μ1, h1, w, x, rh1, rw_.mono s1, ry, k1.imp fun z G2 μ2 h2 H2 s2 rh2 k2 t rt => ?_⟩⟩) fun y s1 ⟨x, H1, I1, rx, q1⟩ => ?_
        · obtain ⟨b, eb, k3⟩ := k2.of rh2
          exact ⟨b, unB_v rt eb, G2, μ2, h2, (rs.mono s1).mono s2, rh2, (rw_.mono s1).mono s2, k3⟩
        · refine thn (OpX.at (primC_ok S (op := .Eq)) I1 rv rx q1) fun cv s2 ⟨z, H2, I2, rz, b, ez, G2, μ2, h2, rs2, rh2, rw2, k2⟩ => ?_
          subst ez
          cases (show cv = Value.bool b from rz)
          refine wpAny_truthy_bool ?_
          cases b with
          | true => exact wpAny_assignInOrder_none ((hss body).run pins s2 σ H2 D I2 ⟨G2, μ2, σA, h2, rs2, rh2, k2⟩)
          | false => exact cs_ok R S hss q I2 rs2 rh2 rw2 rv k2
    · rename_i p body
      cases q : csOf r Γ ss cs with
      | none => rw [q] at e; cases e
      | some l' =>
        rw [q] at e
        cases e
        exact wpAny_matchCases_cons (wpAny_matchPattern_Capture (wpAny_assignInOrder_none ((hss body).run pins s σ H D I ⟨G, μ, σA, h, rs, rh, k⟩)))
    · cases e
theorem pms_match {r : Ev} (R : EvOk r) (S : Sx X Γ Wx k) {ss : SE → List Stmt → MS} (hss : ∀ sts, PMSs Wx X sts (ss Γ sts)) {subject : Expr} {cs : List MatchCase} {l : List (Option ME × MS)} {pos : Pos} (e : csOf r Γ ss cs = some l) : PMS Wx X (.Match subject cs pos) (mMatch (r.e Γ subject) l) := by
  refine ⟨fun pins s σ H D I ⟨G, μ, σA, h, rs, rh, k⟩ => wpAny_Match ?_⟩
  refine thn ((R.e S subject).run pins s σ H (fun v H1 => ∃ G μ h w, RelS X.K X.mgx G μ σA σ ∧ RelH X.K X.mgx G μ h H1 ∧ RepW X.K X.mgx G μ w v ∧ RetS X.K X.mgx Wx D G μ H1 (mCs w l σA h)) I ⟨G, μ, σA, h, rs, rh, (RetS.then rs k).imp fun w G1 μ1 h1 H1 s1 rh1 k1 v rv => ⟨G1, μ1, h1, w, rs.mono s1, rh1, rv, k1⟩⟩) fun u s1 ⟨v, H1, I1, rv, G1, μ1, h1, w, rs1, rh1, rw1, k1⟩ => ?_
  exact cs_ok R S hss e I1 rs1 rh1 rw1 rv k1
end
end PM

end
section
set_option Elab.async false
set_option linter.all false
set_option maxRecDepth 100000
set_option maxHeartbeats 4000000
namespace PM
open PySem PySem.Spec PyProof.Rows L2 N1
open Evl (Ex)
def setAll : Sl → List Nat → List W → Sl
  | σ, i :: is, w :: ws => setAll (σ.set i (some w)) is ws
  | σ, _, _ => σ
def mPar (is : List Nat) (ma : MA) : MS := fun σ => mThen (ma σ) σ fun ws h => if ws.length = is.length then some (.nx (setAll σ is ws), h) else none
def evAM (r : Ev) (Γ : SE) : List Str → List Expr → MA
  | _, [] => mNil
  | [], _ :: _ => maBad
  | x :: xs, e :: es => mCons (evM r Γ x e) (evAM r Γ xs es)
def nmE : Expr → Option Str
  | .Name x _ => some x
  | _ => none
def sameN (a b : List Str) : Bool := decide (a = b)
def evPar (r : Ev) (Γ : SE) (ts vs : List Expr) (xs : List Str) : MS := if Γ.hot || !noStar vs then msBad else match ts, vs, xs with
  | [.Name x _, .Name y _], [a, b], [x', y'] => (match ixOf Γ.N x, ixOf Γ.N y with
    | some i, some j => if (x' == x) && (y' == y) && isLocalK (Γ.names.lookup x) && isLocalK (Γ.names.lookup y) && !(i == j) then mPar [i, j] (evAM r Γ [x, y] [a, b]) else msBad
    | _, _ => msBad)
  | [.Name x _, .Name y _, .Name z _], [a, b, c], [x', y', z'] => (match ixOf Γ.N x, ixOf Γ.N y, ixOf Γ.N z with
    | some i, some j, some l => if (x' == x) && (y' == y) && (z' == z) && isLocalK (Γ.names.lookup x) && isLocalK (Γ.names.lookup y) && isLocalK (Γ.names.lookup z) && !(i == j) && !(i == l) && !(j == l) then mPar [i, j, l] (evAM r Γ [x, y, z] [a, b, c]) else msBad
    | _, _, _ => msBad)
  | _, _, _ => msBad
section
variable {X : Cx} {Γ : SE} {Wx : WX} {k : Nat}
theorem pma_badL {es : List Expr} : PMA Wx X es maBad := pma_bad
theorem evAM_ok {r : Ev} (R : EvOk r) (S : Sx X Γ Wx k) : ∀ (xs : List Str) (es : List Expr), noStar es = true → PMA Wx X es (evAM r Γ xs es)
  | [], [], _ => pma_nil
  | _ :: _, [], _ => pma_nil
  | [], _ :: _, _ => pma_bad
  | x :: xs, e :: es, h => by
    obtain ⟨h1, h2⟩ := noStar_cons (env := X.env) h
    exact pma_cons (evM_ok R S) (evAM_ok R S xs es h2) h1
theorem evPar_ok {r : Ev} (R : EvOk r) (S : Sx X Γ Wx k) {ts vs : List Expr} {xs : List Str} {k1 k2 : Nat} {p1 p2 pos : Pos} (hw : swp Γ.names ts vs = some (some xs)) : PMS Wx X (.Assign [.Tuple ts k1 p1] (.Tuple vs k2 p2) pos) (evPar r Γ ts vs xs) := by
  have hw1 : swappedStores [.Tuple ts k1 p1] (.Tuple vs k2 p2) X.env = pure (some xs) := swp_ok S.kind (by rw [S.names]; exact hw)
  unfold evPar
  split
  · exact pms_bad
  · rename_i h0
    obtain ⟨hh, hn0⟩ := or_no h0
    have hn : noStar vs = true := by simpa using hn0
    have hc := (S.calm hh).1
    split
    · rename_i x px y py a b x' y'
      split
      · rename_i i j ei ej
        split
        · rename_i hq
          simp only [Bool.and_eq_true] at hq
          obtain ⟨⟨⟨⟨q1, q2⟩, q3⟩, q4⟩, q5⟩ := hq
          have e1 := eq_of_beq q1
          have e2 := eq_of_beq q2
          subst e1 e2
          have hij : i ≠ j := by simpa using q5
          refine ps_imp (ps_par hc S.nd (by rw [S.N]; exact ixOf_at ei) (by rw [S.N]; exact ixOf_at ej) hij (by rw [S.names]; exact isLocalK_ok q3) (by rw [S.names]; exact isLocalK_ok q4) (evAM_ok R S [x', y'] _ hn) hw1 rfl) fun D σ H ⟨G, μ, σA, h, rs, rh, k⟩ => ?_
          refine ⟨G, μ, σA, h, rs, rh, (RetS.then rs k).imp fun ws G1 μ1 h1 H1 s1 rh1 k1 vs rvs => ?_⟩
          split at k1
          · rename_i hl
            cases rvs with
            | nil => cases hl
            | cons r1 q => cases q with
              | nil => cases hl
              | cons r2 q => cases q with
                | cons _ _ => cases hl
                | nil => exact ⟨_, _, rfl, k1.nx rh1 (((rs.mono s1).set r1).set r2)⟩
          · obtain ⟨_, _, e, _⟩ := k1; cases e
        · exact pms_bad
      · exact pms_bad
    · rename_i x px y py z pz a b c x' y' z'
      split
      · rename_i i j l ei ej el
        split
        · rename_i hq
          simp only [Bool.and_eq_true] at hq
          obtain ⟨⟨⟨⟨⟨⟨⟨⟨q1, q2⟩, q3⟩, q4⟩, q5⟩, q6⟩, q7⟩, q8⟩, q9⟩ := hq
          have e1 := eq_of_beq q1
          have e2 := eq_of_beq q2
          have e3 := eq_of_beq q3
          subst e1 e2 e3
          refine ps_imp (ps_par3 hc S.nd (by rw [S.N]; exact ixOf_at ei) (by rw [S.N]; exact ixOf_at ej) (by rw [S.N]; exact ixOf_at el) (by simpa using q7) (by simpa using q8) (by simpa using q9) (by rw [S.names]; exact isLocalK_ok q4) (by rw [S.names]; exact isLocalK_ok q5) (by rw [S.names]; exact isLocalK_ok q6) (evAM_ok R S [x', y', z'] _ hn) hw1 rfl) fun D σ H ⟨G, μ, σA, h, rs, rh, k⟩ => ?_
          refine ⟨G, μ, σA, h, rs, rh, (RetS.then rs k).imp fun ws G1 μ1 h1 H1 s1 rh1 k1 vs rvs => ?_⟩
          split at k1
          · rename_i hl
            cases rvs with
            | nil => cases hl
            | cons r1 q => cases q with
              | nil => cases hl
              | cons r2 q => cases q with
                | nil => cases hl
                | cons r3 q => cases q with
                  | cons _ _ => cases hl
                  | nil => exact ⟨_, _, _, rfl, k1.nx rh1 ((((rs.mono s1).set r1).set r2).set r3)⟩
          · obtain ⟨_, _, e, _⟩ := k1; cases e
        · exact pms_bad
      · exact pms_bad
    · exact pms_bad
def evAsg (r : Ev) (Γ : SE) (tg e : Expr) : MS := match tg with
  | .Name x py => (match e with
    | .ListComp elt gs scope pos => evSetLc r Γ x py elt gs scope pos
    | e => if notComp e && isLocN Γ x then (match ixOf Γ.N x with
      | some i => mAsg (evM r Γ x e) (mgName i)
      | none => msBad) else msBad)
  | .Tuple ts _ _ => (match e with
    | .Tuple vs k p => (match swp Γ.names ts vs with
      | some (some xs) => evPar r Γ ts vs xs
      | some none => (match evG Γ 4 tg with
        | some (_, t) => mAsg (r.e Γ (.Tuple vs k p)) t
        | none => msBad)
      | none => msBad)
    | e => if notComp e then (match evG Γ 4 tg with
      | some (_, t) => mAsg (evF r Γ e) t
      | none => msBad) else msBad)
  | .Attribute o f _ => if !Γ.hot then mStoA Γ.mo f (evF r Γ e) (r.e Γ o) else msBad
  | .Subscript o i _ => if notComp e && notTup e && notSlc i then mPut (evF r Γ e) (r.e Γ o) (r.e Γ i) else msBad
  | _ => msBad
theorem sw_attr {e o : Expr} {f : Str} {p : Pos} {l : Nat} {env : Env} : swapsWith e (some (.Attribute o f p)) l env = pure false := by
  cases e <;> rfl
theorem sole_no {e t : Expr} (h : notComp e = true) {l : Nat} {env : Env} : swapsWithSole [t] e l env = pure false := by
  unfold swapsWithSole
  exact sw_no h
theorem evAsg_ok {r : Ev} (R : EvOk r) (S : Sx X Γ Wx k) {tg e : Expr} {pos : Pos} : PMS Wx X (.Assign [tg] e pos) (evAsg r Γ tg e) := by
  unfold evAsg
  split
  · rename_i x py
    split
    · exact evSetLc_ok R S
    · split
      · rename_i hh
        rw [Bool.and_eq_true] at hh
        split
        · rename_i i ei
          obtain ⟨l1, l2⟩ := S.loc hh.2
          exact pms_set S.nd (by rw [S.N]; exact ixOf_at ei) l1 (evM_ok R S) (sw_no hh.1) l2
        · exact pms_bad
      · exact pms_bad
  · rename_i ts k1 p1
    split
    · rename_i vs k2 p2
      split
      · rename_i xs hw
        exact evPar_ok R S hw
      · rename_i hw
        split
        · rename_i is t eg
          exact pms_asg (R.e S _) (evG_ok S 4 eg) rfl (swp_ok S.kind (by rw [S.names]; exact hw)) rfl
        · exact pms_bad
      · exact pms_bad
    · rename_i hne
      split
      · rename_i hc
        split
        · rename_i is t eg
          refine pms_asg (evF_ok R S _) (evG_ok S 4 eg) (sole_no hc) (sws_no ?_) rfl
          cases e <;> first | rfl | exact absurd rfl (hne _ _ _)
        · exact pms_bad
      · exact pms_bad
  · split
    · exact pms_stoA S (evF_ok R S _) (R.e S _) sw_attr
    · exact pms_bad
  · rename_i o i p
    split
    · rename_i hh
      simp only [Bool.and_eq_true] at hh
      refine pms_put (evF_ok R S _) (R.e S _) (R.e S _) fun te to ti he ho hi => ps_asg he (pg_sub ho hi set_list fun v => ?_) (sole_no hh.1.1) (sws_no hh.1.2) rfl
      have := hh.2
      cases i <;> first | rfl | cases this
    · exact pms_bad
  · exact pms_bad
def mFz (i : Nat) (m : MS) : MS := fun σ h => match σ[i]? with
  | some (some w) => (match frzL h w with
    | some (d, h') => m (σ.set i (some (.d d))) h'
    | none => m σ h)
  | _ => m σ h
def mFzs : List Nat → MS → MS
  | [], m => m
  | i :: is, m => mFz i (mFzs is m)
theorem pmss_fz {sts : List Stmt} {m : MS} (i : Nat) (hm : PMSs Wx X sts m) : PMSs Wx X sts (mFz i m) := pss_imp hm fun D σ H ⟨G, μ, σA, h, rs, rh, k⟩ => by
  unfold mFz at k
  split at k
  · rename_i w ew
    split at k
    · rename_i d h2 e1
      obtain ⟨v, ev, rv⟩ := rs.2 i _ ew
      obtain ⟨G2, r2, s2, rp⟩ := frzL_ok rh e1 rv
      refine ⟨G2, μ, _, _, ?_, r2, k.step s2⟩
      have rs2 := (rs.mono s2).set (i := i) (w := .d d) (v := v) rp
      have es : σ.set i (some v) = σ := by
        refine List.ext_getElem? fun j => ?_
        by_cases z : i = j
        · subst z
          rw [List.getElem?_set_self (List.getElem?_eq_some_iff.mp ev).1, ev]
        · rw [List.getElem?_set_ne z]
      rw [es] at rs2
      exact rs2
    · exact ⟨G, μ, σA, h, rs, rh, k⟩
  · exact ⟨G, μ, σA, h, rs, rh, k⟩
theorem pmss_fzs {sts : List Stmt} {m : MS} (hm : PMSs Wx X sts m) : ∀ is : List Nat, PMSs Wx X sts (mFzs is m)
  | [] => hm
  | i :: is => pmss_fz i (pmss_fzs hm is)
def fzAt (Γ : SE) (s : Stmt) : List Nat := Γ.fz.filterMap fun p => if s.pos.line == p.1 then ixOf Γ.N p.2 else none
def evSs (r : Ev) (Γ : SE) : List Stmt → MS
  | [] => mSkip
  | s :: rest => mFzs (fzAt Γ s) (mSeq (r.s Γ s) (evSs r Γ rest))
theorem evSs_ok {r : Ev} (R : EvOk r) (S : Sx X Γ Wx k) : ∀ sts : List Stmt, PMSs Wx X sts (evSs r Γ sts)
  | [] => pmss_nil
  | s :: rest => pmss_fzs (pmss_cons (R.s S s) (evSs_ok R S rest)) _
def hotΓ (Γ : SE) : SE := { Γ with hot := true }
theorem Sx.tr (S : Sx X Γ Wx k) (hh : Γ.hot = false) {W : WX} {pn : List (Addr × Obj)} {xe : Value → Shared → Prop} (tk : Takes (X.tr pn xe) W) (hp : PassesOwn (model X.prog X.w) X.A X.env xe) : Sx (X.tr pn xe) Γ W k where
  N := S.N
  nd := S.nd
  names := S.names
  kind := S.kind
  calm := fun h => ⟨(S.calm h).1, (S.calm h).2.1, fun _ => hp⟩
  hot := fun z => by rw [hh] at z; cases z
  fr := S.fr
  fn := S.fn
  tk := tk
  mo := S.mo
  units := S.units
  kp := S.kp
theorem Sx.suite (S : Sx X Γ Wx k) {a : Addr} {oe : Obj} {pn : List (Addr × Obj)} (hf : ∃ vs, oe.data = .fields vs) : Sx (X.suite a ((a, oe) :: pn)) (hotΓ Γ) WF k where
  N := S.N
  nd := S.nd
  names := S.names
  kind := S.kind
  calm := fun h => nomatch h
  hot := fun _ => ⟨rfl, X, a, oe, pn, rfl, hf⟩
  fr := S.fr
  fn := S.fn
  tk := takes_F
  mo := S.mo
  units := S.units
  kp := S.kp
def tryN (Γ : SE) : Option Str → Option (Option Nat)
  | none => some none
  | some n => if isLocalK (Γ.names.lookup n) then (match ixOf Γ.N n with | some i => some (some i) | none => none) else none
def isExcN (Γ : SE) (x : Str) : Bool := (Γ.mo.exc x).isSome && isGlb (Γ.names.lookup x) && !isRes x
def evTry (r : Ev) (Γ : SE) (body : List Stmt) (hs : List ExceptHandler) : MS := if Γ.hot || !Γ.fun_ then msBad else match hs with
  | [.ExceptHandler (some (.Name x _)) n (b :: suite) _] => if isExcN Γ x then (match tryN Γ n with
    | some i => mTry (fun c => Γ.mo.exm c x) i (evSs r Γ body) (evSs r (hotΓ Γ) (b :: suite))
    | none => msBad) else msBad
  | _ => msBad
theorem evTry_ok {r : Ev} (R : EvOk r) (S : Sx X Γ Wx k) {body : List Stmt} {hs : List ExceptHandler} {pos : Pos} : PMS Wx X (.Try body hs [] [] pos) (evTry r Γ body hs) := by
  unfold evTry
  split
  · exact pms_bad
  · rename_i h0
    obtain ⟨hh, hfu⟩ := or_no h0
    have hfu : Γ.fun_ = true := by simpa using hfu
    obtain ⟨hc, _, _⟩ := S.calm hh
    obtain ⟨f1, f2⟩ := S.fr hfu
    split
    · rename_i x np n b suite p2
      split
      · rename_i hx
        unfold isExcN at hx
        simp only [Bool.and_eq_true] at hx
        obtain ⟨⟨x1, x2⟩, x3⟩ := hx
        obtain ⟨d1, d2, d3⟩ := res_no (by simpa using x3)
        obtain ⟨o, eo⟩ := Option.isSome_iff_exists.mp x1
        obtain ⟨C, gC, _⟩ := S.mo.exc x o eo
        have hN : Names X x (.ref C) := ⟨S.glb x2, d1, .inl gC⟩
        have hex : ∀ c b C', Γ.mo.exm c x = some b → X.mg c = some (.ref C') → PySem.W.exmOne X.K (.ref C') (.ref C) = some b := fun c b C' e g => S.mo.exm c x b C' C e g gC
        split
        · rename_i i ei
          cases n with
          | none =>
            cases ei
            exact pms_tryOnly hc f1 f2 hN S.tk hex (fun W pn xe t1 t2 => evSs_ok R (S.tr hh t1 t2) _) fun a oe pn hf => evSs_ok R (S.suite hf) _
          | some n =>
            unfold tryN at ei
            dsimp only at ei
            split at ei
            · rename_i hl
              split at ei
              · rename_i j ej
                cases ei
                exact pms_tryAs hc f1 f2 S.nd (by rw [S.N]; exact ixOf_at ej) (show X.env.scope.names.lookup n = _ by rw [S.names]; exact isLocalK_ok hl) hN S.tk hex (fun W pn xe t1 t2 => evSs_ok R (S.tr hh t1 t2) _) fun a oe pn hf => evSs_ok R (S.suite hf) _
              · cases ei
            · cases ei
        · exact pms_bad
      · exact pms_bad
    · exact pms_bad
def evRaise (r : Ev) (Γ : SE) (e : Expr) : MS := if Γ.hot then msBad else match e with
  | .Name x _ => if isExcN Γ x then (match Γ.mo.exc x with | some none => mRaise x | _ => msBad) else msBad
  | .Call (.Name x _) [a] [] _ => if isExcN Γ x && Γ.mo.free "super" && noStar [a] then (match Γ.mo.exc x with | some (some f) => mRaiseL x f (evF r Γ a) | _ => msBad) else msBad
  | _ => msBad
theorem evRaise_ok {r : Ev} (R : EvOk r) (S : Sx X Γ Wx k) {e : Expr} {pos : Pos} : PMS Wx X (.Raise (some e) none pos) (evRaise r Γ e) := by
  unfold evRaise
  split
  · exact pms_bad
  · rename_i h0
    obtain ⟨hc, hr, _⟩ := S.calm (by simpa using h0)
    split
    · split
      · rename_i x p hx
        unfold isExcN at hx
        simp only [Bool.and_eq_true] at hx
        obtain ⟨⟨x1, x2⟩, x3⟩ := hx
        obtain ⟨d1, d2, d3⟩ := res_no (by simpa using x3)
        split
        · rename_i eo
          obtain ⟨C, gC, T, _⟩ := S.mo.exc x _ eo
          exact pms_raiseC hc S.tk T gC (S.glb x2) d1
        · exact pms_bad
      · exact pms_bad
    · split
      · rename_i x p a p2 hx
        simp only [Bool.and_eq_true] at hx
        obtain ⟨⟨hx, hfs⟩, hst⟩ := hx
        unfold isExcN at hx
        simp only [Bool.and_eq_true] at hx
        obtain ⟨⟨x1, x2⟩, x3⟩ := hx
        obtain ⟨d1, d2, d3⟩ := res_no (by simpa using x3)
        split
        · rename_i f eo
          obtain ⟨C, gC, T, _⟩ := S.mo.exc x _ eo
          obtain ⟨fI, fd, T⟩ := T
          exact pms_raiseL hc S.tk T (S.mo.free _ hfs).1 (hr.mono (by have := S.kp; omega)) gC (S.glb x2) d1 (evF_ok R S _) (noStar_cons (env := X.env) hst).1
        · exact pms_bad
      · exact pms_bad
    · exact pms_bad
def mRetN : MS := fun _ h => some (.rt (.d .non), h)
theorem pms_retN {pos : Pos} : PMS Wx X (.Return none pos) mRetN := ps_imp ps_retN fun D σ H ⟨G, μ, σA, h, rs, rh, r, h', e, k⟩ => by
  cases e
  exact k _ _ _ .non Step.refl rh .non
def whN : Nat := 1000
def evS (r : Ev) (Γ : SE) : Stmt → MS
  | .Expr e _ => if notComp e then mExpr (r.e Γ e) else msBad
  | .Return (some e) _ => mRet (evF r Γ e)
  | .Return none _ => mRetN
  | .Assign [tg] e _ => evAsg r Γ tg e
  | .If c a b _ => mIfS (r.t Γ c) (evSs r Γ a) (evSs r Γ b)
  | .For tg it body [] _ => if Γ.hot || !Γ.fun_ || isSetE it then msBad else (match evG Γ 4 tg with
    | some (_, t) => mFor (evI r Γ tg it) t (evSs r Γ body)
    | none => msBad)
  | .While c body [] _ => if Γ.hot || !Γ.fun_ then msBad else mWhile (r.t Γ c) (evSs r Γ body) whN
  | .Raise (some e) none _ => evRaise r Γ e
  | .Try body hs [] [] _ => evTry r Γ body hs
  | .Match e cs _ => (match csOf r Γ (evSs r) cs with | some l => mMatch (r.e Γ e) l | none => msBad)
  | .Pass _ => mSkip
  | .Break _ => mBrk
  | .Continue _ => mCnt
  | _ => msBad
theorem evS_ok {r : Ev} (R : EvOk r) (S : Sx X Γ Wx k) (s : Stmt) : PMS Wx X s (evS r Γ s) := by
  unfold evS
  split
  · split
    · rename_i h; exact pms_expr (R.e S _) (sw_no h)
    · exact pms_bad
  · exact pms_ret (evF_ok R S _)
  · exact pms_retN
  · exact evAsg_ok R S
  · exact pms_if (R.t S _) (evSs_ok R S _) (evSs_ok R S _)
  · split
    · exact pms_bad
    · rename_i h0
      obtain ⟨h0', h1⟩ := or_no h0
      obtain ⟨hh, hfu⟩ := or_no (by rw [h0']; decide)
      have hfu : Γ.fun_ = true := by simpa using hfu
      obtain ⟨hc, _, hp⟩ := S.calm hh
      split
      · rename_i is t eg
        exact pms_for (hp hfu) hc (evI_ok R S) (evG_ok S 4 eg) (evSs_ok R S _) (fold_no h1)
      · exact pms_bad
  · split
    · exact pms_bad
    · rename_i h0
      obtain ⟨hh, hfu⟩ := or_no h0
      have hfu : Γ.fun_ = true := by simpa using hfu
      obtain ⟨hc, _, hp⟩ := S.calm hh
      exact pms_while whN (hp hfu) (R.t S _) (evSs_ok R S _)
  · exact evRaise_ok R S
  · exact evTry_ok R S
  · split
    · rename_i l el
      exact pms_match R S (fun sts => evSs_ok R S sts) el
    · exact pms_bad
  · exact pms_pass
  · exact pms_brk
  · exact pms_cnt
  · exact pms_bad
def ev0 : Ev := ⟨fun _ _ => mBad, fun _ _ => mtBad, fun _ _ => msBad⟩
def evNext (r : Ev) : Ev := ⟨evE r, evT r, evS r⟩
def evN : Nat → Ev
  | 0 => ev0
  | n + 1 => evNext (evN n)
theorem evN_ok : ∀ n, EvOk (evN n)
  | 0 => ⟨fun _ _ => pm_bad, fun _ _ => pmt_bad, fun _ _ => pms_bad⟩
  | n + 1 => ⟨fun S e => evE_ok (evN_ok n) S e, fun S e => evT_ok (evN_ok n) S e, fun S s => evS_ok (evN_ok n) S s⟩
end
end PM

end
section
set_option Elab.async false
set_option linter.all false
set_option maxRecDepth 100000
set_option maxHeartbeats 4000000
namespace PM
open PySem PySem.Spec PyProof.Rows L2 N1
theorem look_zip_some {α : Type} : ∀ {ps : List Str} {us : List α}, ps.length ≤ us.length → ∀ n ∈ ps, ∃ v, (ps.zip us).lookup n = some v
  | [], _, _, n, h => nomatch h
  | p :: ps, [], hl, _, _ => by simp at hl
  | p :: ps, u :: us, hl, n, h => by
    rw [List.zip_cons_cons, List.lookup_cons]
    cases e : n == p with
    | true => exact ⟨u, rfl⟩
    | false =>
      rcases List.mem_cons.mp h with rfl | h
      · simp at e
      · exact look_zip_some (by simpa using hl) n h
theorem look_zip_none {α : Type} : ∀ {ps : List Str} {us : List α} {n : Str}, n ∉ ps → (ps.zip us).lookup n = none
  | [], _, n, h => by simp
  | p :: ps, [], _, _ => by simp
  | p :: ps, u :: us, n, h => by
    rw [List.zip_cons_cons, List.lookup_cons]
    have : (n == p) = false := by
      rw [beq_eq_false_iff_ne]
      rintro rfl
      exact h List.mem_cons_self
    rw [this]
    exact look_zip_none fun z => h (List.mem_cons_of_mem _ z)
theorem filterMap_on {α β : Type} {f g : α → Option β} : ∀ {l : List α}, (∀ x ∈ l, f x = g x) → l.filterMap f = l.filterMap g
  | [], _ => rfl
  | a :: l, h => by
    rw [List.filterMap_cons, List.filterMap_cons, h a List.mem_cons_self, filterMap_on fun x hx => h x (List.mem_cons_of_mem _ hx)]
theorem filterMap_zip {α : Type} : ∀ {ps : List Str} {us : List α}, ps.Nodup → us.length = ps.length → (ps.filterMap fun n => ((ps.zip us).lookup n).map fun v => (n, v)) = ps.zip us
  | [], [], _, _ => rfl
  | [], _ :: _, _, h => by simp at h
  | _ :: _, [], _, h => by simp at h
  | p :: ps, u :: us, hn, hl => by
    have ih := filterMap_zip (ps := ps) (us := us) (List.nodup_cons.mp hn).2 (by simpa using hl)
    rw [List.zip_cons_cons, List.filterMap_cons]
    simp only [List.lookup_cons, beq_self_eq_true, Option.map_some]
    congr 1
    rw [filterMap_on (g := fun n => ((ps.zip us).lookup n).map fun v => (n, v)) fun n hm => ?_]
    · exact ih
    · have : (n == p) = false := by
        rw [beq_eq_false_iff_ne]
        rintro rfl
        exact (List.nodup_cons.mp hn).1 hm
      rw [this]
def stepB (s : List (Str × Value)) (x : Str × Value) : List (Str × Value) := if (s.lookup x.1).isNone then s ++ [(x.1, x.2)] else s
theorem forIn_stepB (l : List (Str × Value)) : ∀ s : List (Str × Value), (forIn l s fun x s => if (List.lookup x.fst s).isNone = true then (pure (ForInStep.yield (s ++ [(x.fst, x.snd)])) : Sem _) else pure (ForInStep.yield s)) = pure (l.foldl stepB s) := by
  induction l with
  | nil => intro s; rfl
  | cons a l ih =>
    intro s
    rw [List.forIn_cons, List.foldl_cons]
    unfold stepB
    split
    · rw [pure_bind]; exact ih _
    · rw [pure_bind]; exact ih _
theorem look_app {s t : List (Str × Value)} {n : Str} : (s ++ t).lookup n = (s.lookup n).or (t.lookup n) := by
  induction s with
  | nil => simp
  | cons a s ih =>
    rw [List.cons_append, List.lookup_cons, List.lookup_cons]
    cases n == a.1 with
    | true => rfl
    | false => exact ih
theorem look_foldB (l : List (Str × Value)) : ∀ (s : List (Str × Value)) (n : Str), (l.foldl stepB s).lookup n = (s.lookup n).or (l.lookup n) := by
  induction l with
  | nil => intro s n; simp
  | cons a l ih =>
    intro s n
    rw [List.foldl_cons, ih, List.lookup_cons]
    unfold stepB
    cases e : n == a.1 with
    | true =>
      have e' := eq_of_beq e
      subst e'
      split
      · rename_i h
        rw [look_app]
        have : s.lookup a.1 = none := by simpa using h
        rw [this]
        simp
      · rename_i h
        cases hv : s.lookup a.1 with
        | none => rw [hv] at h; exact absurd rfl h
        | some v => rfl
    | false =>
      split
      · rw [look_app]
        have : List.lookup n [(a.1, a.2)] = none := by rw [List.lookup_cons, e]; rfl
        rw [this]
        simp
      · rfl
def plainP (pr : Arguments) : Bool := pr.posonlyargs.isEmpty && pr.kwonlyargs.isEmpty && pr.vararg.isNone && pr.kwarg.isNone
theorem bind_some {x qual : Str} {pr : Arguments} {body : List Stmt} {scope : Scope} {dV kV doc pm : Value} {an : Option Addr} {cdv ct : Value} {us its : List Value} {o : Option (Array Value)} {ps : List Str} (hp : plainP pr = true) (hps : pr.args.map (·.arg) = ps) (hn : ps.Nodup) (h1 : us.length ≤ ps.length) (h2 : its.length ≤ ps.length) (h3 : ps.length ≤ us.length + its.length) (ho : (o.getD #[]).toList = its) :
    ∃ k, bindArgs (PySem.W.fnOf x qual pr body scope dV kV doc pm an cdv ct) ⟨us, []⟩ = seqItems? dV >>= k ∧ k o = pure (ps.zip (us ++ its.drop (us.length - (ps.length - its.length)))) := by
  obtain ⟨po, ar, va, ko, kd, kw, df⟩ := pr
  unfold plainP at hp
  simp only [Bool.and_eq_true, List.isEmpty_iff, Option.isNone_iff_eq_none] at hp
  obtain ⟨⟨⟨q1, q2⟩, q3⟩, q4⟩ := hp
  subst q1 q2 q3 q4
  simp only at hps
  refine ⟨_, by
    unfold bindArgs
    simp only [PySem.W.fnOf, List.map_nil, List.nil_append, List.append_nil, List.forIn_nil, pure_bind, hps]
    rfl, ?_⟩
  simp only [ho]
  have e0 : its.length - ps.length = 0 := by omega
  rw [e0, List.drop_zero]
  rw [if_neg (by simp; omega)]
  have hm : (List.filter (fun n => (List.lookup n (ps.zip us)).isNone) (List.take (ps.length - its.length) ps)) = [] := by
    rw [List.filter_eq_nil_iff]
    intro n hmem
    have hle : (ps.take us.length).length ≤ us.length := by simp; omega
    have hn' : n ∈ ps.take us.length := (List.take_subset_take_left ps (by omega)) hmem
    obtain ⟨v, hv⟩ := look_zip_some hle n hn'
    have : ps.zip us = (ps.take us.length).zip us := by
      rw [List.zip_eq_zip_take_min (l₁ := ps) (l₂ := us)]
      rw [show min ps.length us.length = us.length from by omega, List.take_length]
    rw [this, hv]
    simp
  rw [hm]
  rw [if_neg (by simp)]
  rw [forIn_stepB, pure_bind]
  rw [if_neg (by simp)]
  congr 1
  simp only [look_foldB]
  generalize hf : ps.length - its.length = f
  have hfn : f ≤ us.length := by omega
  obtain ⟨p1, p2, rfl, hl1⟩ : ∃ p1 p2, ps = p1 ++ p2 ∧ p1.length = us.length := ⟨ps.take us.length, ps.drop us.length, (List.take_append_drop _ _).symm, by simp; omega⟩
  obtain ⟨i1, i2, rfl, hl2⟩ : ∃ i1 i2, its = i1 ++ i2 ∧ i1.length = us.length - f := ⟨its.take (us.length - f), its.drop (us.length - f), (List.take_append_drop _ _).symm, by simp at hf h2 h3 ⊢; omega⟩
  have hl3 : i2.length = p2.length := by simp at hf h2 h3 hl1; omega
  have hd : List.drop (us.length - f) (i1 ++ i2) = i2 := by rw [← hl2, List.drop_left]
  rw [hd]
  have hz : (p1 ++ p2).zip us = p1.zip us := by
    have := List.zip_append (l₁ := p1) (r₁ := p2) (l₂ := us) (r₂ := []) hl1
    rw [List.append_nil] at this
    rw [this, List.zip_nil_right, List.append_nil]
  have hzd : (List.drop f (p1 ++ p2)).zip (i1 ++ i2) = (p1.drop f).zip i1 ++ p2.zip i2 := by
    rw [List.drop_append_of_le_length (by omega)]
    exact List.zip_append (by simp; omega)
  have nd := List.nodup_append.mp hn
  rw [hz, hzd, List.zip_append hl1, List.filterMap_append]
  congr 1
  · refine (filterMap_on fun n hm => ?_).trans (filterMap_zip nd.1 hl1.symm)
    obtain ⟨v, hv⟩ := look_zip_some (us := us) (Nat.le_of_eq hl1) n hm
    rw [hv]
    rfl
  · refine (filterMap_on fun n hm => ?_).trans (filterMap_zip nd.2.1 hl3)
    have e1 : n ∉ p1 := fun z => nd.2.2 n z n hm rfl
    have e2 : n ∉ p1.drop f := fun z => e1 (List.mem_of_mem_drop z)
    rw [look_zip_none e1, look_app, look_zip_none e2]
    rfl
end PM

end
section
set_option Elab.async false
set_option linter.all false
set_option maxRecDepth 100000
set_option maxHeartbeats 4000000
namespace PM
open PySem PySem.Spec PyProof.Rows L2 N1
open Evl (Ex)
structure FnT where
  nm : Str
  qual : Str
  st : Stmt
  N : List Str
  dfl : List D := []
  mu : List (Str × Bool) := []
  fz : List (Nat × Str) := []
def FnT.ps (f : FnT) : List Str := (defArgs f.st).args.map (·.arg)
def FnT.va (f : FnT) : List Str := match (defArgs f.st).vararg with | some a => [a.arg] | none => []
def FnT.ps' (f : FnT) : List Str := f.ps ++ f.va
def FnT.gam (f : FnT) (mo : Mo) : SE := { N := f.N, names := (defScope f.st).names, raw := (defScope f.st).names, mu := f.mu, hot := false, fun_ := true, mo := mo, fz := f.fz }
def FnT.run (fuel : Nat) (mo : Mo) (f : FnT) : MF := mFn f.N.length (evSs (evN fuel) (f.gam mo) (defBody f.st))
def tupW (ws : List W) : Option W := (unD ws).map fun ds => .d (.tup ds)
def FnT.at_ (fuel : Nat) (mo : Mo) (f : FnT) (n : Nat) : Option MF :=
  if f.va.isEmpty then (if n ≤ f.ps.length ∧ f.ps.length ≤ n + f.dfl.length then some fun ws => f.run fuel mo (ws ++ (f.dfl.drop (n - (f.ps.length - f.dfl.length))).map .d) else none)
  else if f.ps.length ≤ n ∧ n ≤ 1000 ∧ f.dfl.isEmpty then some fun ws h => (match tupW (ws.drop f.ps.length) with
    | some t => f.run fuel mo (ws.take f.ps.length ++ [t]) h
    | none => none) else none
def simD : D → Option V
  | .non => some .non
  | .bl b => some (.bl b)
  | .int i => some (.int i)
  | .str x => some (.str x)
  | _ => none
def kindFn : ScopeKind → Bool
  | .function => true
  | _ => false
def locK : Option NameKind → Bool
  | some .local => true
  | some .cell => true
  | _ => false
def notFreeK : NameKind → Bool
  | .free => false
  | _ => true
def ndS : List Str → Bool
  | [] => true
  | a :: l => !(l.any fun b => a == b) && ndS l
theorem ndS_ok : ∀ {l : List Str}, ndS l = true → l.Nodup
  | [], _ => List.nodup_nil
  | a :: l, h => by
    unfold ndS at h
    rw [Bool.and_eq_true] at h
    refine List.nodup_cons.mpr ⟨fun z => ?_, ndS_ok h.2⟩
    have := h.1
    rw [Bool.not_eq_true', List.any_eq_false] at this
    exact this a z (by simp)
def eqS : List Str → List Str → Bool
  | [], [] => true
  | a :: l, b :: m => (a == b) && eqS l m
  | _, _ => false
theorem eqS_ok : ∀ {l m : List Str}, eqS l m = true → l = m
  | [], [], _ => rfl
  | [], _ :: _, h => by cases h
  | _ :: _, [], h => by cases h
  | a :: l, b :: m, h => by
    unfold eqS at h
    rw [Bool.and_eq_true] at h
    rw [eq_of_beq h.1, eqS_ok h.2]
def FnT.txt (f : FnT) : Bool := kindFn (defScope f.st).kind && !(defScope f.st).isCoroutine && !(defScope f.st).isGenerator && ndS f.N && eqS (f.N.take f.ps'.length) f.ps' && (f.ps'.all fun x => locK ((defScope f.st).names.lookup x)) && ((defScope f.st).names.all fun y => notFreeK y.2) &&
  (defArgs f.st).posonlyargs.isEmpty && (defArgs f.st).kwonlyargs.isEmpty && (defArgs f.st).kwarg.isNone && ndS f.ps' && decide (f.dfl.length ≤ f.ps.length) && (f.dfl.all fun d => (simD d).isSome)
theorem FnT.scope {f : FnT} (h : f.txt = true) : FnScope f.N f.ps' (defScope f.st) := by
  unfold FnT.txt at h
  simp only [Bool.and_eq_true] at h
  obtain ⟨⟨⟨⟨⟨⟨⟨⟨⟨⟨⟨⟨h1, h2⟩, h3⟩, h4⟩, h5⟩, h6⟩, h7⟩, h8⟩, h9⟩, h10⟩, h11⟩, h12⟩, h13⟩ := h
  refine ⟨?_, by simpa using h2, by simpa using h3, ndS_ok h4, eqS_ok h5, fun x hx => ?_, fun y hy => ?_⟩
  · unfold kindFn at h1
    split at h1
    · assumption
    · cases h1
  · have := List.all_eq_true.mp h6 x hx
    unfold locK at this
    split at this
    · exact .inl (by assumption)
    · exact .inr (by assumption)
    · cases this
  · have := List.all_eq_true.mp h7 y hy
    unfold notFreeK at this
    intro z
    rw [z] at this
    cases this
section
variable {P : Program} {w : World} {K : PySem.W.Frag} {mg : Str → Option Value} {base : Heap}
theorem cx_sx {N ps : List Str} {qual : Str} {scope : Scope} {f : Addr} {cdv : Value} {A : Around} {outer : List Env} {s : Shared} {H : Hp} {E : XK} {Γ : SE} {k : Nat} (S : FnScope N ps scope) (hN : Γ.N = N) (hn : Γ.names = scope.names) (hh : Γ.hot = false) (M : MoOk P w K mg base k Γ.mo) (hk : 1 ≤ k)
    (hr : Room (k + 2) (A.deeper (envOfC qual scope s.heap.objs.size f cdv))) : Sx (cxOf (CX P w) P w K mg base N qual scope f cdv A outer s H E) Γ (fun cls d _ H => E cls d H) k where
  N := hN.symm
  nd := S.nd
  names := hn.symm
  kind := S.kind
  calm := fun _ => ⟨rfl, hr, fun _ => passes_of rfl⟩
  hot := fun z => by rw [hh] at z; cases z
  fr := fun _ => ⟨rfl, rfl⟩
  fn := fun _ _ => rfl
  tk := takes_of rfl rfl rfl rfl
  mo := M
  units := by have := hr.un; show (A.deeper _).units + 100 < cLine; omega
  kp := hk
def FnT.dvs (f : FnT) : List V := f.dfl.filterMap simD
theorem sim_rep {mg : MgW} {G : Hp} {d : D} {v : V} (h : simD d = some v) : Rep K mg G d v := by
  unfold simD at h
  split at h <;> cases h
  · exact .non
  · exact .bl _
  · exact .int _
  · exact .str _
theorem sims_rep {mg : MgW} {G : Hp} : ∀ {ds : List D}, (ds.all fun d => (simD d).isSome) = true → RepL K mg G ds (ds.filterMap simD)
  | [], _ => .nil
  | d :: ds, h => by
    rw [List.all_cons, Bool.and_eq_true] at h
    obtain ⟨v, hv⟩ := Option.isSome_iff_exists.mp h.1
    rw [List.filterMap_cons, hv]
    exact .cons (sim_rep hv) (sims_rep h.2)
theorem RepL.drop' {mg : MgW} {G : Hp} : ∀ {ds : List D} {vs : List V} (n : Nat), RepL K mg G ds vs → RepL K mg G (ds.drop n) (vs.drop n)
  | _, _, 0, h => by simpa using h
  | [], [], n + 1, _ => by simpa using RepL.nil
  | _ :: _, _ :: _, n + 1, .cons _ h => by simpa using RepL.drop' n h
theorem RepWs.take' {mg : MgX} {G : Hp} {μ : Mu} : ∀ {ws : List W} {vs : List V} (n : Nat), RepWs K mg G μ ws vs → RepWs K mg G μ (ws.take n) (vs.take n)
  | _, _, 0, _ => .nil
  | [], [], n + 1, _ => by simpa using RepWs.nil
  | _ :: _, _ :: _, n + 1, .cons r h => .cons r (RepWs.take' n h)
theorem RepWs.drop' {mg : MgX} {G : Hp} {μ : Mu} : ∀ {ws : List W} {vs : List V} (n : Nat), RepWs K mg G μ ws vs → RepWs K mg G μ (ws.drop n) (vs.drop n)
  | _, _, 0, h => by simpa using h
  | [], [], n + 1, _ => by simpa using RepWs.nil
  | _ :: _, _ :: _, n + 1, .cons _ h => by simpa using RepWs.drop' n h
theorem Ret.stp {mg : MgX} {α : Type} {G H G1 H1 : Hp} {μ μ1 : Mu} {x : Option (R α × AHp)} {Q : α → Hp → Mu → AHp → Hp → Prop} {EX : XK} (s1 : Step G μ H G1 μ1 H1) (k : Ret K mg G μ H x Q EX) : Ret K mg G1 μ1 H1 x Q EX := by
  obtain ⟨r, h', e, k⟩ := k
  refine ⟨r, h', e, ?_⟩
  cases r with
  | ok a => exact fun G' μ' H' s rh => k G' μ' H' (s1.trans s) rh
  | exc c fs => exact fun G' μ' H' cls d s rh ix => k G' μ' H' cls d (s1.trans s) rh ix
theorem bind_star {x qual : Str} {pr : Arguments} {body : List Stmt} {scope : Scope} {kV doc pm : Value} {an : Option Addr} {cdv ct : Value} {us rest : List Value} {pv : Arg} (h1 : pr.posonlyargs.isEmpty = true) (h2 : pr.kwonlyargs.isEmpty = true) (h3 : pr.kwarg.isNone = true) (h4 : pr.vararg = some pv) (hn : (pr.args.map (·.arg)).Nodup) (hl : us.length = (pr.args.map (·.arg)).length) :
    bindArgs (PySem.W.fnOf x qual pr body scope .none kV doc pm an cdv ct) ⟨us ++ rest, []⟩ = (newTuple rest >>= fun t => pure ((pr.args.map (·.arg)).zip us ++ [(pv.arg, t)])) := by
  obtain ⟨po, ar, va, ko, kd, kw, df⟩ := pr
  simp only [List.isEmpty_iff, Option.isNone_iff_eq_none] at h1 h2 h3 h4 hn hl
  subst h1 h2 h3 h4
  unfold bindArgs
  have e0 : seqItems? Value.none = pure none := rfl
  simp only [PySem.W.fnOf, List.map_nil, List.nil_append, List.append_nil, List.forIn_nil, pure_bind, e0]
  generalize ar.map (·.arg) = ps at hn hl ⊢
  have hz : ps.zip (us ++ rest) = ps.zip us := by
    have := List.zip_append (l₁ := ps) (r₁ := []) (l₂ := us) (r₂ := rest) hl.symm
    rw [List.append_nil] at this
    rw [this, List.zip_nil_left, List.append_nil]
  rw [hz]
  simp only [Option.getD_none]
  rw [if_neg (by simp)]
  have hm : (List.filter (fun n => (List.lookup n (ps.zip us)).isNone) (List.take (ps.length - (List.drop ((#[] : Array Value).toList.length - ps.length) (#[] : Array Value).toList).length) ps)) = [] := by
    rw [List.filter_eq_nil_iff]
    intro n hmem
    obtain ⟨v, hv⟩ := look_zip_some (us := us) (Nat.le_of_eq hl.symm) n (List.mem_of_mem_take hmem)
    rw [hv]
    simp
  rw [hm, if_neg (by simp)]
  simp only [List.drop_nil, List.zip_nil_right, List.forIn_nil, pure_bind]
  rw [if_neg (by simp)]
  rw [filterMap_zip hn hl, ← hl, List.drop_left]
theorem fnT_ok {f : FnT} {a : Addr} {fuel k n : Nat} {mf : MF} {mo : Mo} (ht : f.txt = true) (D : ∃ fd, FunD K f.nm f.qual (defArgs f.st) (defBody f.st) (defScope f.st) f.dvs [] a fd) (M : MoOk P w K mg base k mo) (hk : 1 ≤ k) (e : f.at_ fuel mo n = some mf) : FnM P w K mg base (k + 3) a n mf := by
  have S := f.scope ht
  have ht' := ht
  unfold FnT.txt at ht'
  simp only [Bool.and_eq_true] at ht'
  obtain ⟨⟨⟨⟨⟨⟨⟨⟨⟨⟨⟨⟨_, _⟩, _⟩, _⟩, _⟩, _⟩, _⟩, t8⟩, t9⟩, t10⟩, t11⟩, t12⟩, t13⟩ := ht'
  have t12 : f.dfl.length ≤ f.ps.length := by simpa using t12
  have rd : ∀ G : Hp, RepL K ⟨mg, w⟩ G f.dfl f.dvs := fun G => sims_rep t13
  have hdl : f.dvs.length = f.dfl.length := (rd (fun _ => none)).length.symm
  have hbody : ∀ (cdv : Value) (A : Around) (outer : List Env) (s : Shared) (H : Hp) (vs : List V) (Q : VK) (E : XK), Room (k + 2) (A.deeper (envOfC f.qual (defScope f.st) s.heap.objs.size a cdv)) → spM K ⟨mg, w⟩ f.ps'.length (f.run fuel mo) vs H Q E →
      ∃ t, PSs (cxOf (CX P w) P w K mg base f.N f.qual (defScope f.st) a cdv A outer s H E) (defBody f.st) t ∧ t { nx := fun _ H' => Q .non H', rt := Q } (L2.start f.N vs) H := fun cdv A outer s H vs Q E hr h => by
    obtain ⟨hl, G, μ, ws, hA, rv, rh, kk⟩ := h
    exact ⟨_, evSs_ok (evN_ok fuel) (cx_sx (Γ := f.gam mo) S rfl rfl rfl M hk hr) (defBody f.st), G, μ, _, hA, startA_rel rv, rh, fn_ret rh kk⟩
  obtain ⟨fd, F⟩ := D
  unfold FnT.at_ at e
  split at e
  · rename_i hva
    have hva : f.va = [] := by simpa using hva
    have hps : f.ps' = f.ps := by unfold FnT.ps'; rw [hva, List.append_nil]
    have hpl : plainP (defArgs f.st) = true := by
      unfold plainP
      rw [t8, t9, t10]
      unfold FnT.va at hva
      split at hva
      · cases hva
      · rename_i q; rw [q]; rfl
    rw [hps] at S hbody t11
    have GG := F.ok S (fun vs H Q E h => h.1) hbody
    split at e
    · rename_i hle
      cases e
      by_cases h0 : f.dfl = []
      · have hn : n = f.ps.length := by rw [h0] at hle; simp at hle; omega
        have e0 : f.dvs = [] := by unfold FnT.dvs; rw [h0]; rfl
        rw [e0] at F
        have B := F.bindsN (ps := f.ps) (fun kV doc pm an cdv ct us hl => by
          obtain ⟨kk, e1, e2⟩ := bind_some (x := f.nm) (qual := f.qual) (body := defBody f.st) (scope := defScope f.st) (dV := .none) (kV := kV) (doc := doc) (pm := pm) (an := an) (cdv := cdv) (ct := ct) (us := us) (its := []) (o := none) hpl rfl (ndS_ok t11) (Nat.le_of_eq hl) (Nat.zero_le _) (by show f.ps.length ≤ us.length + 0; omega) rfl
          rw [e1]
          have : seqItems? Value.none = pure none := rfl
          rw [this, pure_bind, e2, List.drop_nil, List.append_nil]
          rfl)
        refine (GG.raw B .nil).imp fun vs H Q E h => ?_
        obtain ⟨hl, G, μ, ws, hA, rv, rh, kk⟩ := h
        refine ⟨by rw [List.append_nil, hl, hn], G, μ, ws, hA, by rw [List.append_nil]; exact rv, rh, ?_⟩
        have : (f.dfl.drop (n - (f.ps.length - f.dfl.length))).map W.d = [] := by rw [h0]; simp
        dsimp only at kk
        rw [this, List.append_nil] at kk
        exact kk
      · have hne : f.dvs ≠ [] := fun z => h0 (by rw [← List.length_eq_zero_iff, ← hdl, z]; rfl)
        obtain ⟨ds, r1, B⟩ := F.binds1 (ps := f.ps) n (n - (f.ps.length - f.dfl.length)) hne (by rw [hdl]; omega) (fun T kV doc pm an cdv ct us its h1 h2 => by
          have h2 : its.length = f.dfl.length := by rw [h2, hdl]
          obtain ⟨kk, e1, e2⟩ := bind_some (x := f.nm) (qual := f.qual) (body := defBody f.st) (scope := defScope f.st) (dV := .ref T) (kV := kV) (doc := doc) (pm := pm) (an := an) (cdv := cdv) (ct := ct) (us := us) (its := its) (o := some its.toArray) hpl rfl (ndS_ok t11) (by show us.length ≤ f.ps.length; omega) (by show its.length ≤ f.ps.length; omega) (by show f.ps.length ≤ _; omega) (by simp)
          refine ⟨kk, e1, ?_⟩
          rw [e2, h1, h2]
          rfl)
        refine (GG.raw B r1).imp fun vs H Q E h => ?_
        obtain ⟨hl, G, μ, ws, hA, rv, rh, kk⟩ := h
        refine ⟨by rw [List.length_append, hl, List.length_drop, hdl]; omega, G, μ, _, hA, rv.append (repWs_of ((rd G).drop' _)), rh, kk⟩
    · cases e
  · rename_i hva
    split at e
    · rename_i hle
      cases e
      obtain ⟨hle1, hle2, hle3⟩ := hle
      have h0 : f.dfl = [] := by simpa using hle3
      have e0 : f.dvs = [] := by unfold FnT.dvs; rw [h0]; rfl
      obtain ⟨pv, hpv, hva'⟩ : ∃ pv, (defArgs f.st).vararg = some pv ∧ f.va = [pv.arg] := by
        unfold FnT.va at hva ⊢
        split at hva
        · rename_i q; exact ⟨_, q, rfl⟩
        · exact absurd rfl hva
      have hps : f.ps' = f.ps ++ [pv.arg] := by unfold FnT.ps'; rw [hva']
      rw [hps] at S hbody t11
      obtain ⟨oc, od, dV, kV, doc, pm, an, cdv, ct, osl, rfl, lk, hcd, hD, _⟩ := F.ex
      have hdV : dV = .none := by
        rcases hD with ⟨_, q⟩ | ⟨q, _⟩
        · exact q
        · exact absurd e0 q
      subst hdV
      have nd1 : f.ps.Nodup := (List.nodup_append.mp (ndS_ok t11)).1
      have Z := StX.fn_star (P := P) (w := w) (mg := mg) (base := base) (CX := CX P w) (k := k + 2) (sp := spM K ⟨mg, w⟩ (f.ps ++ [pv.arg]).length (f.run fuel mo)) lk hcd S StX.cxUp (fun us rest hl => bind_star t8 t9 t10 hpv nd1 hl) (fun A outer s H vs Q E hr h => hbody cdv A outer s H vs Q E hr h)
      refine Z.imp fun vs H Q E h => ?_
      obtain ⟨hl, G, μ, ws, hA, rv, rh, kk⟩ := h
      have hsz : vs.length ≤ sizeLine := by rw [hl]; exact Nat.le_trans hle2 (by decide)
      have r1 := rv.take' f.ps.length
      have r2 := rv.drop' f.ps.length
      refine ⟨vs.take f.ps.length, vs.drop f.ps.length, (List.take_append_drop _ _).symm, by simp; omega, by simp; omega, fun p hp => ?_⟩
      dsimp only at kk
      unfold tupW at kk
      cases q : unD (ws.drop f.ps.length) with
      | none => rw [q] at kk; obtain ⟨_, _, e, _⟩ := kk; cases e
      | some ds =>
        rw [q] at kk
        have r3 : RepL K ⟨mg, w⟩ G ds (vs.drop f.ps.length) := repL_of r2 q
        obtain ⟨n1, n2⟩ := rh.new hp (.tup (vs.drop f.ps.length))
        exact ⟨by simp; omega, _, μ, _, hA, (r1.mono n2).append (.cons (w := .d (.tup ds)) (Rep.tup (Evl.st_of upd_same) (r3.mono n2.g)) .nil), n1, Ret.stp n2 kk⟩
    · cases e
end
end PM

end
section
set_option Elab.async false
set_option linter.all false
set_option maxRecDepth 100000
set_option maxHeartbeats 4000000
namespace PM
open PySem PySem.Spec PyProof.Rows L2 N1
open Evl (Ex)
open He (ga ma eqO eqO_ok ba dflB dflB_ok)
structure ClT where
  nm : Str
  slots : List Str
  meths : List (Str × FnT)
  props : List (Str × FnT)
  init : Option FnT
structure LowT where
  f : Str
  x : Str
  qual : Str
  st : Stmt
structure ModT where
  cons : List (Str × D)
  fns : List (Str × FnT)
  cls : List (Str × ClT)
  exc : List (Str × Option LowT)
  exm : List ((Str × Str) × Bool)
  isO : List ((Str × Str) × Bool)
  isT : List ((Str × String) × Bool)
  isN : List ((String × Str) × Bool)
  free : List Str
def look {α β : Type} [BEq α] (l : List (α × β)) (a : α) : Option β := (l.find? fun p => p.1 == a).map (·.2)
theorem look_mem {α β : Type} [BEq α] [LawfulBEq α] {l : List (α × β)} {a : α} {b : β} (h : look l a = some b) : (a, b) ∈ l := by
  unfold look at h
  cases q : l.find? fun p => p.1 == a with
  | none => rw [q] at h; cases h
  | some p =>
    rw [q] at h
    cases h
    have h1 := List.find?_some q
    have h2 := List.mem_of_find?_eq_some q
    have : p.1 = a := by simpa using h1
    rw [← this]
    exact h2
def look2 {α β γ : Type} [BEq α] [BEq β] (l : List ((α × β) × γ)) (a : α) (b : β) : Option γ := (l.find? fun p => p.1.1 == a && p.1.2 == b).map (·.2)
theorem look2_mem {α β γ : Type} [BEq α] [LawfulBEq α] [BEq β] [LawfulBEq β] {l : List ((α × β) × γ)} {a : α} {b : β} {c : γ} (h : look2 l a b = some c) : ((a, b), c) ∈ l := by
  unfold look2 at h
  cases q : l.find? fun p => p.1.1 == a && p.1.2 == b with
  | none => rw [q] at h; cases h
  | some p =>
    rw [q] at h
    cases h
    have h1 := List.find?_some q
    have h2 := List.mem_of_find?_eq_some q
    rw [Bool.and_eq_true] at h1
    have e1 : p.1.1 = a := by simpa using h1.1
    have e2 : p.1.2 = b := by simpa using h1.2
    rw [← e1, ← e2]
    exact h2
def ClT.ci0 (t : ClT) : CI := ⟨t.slots, fun _ => none, fun _ _ => none, fun _ => none⟩
def ClT.ci (t : ClT) (fuel : Nat) (m : Mo) : CI := ⟨t.slots, fun f => (look t.props f).bind fun g => g.at_ fuel m 1, fun x n => (look t.meths x).bind fun g => g.at_ fuel m n, fun n => t.init.bind fun g => g.at_ fuel m n⟩
def ModT.mo (T : ModT) (fuel : Nat) : Nat → Mo
  | 0 => ⟨look T.cons, fun _ _ => none, fun c => (look T.cls c).map ClT.ci0, fun c => (look T.exc c).map fun o => o.map (·.f), look2 T.exm, look2 T.isO, look2 T.isT, look2 T.isN, fun x => T.free.any fun y => y == x⟩
  | j + 1 => ⟨look T.cons, fun x n => (look T.fns x).bind fun g => g.at_ fuel (T.mo fuel j) n, fun c => (look T.cls c).map fun t => t.ci fuel (T.mo fuel j), fun c => (look T.exc c).map fun o => o.map (·.f), look2 T.exm, look2 T.isO, look2 T.isT, look2 T.isN, fun x => T.free.any fun y => y == x⟩
abbrev FnO : Type := Option (Str × Str × Arguments × FuncBody × Scope)
def fnO (K : PySem.W.Frag) (a : Addr) : FnO := match K.lookup a with
  | some ⟨_, _, .func fd, _⟩ => some (fd.name, fd.qualname, fd.params, fd.body, fd.scope)
  | _ => none
def fnB (K : PySem.W.Frag) (a : Addr) (qual : Str) (dvs : List V) : Bool := PySem.W.keepIn K (.ref a) && (match K.lookup a with
  | some ⟨_, _, .func fd, _⟩ => fd.globals == mainGlobals && fd.closure.isEmpty && fd.builtins == builtinsNs && PySem.W.codeIn K fd.code qual && dflB K fd.defaults dvs
  | _ => false)
def FnT.val (f : FnT) : FnO := some (f.nm, f.qual, defArgs f.st, .stmts (defBody f.st), defScope f.st)
theorem fn_funD {K : PySem.W.Frag} {f : FnT} {a : Addr} (e : fnO K a = f.val) (c : fnB K a f.qual f.dvs = true) : ∃ fd, FunD K f.nm f.qual (defArgs f.st) (defBody f.st) (defScope f.st) f.dvs [] a fd := by
  obtain ⟨kp, c2⟩ := ba c
  unfold fnO at e
  cases q : K.lookup a with
  | none =>
    rw [q] at c2
    cases c2
  | some o =>
    obtain ⟨oc, od, dt, osl⟩ := o
    rw [q] at c2 e
    cases dt with
    | func fd =>
      obtain ⟨n1, n2, n3, n4, n5, n6, n7, n8, n9, n10, n11, n12, n13, n14, n15⟩ := fd
      have e2 : (some (n1, n2, n3, n4, n5) : FnO) = some (f.nm, f.qual, defArgs f.st, .stmts (defBody f.st), defScope f.st) := e
      simp only [Option.some.injEq, Prod.mk.injEq] at e2
      obtain ⟨h1, h2, h3, h4, h5⟩ := e2
      have c3 : (n6 == mainGlobals && n7.isEmpty && n15 == builtinsNs && PySem.W.codeIn K n13 f.qual && dflB K n8 f.dvs) = true := c2
      simp only [Bool.and_eq_true] at c3
      obtain ⟨⟨⟨⟨k1, k2⟩, k3⟩, k4⟩, k5⟩ := c3
      have h6 := eq_of_beq k1
      have h7 : n7 = [] := by simpa using k2
      have h8 := eq_of_beq k3
      subst h1 h2 h3 h4 h5 h6 h7 h8
      exact ⟨_, ⟨oc, od, n8, n9, n10, n11, n12, n13, n14, osl, rfl, q, k4, dflB_ok k5, .inl rfl⟩, kp⟩
    | _ => cases c2
def repBs (f : D → Value → Bool) : List D → List Value → Bool
  | [], [] => true
  | d :: ds, u :: us => f d u && repBs f ds us
  | _, _ => false
def repB (K : PySem.W.Frag) : Nat → D → Value → Bool
  | 0, _, _ => false
  | n + 1, d, u => match d, u with
    | .non, .none => true
    | .bl b, .bool c => b == c
    | .int i, .int j _ => decide (i = j)
    | .str x, .str y _ => decide (x = y)
    | .tup ds, .ref a => (match K.lookup a with
      | some ⟨.type c, _, .seq its _, _⟩ => decide (c = "tuple") && decide (its.size ≤ sizeLine) && repBs (repB K n) ds its.toList
      | _ => false)
    | _, _ => false
theorem repBs_ok {K : PySem.W.Frag} {mg : MgW} {f : D → Value → Bool} (hf : ∀ d u, f d u = true → ∃ v, RelV v u ∧ ∀ G, Rep K mg G d v) : ∀ {ds : List D} {us : List Value}, repBs f ds us = true → ∃ vs, Vals vs us ∧ ∀ G, RepL K mg G ds vs
  | [], [], _ => ⟨[], .nil, fun _ => .nil⟩
  | [], _ :: _, h => by cases h
  | _ :: _, [], h => by cases h
  | d :: ds, u :: us, h => by
    obtain ⟨h1, h2⟩ := ba (show (f d u && repBs f ds us) = true from h)
    obtain ⟨v, r1, r2⟩ := hf d u h1
    obtain ⟨vs, s1, s2⟩ := repBs_ok hf h2
    exact ⟨v :: vs, .cons r1 s1, fun G => .cons (r2 G) (s2 G)⟩
theorem repB_ok {K : PySem.W.Frag} {mg : MgW} : ∀ (n : Nat) (d : D) (u : Value), repB K n d u = true → ∃ v, RelV v u ∧ ∀ G, Rep K mg G d v
  | 0, _, _, h => by cases h
  | n + 1, d, u, h => by
    unfold repB at h
    split at h
    · exact ⟨.non, rfl, fun _ => .non⟩
    · rename_i b c
      have : b = c := eq_of_beq h
      subst this
      exact ⟨.bl b, rfl, fun _ => .bl b⟩
    · rename_i i j t
      have : i = j := of_decide_eq_true h
      subst this
      exact ⟨.int i, ⟨t, rfl⟩, fun _ => .int i⟩
    · rename_i x y t
      have : x = y := of_decide_eq_true h
      subst this
      exact ⟨.str x, ⟨t, rfl⟩, fun _ => .str x⟩
    · rename_i ds a
      split at h
      · rename_i c dd its ep sl q
        simp only [Bool.and_eq_true, decide_eq_true_eq] at h
        obtain ⟨⟨h1, h2⟩, h3⟩ := h
        obtain ⟨vs, s1, s2⟩ := repBs_ok (mg := mg) (repB_ok n) h3
        exact ⟨.ref a, rfl, fun G => .tup (.inr ⟨_, its, ep, q, congrArg Value.type h1, rfl, h2, s1⟩) (s2 G)⟩
      · cases h
    · cases h
def conB (K : PySem.W.Frag) (x : Str) (d : D) : Bool := match PySem.W.nsIn K mainGlobals x with
  | some (some u) => repB K 8 d u
  | _ => false
def gloB (K : PySem.W.Frag) (x : Str) : Bool := eqO (PySem.W.nsIn K mainGlobals x) (some (some (.ref (ga K x))))
def freeB (K : PySem.W.Frag) (x : Str) : Bool := eqO (PySem.W.nsIn K mainGlobals x) (some none) && !(x == ("__name__" : Str))
def eqV (a b : Option Value) : Bool := decide (a = b)
def slotB (K : PySem.W.Frag) (C : Addr) (f : Str) (i : Nat) : Bool := eqO (PySem.W.findIn K (.ref C) f) (some (some (.ref (ma K C f)))) && eqO (PySem.W.specialIn K (.ref (ma K C f)) "__get__") (some (some (.builtin "member_descriptor.__get__"))) &&
  decide (PySem.W.takesIn K (.ref (ma K C f)) = some true) && eqV (PySem.W.typeIn K (.ref (ma K C f))) (some (.type "member_descriptor")) && decide (PySem.W.slotIn K (ma K C f) C = some i) && decide (i < 1000)
theorem slotB_ok {K : PySem.W.Frag} {C : Addr} {f : Str} {i : Nat} (h : slotB K C f i = true) : SlX.Slot1 K C f (ma K C f) i := by
  unfold slotB eqV at h
  simp only [Bool.and_eq_true, decide_eq_true_eq] at h
  obtain ⟨⟨⟨⟨⟨h1, h2⟩, h3⟩, h4⟩, h5⟩, h6⟩ := h
  exact ⟨eqO_ok h1, eqO_ok h2, h3, h4, h5, h6⟩
def slotsB (K : PySem.W.Frag) (C : Addr) : List Str → Nat → Bool
  | [], _ => true
  | f :: fs, i => slotB K C f i && slotsB K C fs (i + 1)
theorem slotsB_ok {K : PySem.W.Frag} {C : Addr} : ∀ {fs : List Str} {n : Nat}, slotsB K C fs n = true → ∀ (i : Nat) (f : Str), fs[i]? = some f → SlX.Slot1 K C f (ma K C f) (n + i)
  | [], _, _, i, f, e => by simp at e
  | g :: fs, n, h, i, f, e => by
    obtain ⟨h1, h2⟩ := ba (show (slotB K C g n && slotsB K C fs (n + 1)) = true from h)
    cases i with
    | zero => cases e; exact slotB_ok h1
    | succ i =>
      have := slotsB_ok h2 i f (by simpa using e)
      rw [show n + (i + 1) = n + 1 + i from by omega]
      exact this
def prAd (K : PySem.W.Frag) (p : Addr) : Addr := match PySem.W.recIn K p "property" with
  | some (.ref g :: _) => g
  | _ => 0
def prB (K : PySem.W.Frag) (C : Addr) (f : Str) : Bool := eqO (PySem.W.findIn K (.ref C) f) (some (some (.ref (ma K C f)))) && eqO (PySem.W.specialIn K (.ref (ma K C f)) "__get__") (some (some (.builtin "property.__get__"))) &&
  decide (PySem.W.takesIn K (.ref (ma K C f)) = some true) && (match PySem.W.recIn K (ma K C f) "property" with | some (.ref _ :: _) => true | _ => false)
theorem prB_rec {K : PySem.W.Frag} {C : Addr} {f : Str} (h : prB K C f = true) : ∃ rest, PySem.W.recIn K (ma K C f) "property" = some (.ref (prAd K (ma K C f)) :: rest) := by
  unfold prB at h
  have h4 := (ba h).2
  unfold prAd
  split at h4
  · rename_i g rest q
    rw [q]
    exact ⟨rest, rfl⟩
  · cases h4
def methB (K : PySem.W.Frag) (C : Addr) (m : Str) : Bool := eqO (PySem.W.findIn K (.ref C) m) (some (some (.ref (ma K C m)))) && PySem.W.isFn K (.ref (ma K C m)) && PySem.W.fnIn K (ma K C m) && PySem.W.keepIn K (.ref (ma K C m))
def ClT.ok (t : ClT) (K : PySem.W.Frag) (C : Addr) : Bool := PySem.W.selfFirst K C && PySem.W.notFirst K C (.ref C) && PySem.W.plainGet K C Str.empty && PySem.W.isClsIn K C && PySem.W.plainOver K C && eqO (PySem.W.findIn K (.ref C) "__setattr__") (some (some (.builtin "object.__setattr__"))) &&
  eqO (PySem.W.findIn K (.ref C) "__class__") (some (some (.builtin "object.__class__"))) && eqO (PySem.W.specialIn K (.builtin "object.__class__") "__get__") (some (some (.builtin "getset_descriptor.__get__"))) && decide (PySem.W.takesIn K (.builtin "object.__class__") = some true) && decide (PySem.W.mroIn K C (.type "object") = some true) &&
  slotsB K C t.slots 0 && (t.meths.all fun p => methB K C p.1 && p.2.txt && fnB K (ma K C p.1) p.2.qual p.2.dvs) && (t.props.all fun p => prB K C p.1 && p.2.txt && fnB K (prAd K (ma K C p.1)) p.2.qual p.2.dvs) &&
  (match t.init with
    | some f => PySem.W.makesIn K C && methB K C "__init__" && PySem.W.keepIn K (.ref C) && f.txt && fnB K (ma K C "__init__") f.qual f.dvs
    | none => true)
section
variable {P : Program} {w : World} {K : PySem.W.Frag} {mg : Str → Option Value} {base : Heap}
structure ClV (K : PySem.W.Frag) (C : Addr) (t : ClT) : Prop where
  meth : ∀ p ∈ t.meths, fnO K (ma K C p.1) = p.2.val
  prop : ∀ p ∈ t.props, fnO K (prAd K (ma K C p.1)) = p.2.val
  init : ∀ f, t.init = some f → fnO K (ma K C "__init__") = f.val
theorem cls_ok {t : ClT} {c : Str} {C : Addr} {fuel k : Nat} {m : Mo} (hc : mg c = some (.ref C)) (h : t.ok K C = true) (V : ClV K C t) (M : MoOk P w K mg base k m) (hk : 1 ≤ k) : ClsF P w K mg base (k + 3) c (t.ci fuel m) C := by
  unfold ClT.ok at h
  simp only [Bool.and_eq_true] at h
  obtain ⟨⟨⟨⟨⟨⟨⟨⟨⟨⟨⟨⟨⟨h1, h2⟩, h3⟩, h4⟩, h5⟩, h6⟩, h7⟩, h8⟩, h9⟩, h10⟩, h11⟩, h12⟩, h13⟩, h14⟩ := h
  refine ⟨hc, h1, h2, ⟨h3, h4, h5, eqO_ok h6⟩, ⟨eqO_ok h7, eqO_ok h8, of_decide_eq_true h9, of_decide_eq_true h10⟩, fun i f e => ?_, fun x n mf e => ?_, fun f mf e => ?_, fun n mf e => ?_⟩
  · have := slotsB_ok h11 i f e
    rw [Nat.zero_add] at this
    exact ⟨_, this⟩
  · have e : (look t.meths x).bind (fun g => g.at_ fuel m n) = some mf := e
    cases q : look t.meths x with
    | none => rw [q] at e; cases e
    | some f =>
      rw [q] at e
      have hm := look_mem q
      have z := List.all_eq_true.mp h12 _ hm
      simp only [Bool.and_eq_true] at z
      obtain ⟨⟨z1, z2⟩, z3⟩ := z
      unfold methB at z1
      simp only [Bool.and_eq_true] at z1
      obtain ⟨⟨⟨y1, y2⟩, y3⟩, y4⟩ := z1
      exact ⟨_, eqO_ok y1, y2, y3, y4, fnT_ok z2 (fn_funD (V.meth _ hm) z3) M hk e⟩
  · have e : (look t.props f).bind (fun g => g.at_ fuel m 1) = some mf := e
    cases q : look t.props f with
    | none => rw [q] at e; cases e
    | some g =>
      rw [q] at e
      have hm := look_mem q
      have z := List.all_eq_true.mp h13 _ hm
      simp only [Bool.and_eq_true] at z
      obtain ⟨⟨z1, z2⟩, z3⟩ := z
      have hr := prB_rec z1
      unfold prB at z1
      simp only [Bool.and_eq_true] at z1
      obtain ⟨⟨⟨y1, y2⟩, y3⟩, y4⟩ := z1
      exact ⟨_, _, eqO_ok y1, eqO_ok y2, of_decide_eq_true y3, hr, fnT_ok z2 (fn_funD (V.prop _ hm) z3) M hk e⟩
  · have e : t.init.bind (fun g => g.at_ fuel m n) = some mf := e
    cases q : t.init with
    | none => rw [q] at e; cases e
    | some f =>
      rw [q] at e h14
      simp only [Bool.and_eq_true] at h14
      obtain ⟨⟨⟨⟨z1, z2⟩, z3⟩, z4⟩, z5⟩ := h14
      unfold methB at z2
      simp only [Bool.and_eq_true] at z2
      obtain ⟨⟨⟨y1, y2⟩, y3⟩, y4⟩ := z2
      exact ⟨_, ⟨z1, eqO_ok y1, y2, z3⟩, fnT_ok z4 (fn_funD (V.init _ q) z5) M hk e⟩
theorem cls_ok0 {t : ClT} {c : Str} {C : Addr} {k : Nat} (hc : mg c = some (.ref C)) (h : t.ok K C = true) : ClsF P w K mg base k c t.ci0 C := by
  unfold ClT.ok at h
  simp only [Bool.and_eq_true] at h
  obtain ⟨⟨⟨⟨⟨⟨⟨⟨⟨⟨⟨⟨⟨h1, h2⟩, h3⟩, h4⟩, h5⟩, h6⟩, h7⟩, h8⟩, h9⟩, h10⟩, h11⟩, h12⟩, h13⟩, h14⟩ := h
  refine ⟨hc, h1, h2, ⟨h3, h4, h5, eqO_ok h6⟩, ⟨eqO_ok h7, eqO_ok h8, of_decide_eq_true h9, of_decide_eq_true h10⟩, fun i f e => ?_, fun x n mf e => (nomatch e), fun f mf e => (nomatch e), fun n mf e => (nomatch e)⟩
  have := slotsB_ok h11 i f e
  rw [Nat.zero_add] at this
  exact ⟨_, this⟩
end
end PM

end
section
set_option Elab.async false
set_option linter.all false
set_option maxRecDepth 100000
set_option maxHeartbeats 4000000
namespace PM
open PySem PySem.Spec PyProof.Rows L2 N1
open Evl (Ex)
open He (ga ma eqO eqO_ok ba dflB dflB_ok frG frG_in asD)
def lowP (b : List Stmt) (x f : Str) : Bool := match b with
  | [.Expr (.Call (.Attribute (.Call (.Name s q1) [] [] q2) i q3) [.Name x' q4] [] q5) q6, .Assign [.Attribute (.Name se r1) f' r2] (.Name x'' r3) r4] =>
    s == ("super" : Str) && i == ("__init__" : Str) && x' == x && se == ("self" : Str) && f' == f && x'' == x && (q3.endLine == q5.line)
  | _ => false
theorem lowP_ok {b : List Stmt} {x f : Str} (h : lowP b x f = true) : ∃ q1 q2 q3 q4 q5 q6 r1 r2 r3 r4, b = lowBody x f q1 q2 q3 q4 q5 q6 r1 r2 r3 r4 ∧ (q3.endLine == q5.line) = true := by
  unfold lowP at h
  split at h
  · rename_i s q1 q2 i q3 x' q4 q5 q6 se r1 f' r2 x'' r3 r4
    simp only [Bool.and_eq_true] at h
    obtain ⟨⟨⟨⟨⟨⟨h1, h2⟩, h3⟩, h4⟩, h5⟩, h6⟩, h7⟩ := h
    have e1 := eq_of_beq h1
    have e2 := eq_of_beq h2
    have e3 := eq_of_beq h3
    have e4 := eq_of_beq h4
    have e5 := eq_of_beq h5
    have e6 := eq_of_beq h6
    subst e1 e2 e3 e4 e5 e6
    exact ⟨q1, q2, q3, q4, q5, q6, r1, r2, r3, r4, rfl, h7⟩
  · cases h
def isGlbK : Option NameKind → Bool
  | some .globalImplicit => true
  | _ => false
def LowT.txt (l : LowT) : Bool := lowP (defBody l.st) l.x l.f && NdefX.nscB ["self", l.x, "__class__"] ["self", l.x] ["__class__"] (defScope l.st) && isGlbK ((defScope l.st).names.lookup ("super" : Str)) && plainP (defArgs l.st) && eqS ((defArgs l.st).args.map (·.arg)) ["self", l.x] && ndS ["self", l.x] &&
  !(l.x == ("__debug__" : Str)) && !(l.x == ("__classdict__" : Str))
def LowT.val (l : LowT) : FnO := some ("__init__", l.qual, defArgs l.st, .stmts (defBody l.st), defScope l.st)
def oexB (K : PySem.W.Frag) (C : Addr) : Bool := (match K.lookup C with
  | some ⟨.type t, _, .cls cd, sl⟩ => (match cd.mro, sl.toList with
    | .ref C' :: bm, [_, _, _, _, some (.builtin n), _] => decide (t = "type") && C' == C && n == "ValueError.__new__" && !cd.hasDel && cd.hasDict && PySem.HandSPX.refsVE bm
    | _, _ => false)
  | _ => false) && eqO (PySem.W.findIn K (.ref C) "__setattr__") (some (some (.builtin "object.__setattr__"))) && decide (PySem.W.subIn K (.ref C) (.type "BaseException") = some true) && eqV (PySem.W.typeIn K (.ref C)) (some (.type "type")) && PySem.W.keepIn K (.ref C)
theorem oexB_ok {K : PySem.W.Frag} {C : Addr} (h : oexB K C = true) : OexC K C := by
  unfold oexB eqV at h
  simp only [Bool.and_eq_true] at h
  obtain ⟨⟨⟨⟨h1, h2⟩, h3⟩, h4⟩, h5⟩ := h
  refine ⟨?_, eqO_ok h2, of_decide_eq_true h3, of_decide_eq_true h4, h5⟩
  split at h1
  · rename_i t dd cd sl q
    split at h1
    · rename_i C' bm k0 k1 k2 k3 n k5 hm hs
      simp only [Bool.and_eq_true, decide_eq_true_eq, beq_iff_eq, Bool.not_eq_true'] at h1
      obtain ⟨⟨⟨⟨⟨y0, y1⟩, y2⟩, y3⟩, y4⟩, y5⟩ := h1
      obtain ⟨z1, z2, z3, z4, z5, z6, z7, z8, z9, z10, z11⟩ := cd
      dsimp only at hm y3 y4
      have hsl : sl = #[k0, k1, k2, k3, some (.builtin n), k5] := by
        obtain ⟨l⟩ := sl
        simp only at hs
        rw [hs]
      subst y0 y1 y2 y3 y4 hm hsl
      exact ⟨z1, z5, z4, z2, bm, z7, z8, z9, z10, dd, k0, k1, k2, k3, k5, q, y5⟩
    · cases h1
  · cases h1
def lowFn (P : Program) (K : PySem.W.Frag) (C a : Addr) (qual : Str) : Bool := match K.lookup a with
  | some ⟨_, _, .func fd, _⟩ => fd.globals == mainGlobals && fd.builtins == builtinsNs && (match fd.closure with
      | [(n, cc)] => n == ("__class__" : Str) && (match K.lookup cc with
        | some ⟨_, _, .cell (some (.ref D)), _⟩ => D == C
        | _ => false)
      | _ => false) && (match fd.defaults with | .none => true | _ => false) && PySem.W.codeIn K fd.code qual && (match fd.code with
      | .ref cda => (match K.lookup cda with
        | some ⟨_, _, .fields vs, _⟩ => (match (vs[2]? : Option Value) with
          | some (Value.str file _) => (P.main.file : Str) == file
          | _ => false)
        | _ => false)
      | _ => false)
  | _ => false
def LowT.ok (l : LowT) (P : Program) (K : PySem.W.Frag) (C : Addr) : Bool := oexB K C && eqO (PySem.W.findIn K (.ref C) "__init__") (some (some (.ref (ma K C "__init__")))) && eqV (PySem.W.typeIn K (.ref (ma K C "__init__"))) (some (.type "function")) && eqO (PySem.W.findIn K (.ref C) l.f) (some none) &&
  decide (PySem.W.mroIn K C (.ref C) = some true) && decide (PySem.W.subIn K (.ref C) (.type "ValueError") = some true) && eqO (PySem.W.ks_superIn K C C "__init__") (some (some (.builtin "ValueError.__init__"))) && eqO (PySem.W.nsIn K cStatics "thirdparty.any") (some none) && !(P.main.scope.names.lookup ("super" : Str)).isSome && lowFn P K C (ma K C "__init__") l.qual && l.txt
theorem isGlbK_ok {o : Option NameKind} (h : isGlbK o = true) : o = some .globalImplicit := by
  unfold isGlbK at h
  split at h
  · rfl
  · cases h
theorem low_is {P : Program} {K : PySem.W.Frag} {C : Addr} {l : LowT} (h : l.ok P K C = true) (e : fnO K (ma K C "__init__") = l.val) : ∃ fd, LowC P K C l.f (ma K C "__init__") fd := by
  unfold LowT.ok eqV at h
  simp only [Bool.and_eq_true] at h
  obtain ⟨⟨⟨⟨⟨⟨⟨⟨⟨⟨h1, h2⟩, h3⟩, h4⟩, h5⟩, h6⟩, h7⟩, h8⟩, h9⟩, h10⟩, h11⟩ := h
  unfold LowT.txt at h11
  simp only [Bool.and_eq_true] at h11
  obtain ⟨⟨⟨⟨⟨⟨⟨t1, t2⟩, t3⟩, t4⟩, t5⟩, t6⟩, t7⟩, t8⟩ := h11
  obtain ⟨q1, q2, q3, q4, q5, q6, r1, r2, r3, r4, eb, hl⟩ := lowP_ok t1
  have eps := eqS_ok t5
  unfold fnO at e
  unfold lowFn at h10
  cases q : K.lookup (ma K C "__init__") with
  | none => rw [q] at h10; cases h10
  | some o =>
    obtain ⟨oc, od, dt, osl⟩ := o
    rw [q] at h10 e
    cases dt with
    | func fd =>
      obtain ⟨n1, n2, n3, n4, n5, n6, n7, n8, n9, n10, n11, n12, n13, n14, n15⟩ := fd
      have e2 : (some (n1, n2, n3, n4, n5) : FnO) = some (("__init__" : Str), l.qual, defArgs l.st, FuncBody.stmts (defBody l.st), defScope l.st) := e
      simp only [Option.some.injEq, Prod.mk.injEq] at e2
      obtain ⟨g1, g2, g3, g4, g5⟩ := e2
      simp only [Bool.and_eq_true] at h10
      obtain ⟨⟨⟨⟨⟨w1, w2⟩, w3⟩, w4⟩, w5⟩, w6⟩ := h10
      have g6 := eq_of_beq w1
      have g7 := eq_of_beq w2
      cases n13 with
      | ref cda =>
        cases n8 with
        | none =>
          split at w3
          · rename_i q0 n cc
            rw [Bool.and_eq_true] at w3
            obtain ⟨w3a, w3b⟩ := w3
            split at w3b
            · rename_i cl cld D csl ek
              have hD := eq_of_beq w3b
              have hn := eq_of_beq w3a
              dsimp only at w6
              split at w6
              · rename_i ccl cdd vs ccs ev
                split at w6
                · rename_i file tf e2
                  subst g1 g2 g3 g4 g5 g6 g7 hD hn
                  refine ⟨_, ⟨oexB_ok h1, eqO_ok h2, of_decide_eq_true h3, eqO_ok h4, of_decide_eq_true h5, of_decide_eq_true h6, eqO_ok h7, eqO_ok h8, by simpa using h9, ⟨l.qual, l.x, defArgs l.st, defScope l.st, n9, n10, n11, n12, cda, n14, cc, oc, od, osl, q1, q2, q3, q4, q5, q6, r1, r2, r3, r4, by rw [← eb], q, w5, NdefX.nscope_by t2, isGlbK_ok t3, ?_, by simpa using t7, by simpa using t8, ⟨_, _, _, ek⟩, ⟨_, _, _, _, _, _, ev, e2, w6⟩, hl, by simp, fun us hu => ?_⟩⟩⟩
                  · have hpo : (defArgs l.st).posonlyargs = [] := by
                      unfold plainP at t4
                      simp only [Bool.and_eq_true, List.isEmpty_iff] at t4
                      exact t4.1.1.1
                    rw [hpo, List.nil_append, ← List.head?_map, eps]
                    rfl
                  · obtain ⟨kk, b1, b2⟩ := bind_some (x := "__init__") (qual := l.qual) (body := defBody l.st) (scope := defScope l.st) (dV := .none) (kV := n9) (doc := n10) (pm := n11) (an := n12) (cdv := .ref cda) (ct := n14) (us := us) (its := []) (o := none) t4 eps (ndS_ok t6) (by rw [hu]; exact Nat.le_refl 2) (Nat.zero_le _) (by rw [hu]; exact Nat.le_refl 2) rfl
                    have b0 : seqItems? Value.none = pure none := rfl
                    rw [b0, pure_bind, b2, List.drop_nil, List.append_nil] at b1
                    exact b1
                · cases w6
              · cases w6
            · cases w3b
          · cases w3
        | _ => cases w4
      | _ => cases w6
    | _ => cases h10
end PM

end
section
set_option Elab.async false
set_option linter.all false
set_option maxRecDepth 100000
set_option maxHeartbeats 4000000
namespace PM
open PySem PySem.Spec PyProof.Rows L2 N1
open Evl (Ex)
open He (ga ma eqO eqO_ok ba dflB dflB_ok frG frG_in asD)
def exB (K : PySem.W.Frag) (C : Addr) : Bool := PySem.W.excIn K C [.type "ValueError", .type "Exception", .type "BaseException", .type "object"] "ValueError.__new__" && decide (PySem.W.subIn K (.ref C) (.type "BaseException") = some true) && eqV (PySem.W.typeIn K (.ref C)) (some (.type "type")) && decide (PySem.W.mroIn K C (.ref C) = some true)
def excB (K : PySem.W.Frag) (D : Addr) : Bool := eqO (PySem.W.findIn K (.ref D) "__getattribute__") (some (some (.builtin "BaseException.__getattribute__"))) && eqO (PySem.W.findIn K (.ref D) "__getattr__") (some none) && decide (PySem.W.subIn K (.ref D) (.type "BaseException") = some true) && PySem.W.hasDictIn K D &&
  eqO (PySem.W.findIn K (.ref D) "__class__") (some (some (.builtin "object.__class__"))) && eqO (PySem.W.specialIn K (.builtin "object.__class__") "__get__") (some (some (.builtin "getset_descriptor.__get__"))) && decide (PySem.W.takesIn K (.builtin "object.__class__") = some true) && decide (PySem.W.mroIn K D (.type "object") = some true)
def isLstO (o : Obj) : Bool := match o.cls with | .type n => n == "list" | _ => false
def noL (K : PySem.W.Frag) : Bool := K.all fun p => !isLstO p.2
def ModT.chk (T : ModT) (P : Program) (K : PySem.W.Frag) : Bool := noL K && (T.cons.all fun p => conB K p.1 p.2) && (T.fns.all fun p => gloB K p.1 && p.2.txt && fnB K (ga K p.1) p.2.qual p.2.dvs) && (T.cls.all fun p => gloB K p.1 && p.2.ok K (ga K p.1)) &&
  (T.exc.all fun p => gloB K p.1 && excB K (ga K p.1) && (match p.2 with | none => exB K (ga K p.1) | some l => l.ok P K (ga K p.1))) &&
  (T.exm.all fun p => gloB K p.1.1 && gloB K p.1.2 && decide (PySem.W.exmOne K (.ref (ga K p.1.1)) (.ref (ga K p.1.2)) = some p.2)) &&
  (T.isO.all fun p => gloB K p.1.1 && gloB K p.1.2 && decide (PySem.W.kitOne K (.ref (ga K p.1.1)) (.ref (ga K p.1.2)) = some p.2)) &&
  (T.isT.all fun p => gloB K p.1.1 && decide (PySem.W.kitOne K (.ref (ga K p.1.1)) (.type p.1.2) = some p.2)) &&
  (T.isN.all fun p => gloB K p.1.2 && decide (PySem.W.kitOne K (.type p.1.1) (.ref (ga K p.1.2)) = some p.2)) && (T.free.all fun x => freeB K x)
abbrev ClO : Type := List FnO × List FnO × Option FnO
abbrev AlM : Type := Bool × List FnO × List ClO × List (Option FnO)
def ModT.obs (T : ModT) (P : Program) (K : PySem.W.Frag) : AlM := (T.chk P K, T.fns.map fun p => fnO K (ga K p.1), T.cls.map fun p => (p.2.meths.map fun q => fnO K (ma K (ga K p.1) q.1), p.2.props.map fun q => fnO K (prAd K (ma K (ga K p.1) q.1)), p.2.init.map fun _ => fnO K (ma K (ga K p.1) "__init__")), T.exc.map fun p => p.2.map fun _ => fnO K (ma K (ga K p.1) "__init__"))
def ModT.val (T : ModT) : AlM := (true, T.fns.map fun p => p.2.val, T.cls.map fun p => (p.2.meths.map fun q => q.2.val, p.2.props.map fun q => q.2.val, p.2.init.map FnT.val), T.exc.map fun p => p.2.map LowT.val)
def ModT.asM (g : Addr → Option Obj) (n : Nat) : List Addr := (cStatics :: asD g n).filter fun a => match g a with | some o => !isLstO o | none => false
def ModT.obsG (T : ModT) (P : Program) (n : Nat) (g : Addr → Option Obj) : AlM := T.obs P (frG g (ModT.asM g n))
def ModT.hook (T : ModT) (P : Program) (n : Nat) : PySem.W.Hook where
  α := AlM
  obs := fun s => T.obsG P n s.heap.get?
  val := fun _ => T.val
  says := fun _ h => ∃ K : PySem.W.Frag, K.In h ∧ T.obs P K = T.val
  of := fun _ _ e => ⟨_, frG_in, e⟩
  keeps := fun _ _ _ ⟨K, hK, c⟩ k => ⟨K, PySem.W.Frag.In.keeps hK k, c⟩
theorem ModT.ob_eq {T : ModT} {P : Program} {n : Nat} {g : Addr → Option Obj} {s : Shared} (h : ∀ a, g a = s.heap.get? a) : T.obsG P n g = (T.hook P n).obs s := by
  have e : g = s.heap.get? := funext h
  subst e
  rfl
theorem map_at {α β : Type} {f g : α → β} {l : List α} (h : l.map f = l.map g) : ∀ a ∈ l, f a = g a := by
  induction l with
  | nil => intro a z; cases z
  | cons b l ih =>
    intro a z
    rw [List.map_cons, List.map_cons] at h
    obtain ⟨h1, h2⟩ := List.cons.inj h
    rcases List.mem_cons.mp z with rfl | z
    · exact h1
    · exact ih h2 a z
section
variable {P : Program} {w : World} {K : PySem.W.Frag} {mg : Str → Option Value} {base h : Heap} {T : ModT}
theorem glo_at (X : K.In h) (G : h.Ns mainGlobals mg) {x : Str} (c : gloB K x = true) : mg x = some (.ref (ga K x)) := PySem.W.mg_of X G (eqO_ok c)
theorem look_map {α β γ : Type} [BEq α] {l : List (α × β)} {f : β → γ} {a : α} {c : γ} (e : (look l a).map f = some c) : ∃ b, look l a = some b ∧ f b = c := by
  cases q : look l a with
  | none => rw [q] at e; cases e
  | some b => rw [q] at e; exact ⟨b, rfl, Option.some.inj e⟩
theorem mod_ok (X : K.In h) (G : h.Ns mainGlobals mg) (S : T.obs P K = T.val) (fuel : Nat) : ∀ j : Nat, MoOk P w K mg base (3 * j + 1) (T.mo fuel j) := by
  have c0 : T.chk P K = true := congrArg (fun z : AlM => z.1) S
  have v1 := map_at (congrArg (fun z : AlM => z.2.1) S)
  have v2 := map_at (congrArg (fun z : AlM => z.2.2.1) S)
  have v3 := map_at (congrArg (fun z : AlM => z.2.2.2) S)
  unfold ModT.chk at c0
  simp only [Bool.and_eq_true, List.all_eq_true] at c0
  obtain ⟨⟨⟨⟨⟨⟨⟨⟨⟨_, c1⟩, c2⟩, c3⟩, c4⟩, c5⟩, c6⟩, c7⟩, c8⟩, c9⟩ := c0
  have con : ∀ x d, look T.cons x = some d → ∃ v u, mg x = some u ∧ RelV v u ∧ ∀ G, Rep K ⟨mg, w⟩ G d v := fun x d e => by
    have z := c1 _ (look_mem e)
    unfold conB at z
    split at z
    · rename_i u q
      obtain ⟨v, r1, r2⟩ := repB_ok (mg := ⟨mg, w⟩) 8 d u z
      exact ⟨v, u, PySem.W.mg_of X G q, r1, r2⟩
    · cases z
  have exc : ∀ c o, (look T.exc c).map (fun o => o.map (·.f)) = some o → ∃ C, mg c = some (.ref C) ∧ (match o with | none => ExC K C | some f => ∃ fI fd, LowC P K C f fI fd) ∧ XfC K C ∧ ExcC K C ∧ (∀ f, o = some f → PySem.W.findIn K (.ref C) f = some none) := fun c o e => by
    obtain ⟨l, e1, e2⟩ := look_map e
    have hm := look_mem e1
    obtain ⟨⟨z1, z2⟩, z3⟩ := c4 _ hm
    unfold excB at z2
    simp only [Bool.and_eq_true, decide_eq_true_eq] at z2
    obtain ⟨⟨⟨⟨⟨⟨⟨y1, y2⟩, y3⟩, y4⟩, y5⟩, y6⟩, y7⟩, y8⟩ := z2
    refine ⟨_, glo_at X G z1, ?_, ⟨eqO_ok y1, eqO_ok y2, y3, y4⟩, ⟨eqO_ok y1, eqO_ok y2, y3, y4, eqO_ok y5, eqO_ok y6, y7, y8⟩, fun f ef => ?_⟩
    · cases l with
      | none =>
        cases e2
        unfold exB eqV at z3
        simp only [Bool.and_eq_true, decide_eq_true_eq] at z3
        obtain ⟨⟨⟨x1, x2⟩, x3⟩, x4⟩ := z3
        exact ⟨x1, x2, x3, x4⟩
      | some l =>
        cases e2
        have e3 := v3 _ hm
        obtain ⟨fd, L⟩ := low_is (P := P) z3 (Option.some.inj e3)
        exact ⟨_, fd, L⟩
    · cases l with
      | none => cases e2; cases ef
      | some l =>
        cases e2
        cases ef
        have e3 := v3 _ hm
        obtain ⟨fd, L⟩ := low_is (P := P) z3 (Option.some.inj e3)
        exact L.nof
  have exm : ∀ c x b C D, look2 T.exm c x = some b → mg c = some (.ref C) → mg x = some (.ref D) → PySem.W.exmOne K (.ref C) (.ref D) = some b := fun c x b C D e g1 g2 => by
    obtain ⟨⟨z1, z2⟩, z3⟩ := c5 _ (look2_mem e)
    have a1 := glo_at X G z1
    have a2 := glo_at X G z2
    rw [g1] at a1
    rw [g2] at a2
    cases a1
    cases a2
    exact of_decide_eq_true z3
  have exmx : ∀ c x b, look2 T.exm c x = some b → ∃ D, mg x = some (.ref D) := fun c x b e => by
    obtain ⟨⟨z1, z2⟩, z3⟩ := c5 _ (look2_mem e)
    exact ⟨_, glo_at X G z2⟩
  have isO : ∀ c x b C D, look2 T.isO c x = some b → mg c = some (.ref C) → mg x = some (.ref D) → PySem.W.kitOne K (.ref C) (.ref D) = some b := fun c x b C D e g1 g2 => by
    obtain ⟨⟨z1, z2⟩, z3⟩ := c6 _ (look2_mem e)
    have a1 := glo_at X G z1
    have a2 := glo_at X G z2
    rw [g1] at a1
    rw [g2] at a2
    cases a1
    cases a2
    exact of_decide_eq_true z3
  have isT : ∀ c n b C, look2 T.isT c n = some b → mg c = some (.ref C) → PySem.W.kitOne K (.ref C) (.type n) = some b := fun c n b C e g1 => by
    obtain ⟨z1, z3⟩ := c7 _ (look2_mem e)
    have a1 := glo_at X G z1
    rw [g1] at a1
    cases a1
    exact of_decide_eq_true z3
  have isN : ∀ n x b D, look2 T.isN n x = some b → mg x = some (.ref D) → PySem.W.kitOne K (.type n) (.ref D) = some b := fun n x b D e g1 => by
    obtain ⟨z1, z3⟩ := c8 _ (look2_mem e)
    have a1 := glo_at X G z1
    rw [g1] at a1
    cases a1
    exact of_decide_eq_true z3
  have free : ∀ x, (T.free.any fun y => y == x) = true → mg x = none ∧ x ≠ "__name__" := fun x e => by
    obtain ⟨y, hy, e1⟩ := List.any_eq_true.mp e
    have : y = x := by simpa using e1
    subst this
    have z := c9 _ hy
    unfold freeB at z
    rw [Bool.and_eq_true] at z
    refine ⟨PySem.W.mg_none_of X G (eqO_ok z.1), fun q => ?_⟩
    rw [q] at z
    have := z.2
    simp at this
  have own : ∀ x, (∃ t, look T.cls x = some t) ∨ (∃ o, look T.exc x = some o) → ∃ D, mg x = some (.ref D) := fun x e => by
    rcases e with ⟨t, e⟩ | ⟨o, e⟩
    · exact ⟨_, glo_at X G (c3 _ (look_mem e)).1⟩
    · exact ⟨_, glo_at X G (c4 _ (look_mem e)).1.1⟩
  have own' : ∀ {γ δ : Type} {f : ClT → γ} {g : Option LowT → δ} (x : Str), (∃ ci, (look T.cls x).map f = some ci) ∨ (∃ o, (look T.exc x).map g = some o) → ∃ D, mg x = some (.ref D) := fun x e => by
    rcases e with ⟨t, e⟩ | ⟨o, e⟩
    · obtain ⟨b, e1, _⟩ := look_map e
      exact own x (.inl ⟨_, e1⟩)
    · obtain ⟨b, e1, _⟩ := look_map e
      exact own x (.inr ⟨_, e1⟩)
  intro j
  induction j with
  | zero =>
    refine ⟨con, fun x n mf e => (nomatch e), fun c ci e => ?_, exc, exm, exmx, isO, isT, isN, fun x e => own' x e, free⟩
    obtain ⟨t, e1, e2⟩ := look_map e
    subst e2
    obtain ⟨z1, z2⟩ := c3 _ (look_mem e1)
    exact ⟨_, cls_ok0 (glo_at X G z1) z2⟩
  | succ j ih =>
    refine ⟨con, fun x n mf e => ?_, fun c ci e => ?_, exc, exm, exmx, isO, isT, isN, fun x e => own' x e, free⟩
    · have e : (look T.fns x).bind (fun g => g.at_ fuel (T.mo fuel j) n) = some mf := e
      cases q : look T.fns x with
      | none => rw [q] at e; cases e
      | some f =>
        rw [q] at e
        have hm := look_mem q
        obtain ⟨⟨z1, z2⟩, z3⟩ := c2 _ hm
        have D := fn_funD (v1 _ hm) z3
        obtain ⟨fd, F⟩ := id D
        have r := fnT_ok z2 D ih (by omega) e
        exact ⟨_, glo_at X G z1, F.kp, r⟩
    · obtain ⟨t, e1, e2⟩ := look_map e
      subst e2
      have hm := look_mem e1
      obtain ⟨z1, z2⟩ := c3 _ hm
      have V := v2 _ hm
      have V1 := map_at (congrArg (fun z : ClO => z.1) V)
      have V2 := map_at (congrArg (fun z : ClO => z.2.1) V)
      have V3 : t.init.map (fun _ => fnO K (ma K (ga K c) "__init__")) = t.init.map FnT.val := congrArg (fun z : ClO => z.2.2) V
      have r := cls_ok (fuel := fuel) (glo_at X G z1) z2 ⟨V1, V2, fun f q => by rw [q] at V3; exact Option.some.inj V3⟩ ih (by omega)
      exact ⟨_, r⟩
end
end PM

end
section
set_option Elab.async false
set_option linter.all false
set_option maxRecDepth 100000
set_option maxHeartbeats 4000000
namespace PM
open PySem PySem.Spec PyProof.Rows L2 N1
open Evl (Ex)
open He (ga ma eqO eqO_ok ba)
def scr (ns : List Int) : AHp := [.rol (ns.map fun i => .d (.int i))]
theorem lookup_mem {α β : Type} [BEq α] [LawfulBEq α] : ∀ {l : List (α × β)} {a : α} {b : β}, l.lookup a = some b → (a, b) ∈ l
  | [], _, _, h => by simp at h
  | (c, d) :: l, a, b, h => by
    rw [List.lookup_cons] at h
    cases e : a == c with
    | true =>
      rw [e] at h
      cases h
      have := eq_of_beq e
      subst this
      exact List.mem_cons_self
    | false =>
      rw [e] at h
      exact List.mem_cons_of_mem _ (lookup_mem h)
theorem rep_ints {K : PySem.W.Frag} {mg : MgX} {G : Hp} {μ : Mu} : ∀ ns : List Int, RepWs K mg G μ (ns.map fun i => .d (.int i)) (ns.map V.int)
  | [] => .nil
  | i :: ns => .cons (w := .d (.int i)) (Rep.int i) (rep_ints ns)
theorem cx_none {P : Program} {w : World} (H : Hp) (s : Shared) (e : Value) (s' : Shared) (c : L2.CX P w [] H s (fun _ _ _ => False) e s') : False := by
  obtain ⟨a, B, H', cls, d, ea, fl, hok, ub, na, os, ag, he⟩ := c
  exact he
def CXA (P : Program) : CXT := fun outer H s E e s' => ∃ w, L2.CX P w outer H s E e s'
theorem cxa_none {P : Program} (H : Hp) (s : Shared) (e : Value) (s' : Shared) (c : CXA P [] H s (fun _ _ _ => False) e s') : False := by
  obtain ⟨w, c⟩ := c
  exact cx_none H s e s' c
theorem fnOk_cxa {P : Program} {w : World} {K : PySem.W.Frag} {mg : Str → Option Value} {base : Heap} {k : Nat} {f : Addr} {fd : FuncData} {ps : List Str} {sp : Sp} (F : FnOk P w K mg base (CX P w) k f fd ps sp) : FnOk P w K mg base (CXA P) k f fd ps sp :=
  ⟨F.len, fun A outer s H args us vs Q E hr e0 hb hv hs => codeAny_mono (F.run A outer s H args us vs Q E hr e0 hb hv hs) fun r s' q => by
    cases r with
    | ok fl => cases fl <;> exact q
    | error e => exact ⟨w, q⟩⟩
theorem end_ok {P : Program} {T : ModT} {n fuel j : Nat} {f : FnT} {x lw : Str} {w : World} {K : PySem.W.Frag} {mg : Str → Option Value} {fa : Addr} {h : Heap} (X : K.In h) (G : h.Ns mainGlobals mg) (S : T.obs P K = T.val) (hf : look T.fns lw = some f) (hx : f.ps' = [x]) (hva : f.va = []) (hdf : f.dfl = []) (hmg : mg lw = some (.ref fa))
    (pl : ∀ ns : List Int, ns.length ≤ n → ∃ h', f.run fuel (T.mo fuel j) [.ref 0] (scr ns) = some (.ok (.d (.bl true)), h')) :
    ∃ (K : PySem.W.Frag) (fd : FuncData) (sp : Sp), K.In h ∧ (∀ (s : Shared) (u : Value), BindsTo s fd ⟨[u], []⟩ [(x, u)]) ∧
      (∀ (H : Hp) (a : Addr) (ns : List Int), ns.length ≤ n → Only H → SqL K H a (ns.map V.int) → sp [.ref a] H (fun v _ => v = .bl true) fun _ _ _ => False) ∧
      ∀ base : Heap, K.In base → base.Ns mainGlobals mg → FnOk P w K mg base (CXA P) (3 * j + 1 + 3) fa fd [x] sp := by
  have c0 : T.chk P K = true := congrArg (fun z : AlM => z.1) S
  have v1 := map_at (congrArg (fun z : AlM => z.2.1) S)
  unfold ModT.chk at c0
  simp only [Bool.and_eq_true, List.all_eq_true] at c0
  obtain ⟨⟨⟨⟨⟨⟨⟨⟨⟨c00, c1⟩, c2⟩, c3⟩, c4⟩, c5⟩, c6⟩, c7⟩, c8⟩, c9⟩ := c0
  have hm := look_mem hf
  obtain ⟨⟨z1, z2⟩, z3⟩ := c2 _ hm
  have a1 := glo_at X G z1
  rw [hmg] at a1
  have ea : fa = ga K lw := by cases a1; rfl
  subst ea
  obtain ⟨fd, F⟩ := fn_funD (v1 _ hm) z3
  have Sc := f.scope z2
  have ht' := z2
  unfold FnT.txt at ht'
  simp only [Bool.and_eq_true] at ht'
  obtain ⟨⟨⟨⟨⟨⟨⟨⟨⟨⟨⟨⟨_, _⟩, _⟩, _⟩, _⟩, _⟩, _⟩, t8⟩, t9⟩, t10⟩, t11⟩, t12⟩, t13⟩ := ht'
  have hps : f.ps = [x] := by unfold FnT.ps' at hx; rw [hva, List.append_nil] at hx; exact hx
  have hpl : plainP (defArgs f.st) = true := by
    unfold plainP
    rw [t8, t9, t10]
    unfold FnT.va at hva
    split at hva
    · cases hva
    · rename_i q; rw [q]; rfl
  rw [hx] at Sc t11
  have e0 : f.dvs = [] := by unfold FnT.dvs; rw [hdf]; rfl
  rw [e0] at F
  refine ⟨K, fd, spM K ⟨mg, w⟩ 1 (f.run fuel (T.mo fuel j)), X, ?_, ?_, ?_⟩
  · have b := FunD.bindsA (ps := [x]) F fun kV doc pm an cdv ct us hl => by
      obtain ⟨kk, e1, e2⟩ := bind_some (x := f.nm) (qual := f.qual) (body := defBody f.st) (scope := defScope f.st) (dV := .none) (kV := kV) (doc := doc) (pm := pm) (an := an) (cdv := cdv) (ct := ct) (us := us) (its := []) (o := none) hpl hps (ndS_ok t11) (by rw [hl]; exact Nat.le_refl _) (Nat.zero_le _) (by rw [hl]; exact Nat.le_refl _) rfl
      have b0 : seqItems? Value.none = pure none := rfl
      rw [b0, pure_bind, e2, List.drop_nil, List.append_nil] at e1
      exact e1
    exact fun s u => b s [u] rfl
  · intro H a ns hl _ hS
    obtain ⟨h', er⟩ := pl ns hl
    have hH : ∃ o, H a = some o := by
      rcases hS with (hS | ⟨o, hS⟩) | ⟨o, its, m, q, c, _⟩
      · exact ⟨_, hS⟩
      · exact ⟨_, hS⟩
      · have z := List.all_eq_true.mp c00 _ (lookup_mem q)
        have z : (!isLstO o) = true := z
        unfold isLstO at z
        rw [c] at z
        exact absurd z (by decide)
    refine ⟨rfl, fun _ => none, [(a, a)], [.ref 0], scr ns, .cons (w := .ref 0) ⟨(a, a), rfl, rfl⟩ .nil, ⟨fun p u z => (nomatch z), rfl, fun i k q r e1 e2 ne => ?_, fun i o q e1 e2 _ => ⟨rfl, rfl⟩, fun q hq => ?_, fun i o q e1 e2 => ?_⟩, ?_⟩
    · cases i with
      | zero => cases k with
        | zero => exact absurd rfl ne
        | succ k => simp at e2
      | succ i => simp at e1
    · have : q = (a, a) := by simpa using hq
      subst this
      exact ⟨hH, hH⟩
    · cases i with
      | zero =>
        cases e1
        cases e2
        exact ⟨_, hS, rep_ints ns⟩
      | succ i => simp at e1
    · exact ⟨_, h', er, fun G' μ' H' _ _ v rv => by cases rv; rfl⟩
  · intro base KB GB
    have M : MoOk P w K mg base (3 * j + 1) (T.mo fuel j) := mod_ok KB GB S fuel j
    refine fnOk_cxa (F.ok Sc (fun vs H Q E h => h.1) ?_)
    intro cdv A outer s H vs Q E hr h
    obtain ⟨hl, G, μ, ws, hA, rv, rh, kk⟩ := h
    exact ⟨_, evSs_ok (evN_ok fuel) (cx_sx (Γ := f.gam (T.mo fuel j)) Sc rfl rfl rfl M (by omega) hr) (defBody f.st), G, μ, _, hA, startA_rel rv, rh, fn_ret rh kk⟩
end PM

end
section
set_option Elab.async false
set_option linter.all false
namespace PM
open PySem
def oB (mo : Mo) (op : Operator) : W → W → M W := opO mo (PySem.dunder op.info.2) (primB op)
def oC (mo : Mo) (op : CmpOp) : W → W → M W := match op with
  | .In => inO mo false
  | .NotIn => inO mo true
  | op => if isRich op then opO mo (cmpInfo op).2.1 (primC op) else primC op
def oIx (mo : Mo) : W → W → M W := fun x y h => match clsOf h x with
  | some c => (match methOf mo c "__getitem__" 2 with
    | some mf => fIxO c mf x y h
    | _ => none)
  | none => fIxD x y h
end PM
namespace PM
open PySem
def mMthA (mo : Mo) (m : Str) (n : Nat) (mo' : ME) (ma : MA) : ME := fun σ => mBind (mo' σ) fun w h => match clsOf h w with
  | some c => (match methOf mo c m n with
    | some mf => mBind (ma σ) (fun ws => mLen n mf (w :: ws)) h
    | none => none)
  | none => if (lstOf h w).isSome then (match listM m with
      | some b => mBind (ma σ) (fun ws => b.g w ws) h
      | none => none) else none
def starF (k : Nat) (f : MF) : MF := fun ws h => match tupW (ws.drop k) with
  | some t => f (ws.take k ++ [t]) h
  | none => none
end PM

end
section
set_option Elab.async false
set_option linter.all false
set_option maxRecDepth 100000
set_option maxHeartbeats 1000000
namespace PM
open PySem PySem.Spec PyProof.Rows L2
abbrev EK := Str → List (Str × D) → AHp → Prop
def WP {α : Type} (x : Option (R α × AHp)) (Q : α → AHp → Prop) (E : EK) : Prop := ∃ r h', x = some (r, h') ∧ (match r with | .ok a => Q a h' | .exc c fs => E c fs h')
def WS (x : Option (RS × AHp)) (Q : RS → AHp → Prop) : Prop := ∃ r h', x = some (r, h') ∧ Q r h'
def E0' : EK := fun _ _ _ => False
section
variable {α β : Type} {x : Option (R α × AHp)} {Q Q' : α → AHp → Prop} {E E' : EK} {h h' : AHp} {a : α} {c : Str} {fs : List (Str × D)}
theorem WP.mono (p : WP x Q E) (k : ∀ a h, Q a h → Q' a h) (ke : ∀ c fs h, E c fs h → E' c fs h) : WP x Q' E' := by
  obtain ⟨r, h', e, z⟩ := p
  refine ⟨r, h', e, ?_⟩
  cases r with
  | ok a => exact k _ _ z
  | exc c fs => exact ke _ _ _ z
theorem wp_cg (k : ∀ a h, Q a h ↔ Q' a h) : WP x Q E ↔ WP x Q' E := ⟨fun p => p.mono (fun a h => (k a h).mp) fun _ _ _ z => z, fun p => p.mono (fun a h => (k a h).mpr) fun _ _ _ z => z⟩
theorem WP.imp (p : WP x Q E0') (k : ∀ a h, Q a h → Q' a h) : WP x Q' E := p.mono k fun _ _ _ z => z.elim
theorem WP.eq {a : α} {h : AHp} (p : WP x (fun b h' => b = a ∧ h' = h) E0') : x = some (.ok a, h) := by
  obtain ⟨r, h', e, z⟩ := p
  cases r with
  | ok b => obtain ⟨rfl, rfl⟩ := z; exact e
  | exc c fs => exact z.elim
theorem WP.eqx (p : WP x (fun _ _ => False) (fun c' fs' h' => c' = c ∧ fs' = fs ∧ h' = h)) : x = some (.exc c fs, h) := by
  obtain ⟨r, h', e, z⟩ := p
  cases r with
  | ok b => exact z.elim
  | exc c fs => obtain ⟨rfl, rfl, rfl⟩ := z; exact e
theorem WS.imp {x : Option (RS × AHp)} {Q Q' : RS → AHp → Prop} (p : WS x Q) (k : ∀ a h, Q a h → Q' a h) : WS x Q' := by
  obtain ⟨r, h', e, z⟩ := p
  exact ⟨r, h', e, k _ _ z⟩
theorem wp_ok : WP (some (.ok a, h)) Q E ↔ Q a h := ⟨fun ⟨_, _, e, z⟩ => by cases e; exact z, fun z => ⟨_, _, rfl, z⟩⟩
theorem wp_exc : WP (some (.exc c fs, h)) Q E ↔ E c fs h := ⟨fun ⟨_, _, e, z⟩ => by cases e; exact z, fun z => ⟨_, _, rfl, z⟩⟩
theorem wp_none : WP (none : Option (R α × AHp)) Q E ↔ False := ⟨fun ⟨_, _, e, z⟩ => (nomatch e), False.elim⟩
theorem ws_some {r : RS} {Q : RS → AHp → Prop} : WS (some (r, h)) Q ↔ Q r h := ⟨fun ⟨_, _, e, z⟩ => by cases e; exact z, fun z => ⟨_, _, rfl, z⟩⟩
theorem ws_none {Q : RS → AHp → Prop} : WS none Q ↔ False := ⟨fun ⟨_, _, e, z⟩ => (nomatch e), False.elim⟩
theorem wp_pure : WP (mPure a h) Q E ↔ Q a h := wp_ok
theorem wp_of : WP (mOf (some a) h) Q E ↔ Q a h := wp_ok
theorem wp_ofn : WP (mOf (none : Option α) h) Q E ↔ False := wp_none
theorem wp_bind {m : M β} {f : β → M α} : WP (mBind m f h) Q E ↔ WP (m h) (fun b h1 => WP (f b h1) Q E) E := by
  unfold mBind
  cases q : m h with
  | none => simp only [wp_none]
  | some z =>
    obtain ⟨r, h1⟩ := z
    cases r with
    | ok b => simp only [wp_ok]
    | exc c fs => simp only [wp_exc]
theorem wp_noX {m : M α} : WP (mNoX m h) Q E ↔ WP (m h) Q E0' := by
  unfold mNoX
  cases q : m h with
  | none => simp only [wp_none]
  | some z =>
    obtain ⟨r, h1⟩ := z
    cases r with
    | ok b => simp only [wp_ok]
    | exc c fs => simp only [wp_exc, wp_none]; rfl
theorem ws_then {m : M α} {σ : Sl} {f : α → MH} {Q : RS → AHp → Prop} : WS (mThen m σ f h) Q ↔ WP (m h) (fun a h1 => WS (f a h1) Q) (fun c fs h1 => Q (.exc σ c fs) h1) := by
  unfold mThen
  cases q : m h with
  | none => simp only [wp_none, ws_none]
  | some z =>
    obtain ⟨r, h1⟩ := z
    cases r with
    | ok b => simp only [wp_ok]
    | exc c fs => simp only [wp_exc, ws_some]
end
def gv (σ : Sl) (i : Nat) : Option W := match σ[i]? with | some (some w) => some w | _ => none
theorem gv0 {w : W} {σ : Sl} : gv (some w :: σ) 0 = some w := rfl
theorem gvS {x : Option W} {σ : Sl} {i : Nat} : gv (x :: σ) (i + 1) = gv σ i := by
  unfold gv
  rw [List.getElem?_cons_succ]
section
variable {α β : Type} {E : EK} {h h' : AHp} {σ : Sl} {Q : W → AHp → Prop} {QA : List W → AHp → Prop} {QB : Bool → AHp → Prop} {me ma mb mc : ME} {mas : MA} {t u : MT} {f g : W → W → M W}
theorem wp_var {i : Nat} : WP (mVar i σ h) Q E ↔ WP (mOf (gv σ i) h) Q E := Iff.rfl
theorem wp_c {d : D} : WP (mC d σ h) Q E ↔ Q (.d d) h := wp_ok
theorem wp_bin : WP (mBin f ma mb σ h) Q E ↔ WP (ma σ h) (fun x h1 => WP (mb σ h1) (fun y h2 => WP (f x y h2) Q E) E) E := by
  unfold mBin
  rw [wp_bind]
  simp only [wp_bind]
theorem wp_un {k : W → M W} : WP (mUn k me σ h) Q E ↔ WP (me σ h) (fun x h1 => WP (k x h1) Q E) E := wp_bind
theorem wp_nil : WP (mNil σ h) QA E ↔ QA [] h := wp_ok
theorem wp_cons : WP (mCons me mas σ h) QA E ↔ WP (me σ h) (fun w h1 => WP (mas σ h1) (fun ws h2 => QA (w :: ws) h2) E) E := by
  unfold mCons
  rw [wp_bind]
  simp only [wp_bind, wp_pure]
theorem wp_star : WP (mStar me mas σ h) QA E ↔ WP (me σ h) (fun w h1 => WP (mOf (seqOf h1 w) h1) (fun ws h2 => WP (mas σ h2) (fun xs h3 => QA (ws ++ xs) h3) E) E) E := by
  unfold mStar
  rw [wp_bind]
  refine wp_cg fun w h1 => ?_
  cases seqOf h1 w with
  | none => simp only [wp_none, wp_ofn]
  | some ws => simp only [wp_bind, wp_of, wp_pure]
theorem wp_cb {k : List W → M W} : WP (mCB k mas σ h) Q E ↔ WP (mas σ h) (fun ws h1 => WP (k ws h1) Q E) E := wp_bind
theorem wp_len {n : Nat} {mf : MF} {ws : List W} (e : ws.length = n) : WP (mLen n mf ws h) Q E ↔ WP (mf ws h) Q E := by
  unfold mLen
  rw [if_pos e]
theorem wp_b : WP (mB me σ h) QB E ↔ WP (me σ h) (fun w h1 => WP (mOf (unB w) h1) QB E) E := wp_bind
theorem wp_notT : WP (mNotT t σ h) QB E ↔ WP (t σ h) (fun b h1 => QB (!b) h1) E := by
  unfold mNotT
  rw [wp_bind]
  simp only [wp_pure]
theorem wp_ite {x y : Option (R α × AHp)} {c : Prop} [Decidable c] {Q : α → AHp → Prop} : WP (if c then x else y) Q E ↔ (if c then WP x Q E else WP y Q E) := by split <;> rfl
theorem wp_ite' {x y : M α} {c : Prop} [Decidable c] {Q : α → AHp → Prop} : WP ((if c then x else y) h) Q E ↔ (if c then WP (x h) Q E else WP (y h) Q E) := by split <;> rfl
theorem wp_andT : WP (mAndT t u σ h) QB E ↔ WP (t σ h) (fun b h1 => if b = true then WP (u σ h1) QB E else QB false h1) E := by
  unfold mAndT
  rw [wp_bind]
  simp only [wp_ite', wp_pure]
theorem wp_orT : WP (mOrT t u σ h) QB E ↔ WP (t σ h) (fun b h1 => if b = true then QB true h1 else WP (u σ h1) QB E) E := by
  unfold mOrT
  rw [wp_bind]
  simp only [wp_ite', wp_pure]
theorem wp_yes : WP (mYes σ h) QB E ↔ QB true h := wp_ok
theorem wp_andV : WP (mAndV ma mb σ h) Q E ↔ WP (ma σ h) (fun w h1 => WP (mOf (unB w) h1) (fun b h2 => if b = true then WP (mb σ h2) Q E else Q (.d (.bl false)) h2) E) E := by
  unfold mAndV
  rw [wp_bind, wp_bind]
  simp only [wp_ite', wp_pure]
theorem wp_orV : WP (mOrV ma mb σ h) Q E ↔ WP (ma σ h) (fun w h1 => WP (mOf (unB w) h1) (fun b h2 => if b = true then Q (.d (.bl true)) h2 else WP (mb σ h2) Q E) E) E := by
  unfold mOrV
  rw [wp_bind, wp_bind]
  simp only [wp_ite', wp_pure]
theorem wp_notV : WP (mNotV ma σ h) Q E ↔ WP (ma σ h) (fun w h1 => WP (mOf (unB w) h1) (fun b h2 => Q (.d (.bl (!b))) h2) E) E := by
  unfold mNotV
  rw [wp_bind, wp_bind]
  simp only [wp_pure]
theorem wp_if : WP (mIf t ma mb σ h) Q E ↔ WP (t σ h) (fun b h1 => if b = true then WP (ma σ h1) Q E else WP (mb σ h1) Q E) E := by
  unfold mIf
  rw [wp_bind]
  simp only [wp_ite']
theorem wp_chain : WP (mChain f g ma mb mc σ h) Q E ↔ WP (ma σ h) (fun x h1 => WP (mb σ h1) (fun y h2 => WP (f x y h2) (fun w h3 => WP (mOf (unB w) h3) (fun b h4 => if b = true then WP (mc σ h4) (fun z h5 => WP (g y z h5) Q E) E else Q (.d (.bl false)) h4) E) E) E) E := by
  unfold mChain
  rw [wp_bind]
  simp only [wp_bind, wp_ite', wp_pure]
theorem wp_neg : WP (mNeg ma σ h) Q E ↔ WP (ma σ h) (fun w h1 => WP (mOf (match w with | .d (.int i) => some (.d (.int (-i))) | _ => none) h1) Q E) E := wp_bind
theorem wp_tup : WP (mTup mas σ h) Q E ↔ WP (mas σ h) (fun ws h1 => WP (mOf (match unD ws with | some ds => if ds.length ≤ sizeLine then some (.d (.tup ds)) else none | none => none) h1) Q E) E := wp_bind
theorem wp_lst : WP (mLst mas σ h) Q E ↔ WP (mas σ h) (fun ws h1 => WP (mOf (match unD ws with | some ds => if ds.length ≤ sizeLine then some (.d (.lst ds)) else none | none => none) h1) Q E) E := wp_bind
theorem wp_lstR : WP (mLstR mas σ h) Q E ↔ WP (mas σ h) (fun ws h1 => ws.length ≤ sizeLine ∧ Q (.ref h1.length) (h1 ++ [.lst ws])) E := by
  unfold mLstR
  rw [wp_bind]
  have : ∀ (ws : List W) (h1 : AHp), WP (if ws.length ≤ sizeLine then some (.ok (.ref h1.length), h1 ++ [.lst ws]) else none) Q E ↔ (ws.length ≤ sizeLine ∧ Q (.ref h1.length) (h1 ++ [.lst ws])) := fun ws h1 => by
    split
    · rename_i c; simp only [wp_ok, c, true_and]
    · rename_i c; simp only [wp_none, c, false_and]
  simp only [this]
theorem wp_slice {ml mu : MO} : WP (mSlice me ml mu σ h) Q E ↔ WP (me σ h) (fun x h1 => WP (ml σ h1) (fun lo h2 => WP (mu σ h2) (fun hi h3 => WP (fSl x lo hi h3) Q E) E) E) E := by
  unfold mSlice
  rw [wp_bind]
  simp only [wp_bind]
theorem wp_noPart {QO : Option Int → AHp → Prop} : WP (mNoPart σ h) QO E ↔ QO none h := wp_ok
theorem wp_part {QO : Option Int → AHp → Prop} : WP (mPart me σ h) QO E ↔ WP (me σ h) (fun w h1 => WP (mOf (match w with | .d (.int i) => some (some i) | _ => none) h1) QO E) E := wp_bind
theorem wp_comp {mi : MI} {tg : MG} {te : ME} {vs : List Nat} : WP (mComp mi tg t te vs σ h) Q E ↔ WP (mi σ h) (fun ws h1 => WP (mComp1 tg t te (wipeA σ vs) ws [] h1) Q E) E := wp_bind
theorem wp_lenSc {mi : MI} {tg : MG} {te : ME} {vs : List Nat} : WP (mLenSc mi tg t te vs σ h) Q E ↔ WP (mi σ h) (fun ws h1 => WP (mSc1 tg t te (wipeA σ vs) ws [] h1) Q E) E := wp_bind
theorem wp_frzQ : WP (mFrzQ me σ h) Q E ↔ WP (me σ h) (fun w h1 => WP (match frzL h1 w with | some (d, h') => some (.ok (.d d), h') | none => some (.ok w, h1)) Q E) E := wp_bind
theorem wp_items : WP (mItems me σ h) QA E ↔ WP (me σ h) (fun w h1 => WP (mOf (itemsOf w) h1) QA E) E := wp_bind
theorem wp_enum : WP (mEnum me σ h) QA E ↔ WP (me σ h) (fun w h1 => WP (mOf ((seqD w).map enumW) h1) QA E) E := wp_bind
theorem wp_rng1 : WP (mRng1 mas σ h) QA E ↔ WP (mas σ h) (fun ws h1 => WP (mOf (match ws with | [.d (.int j)] => if -(2 ^ 62) ≤ j ∧ j < 2 ^ 62 then some (rngW 0 j.toNat) else none | _ => none) h1) QA E) E := wp_bind
theorem wp_rng3 : WP (mRng3 mas σ h) QA E ↔ WP (mas σ h) (fun ws h1 => WP (mOf (match ws with | [.d (.int i), .d (.int j), .d (.int c)] => (match rgc i j c with | some n => some (rngC i c n) | none => none) | _ => none) h1) QA E) E := wp_bind
theorem wp_lstRg1 : WP (mLstRg1 me σ h) Q E ↔ WP (me σ h) (fun w h1 => WP (mOf (match w with | .d (.int n) => if rgOk 0 n then some (.d (.lst (rgD 0 n))) else none | _ => none) h1) Q E) E := wp_bind
theorem wp_make {c : Str} {n : Nat} {mf : MF} : WP (mMake c n mf mas σ h) Q E ↔ WP (mas σ h) (fun ws h1 => WP (if ws.length + 1 = n then mkEnd c h1.length (mf (.ref h1.length :: ws) (h1 ++ [.inst c []])) else none) Q E) E := wp_bind
end
def seqK (n : MS) (Q : RS → AHp → Prop) : RS → AHp → Prop := fun r h => match r with | .nx σ => WS (n σ h) Q | r => Q r h
def loopK (tg : MG) (body : MS) (ws : List W) (Q : RS → AHp → Prop) : RS → AHp → Prop := fun r h => match r with
  | .nx σ => WS (mLoop tg body ws σ h) Q
  | .ct σ => WS (mLoop tg body ws σ h) Q
  | .bk σ => Q (.nx σ) h
  | r => Q r h
def fnK (n : Nat) (Q : W → AHp → Prop) (E : EK) : RS → AHp → Prop := fun r h => match r with
  | .rt w => WP (cutR n (.ok w) h) Q E
  | .nx _ => WP (cutR n (.ok (.d .non)) h) Q E
  | .exc _ c fs => WP (cutR n (.exc c fs) h) Q E
  | _ => False
section
variable {Q : RS → AHp → Prop} {E : EK} {QW : W → AHp → Prop} {h : AHp} {σ : Sl} {m n : MS} {me : ME} {mas : MA} {t : MT} {w : W} {c : Str} {fs : List (Str × D)} {tg : MG} {ws : List W} {k : Nat}
theorem seqK_nx : seqK n Q (.nx σ) h ↔ WS (n σ h) Q := Iff.rfl
theorem seqK_rt : seqK n Q (.rt w) h ↔ Q (.rt w) h := Iff.rfl
theorem seqK_exc : seqK n Q (.exc σ c fs) h ↔ Q (.exc σ c fs) h := Iff.rfl
theorem seqK_bk : seqK n Q (.bk σ) h ↔ Q (.bk σ) h := Iff.rfl
theorem seqK_ct : seqK n Q (.ct σ) h ↔ Q (.ct σ) h := Iff.rfl
theorem loopK_nx : loopK tg m ws Q (.nx σ) h ↔ WS (mLoop tg m ws σ h) Q := Iff.rfl
theorem loopK_ct : loopK tg m ws Q (.ct σ) h ↔ WS (mLoop tg m ws σ h) Q := Iff.rfl
theorem loopK_bk : loopK tg m ws Q (.bk σ) h ↔ Q (.nx σ) h := Iff.rfl
theorem loopK_rt : loopK tg m ws Q (.rt w) h ↔ Q (.rt w) h := Iff.rfl
theorem loopK_exc : loopK tg m ws Q (.exc σ c fs) h ↔ Q (.exc σ c fs) h := Iff.rfl
theorem fnK_rt : fnK k QW E (.rt w) h ↔ WP (cutR k (.ok w) h) QW E := Iff.rfl
theorem fnK_nx : fnK k QW E (.nx σ) h ↔ WP (cutR k (.ok (.d .non)) h) QW E := Iff.rfl
theorem fnK_exc : fnK k QW E (.exc σ c fs) h ↔ WP (cutR k (.exc c fs) h) QW E := Iff.rfl
theorem ws_seq : WS (mSeq m n σ h) Q ↔ WS (m σ h) (seqK n Q) := by
  unfold mSeq
  cases q : m σ h with
  | none => simp only [ws_none]
  | some z =>
    obtain ⟨r, h1⟩ := z
    cases r <;> simp only [ws_some, seqK]
theorem ws_skip : WS (mSkip σ h) Q ↔ Q (.nx σ) h := ws_some
theorem ws_brk : WS (mBrk σ h) Q ↔ Q (.bk σ) h := ws_some
theorem ws_cnt : WS (mCnt σ h) Q ↔ Q (.ct σ) h := ws_some
theorem ws_ret : WS (mRet me σ h) Q ↔ WP (me σ h) (fun w h1 => Q (.rt w) h1) (fun c fs h1 => Q (.exc σ c fs) h1) := by
  unfold mRet
  rw [ws_then]
  simp only [ws_some]
theorem ws_expr : WS (mExpr me σ h) Q ↔ WP (me σ h) (fun w h1 => Q (.nx σ) h1) (fun c fs h1 => Q (.exc σ c fs) h1) := by
  unfold mExpr
  rw [ws_then]
  simp only [ws_skip]
theorem ws_ite {x y : MH} {c : Prop} [Decidable c] : WS ((if c then x else y) h) Q ↔ (if c then WS (x h) Q else WS (y h) Q) := by split <;> rfl
theorem ws_if : WS (mIfS t m n σ h) Q ↔ WP (t σ h) (fun b h1 => if b = true then WS (m σ h1) Q else WS (n σ h1) Q) (fun c fs h1 => Q (.exc σ c fs) h1) := by
  unfold mIfS
  rw [ws_then]
  simp only [ws_ite]
def asgK (o : Option Sl) (Q : RS → AHp → Prop) (h : AHp) : Prop := match o with | some σ => Q (.nx σ) h | none => False
theorem asgK_some : asgK (some σ) Q h ↔ Q (.nx σ) h := Iff.rfl
theorem ws_asg : WS (mAsg me tg σ h) Q ↔ WP (me σ h) (fun w h1 => asgK (tg w σ) Q h1) (fun c fs h1 => Q (.exc σ c fs) h1) := by
  unfold mAsg
  rw [ws_then]
  refine wp_cg fun w h1 => ?_
  cases tg w σ with
  | none => simp only [ws_none]; rfl
  | some σ1 => simp only [ws_some]; rfl
theorem ws_par {is : List Nat} : WS (mPar is mas σ h) Q ↔ WP (mas σ h) (fun ws h1 => ws.length = is.length ∧ Q (.nx (setAll σ is ws)) h1) (fun c fs h1 => Q (.exc σ c fs) h1) := by
  unfold mPar
  rw [ws_then]
  have : ∀ (ws : List W) h1, WS (if ws.length = is.length then some (.nx (setAll σ is ws), h1) else none) Q ↔ ws.length = is.length ∧ Q (.nx (setAll σ is ws)) h1 := fun w h1 => by
    split
    · rename_i c; simp only [ws_some, c, true_and]
    · rename_i c; simp only [ws_none, c, false_and]
  simp only [this]
theorem ws_for {mi : MI} : WS (mFor mi tg m σ h) Q ↔ WP (mi σ h) (fun ws h1 => WS (mLoop tg m ws σ h1) Q) (fun c fs h1 => Q (.exc σ c fs) h1) := ws_then
def nextK (o : Option Sl) (m : MS) (h : AHp) (Q : RS → AHp → Prop) : Prop := match o with | some σ => WS (m σ h) Q | none => False
theorem nextK_some : nextK (some σ) m h Q ↔ WS (m σ h) Q := Iff.rfl
theorem ws_loop0 : WS (mLoop tg m [] σ h) Q ↔ Q (.nx σ) h := ws_some
theorem ws_loopS : WS (mLoop tg m (w :: ws) σ h) Q ↔ nextK (tg w σ) m h (loopK tg m ws Q) := by
  conv => lhs; unfold mLoop
  cases tg w σ with
  | none => simp only [ws_none]; rfl
  | some σ1 =>
    show _ ↔ WS (m σ1 h) _
    dsimp only
    cases q : m σ1 h with
    | none => simp only [ws_none]
    | some z =>
      obtain ⟨r, h1⟩ := z
      cases r <;> simp only [ws_some, loopK]
theorem ws_put {mo mi : ME} : WS (mPut me mo mi σ h) Q ↔ WP (me σ h) (fun w h1 => WP (mo σ h1) (fun x h2 => WP (mi σ h2) (fun y h3 => WS (match x, y with
  | .ref a, .d (.int k) => (match h3[a]? with
    | some (.lst xs) => (match ixN xs.length k with
      | some j => some (.nx σ, h3.set a (.lst (xs.set j w)))
      | none => none)
    | _ => none)
  | _, _ => none) Q) (fun c fs h1 => Q (.exc σ c fs) h1)) (fun c fs h1 => Q (.exc σ c fs) h1)) (fun c fs h1 => Q (.exc σ c fs) h1) := by
  unfold mPut
  rw [ws_then, wp_bind]
  simp only [wp_bind, wp_pure]
  all_goals exact Iff.rfl
theorem ws_raise : WS (mRaise c σ h) Q ↔ Q (.exc σ c []) h := ws_some
theorem ws_raiseL {f : Str} : WS (mRaiseL c f me σ h) Q ↔ WP (me σ h) (fun w h1 => match w with | .d d => Q (.exc σ c [(f, d)]) h1 | _ => False) (fun c fs h1 => Q (.exc σ c fs) h1) := by
  unfold mRaiseL
  rw [ws_then]
  refine wp_cg fun w h1 => ?_
  cases w with
  | d d => exact ws_some
  | ref a => exact ws_none
  | exn c fs => exact ws_none
def tryK (ex : Str → Option Bool) (i : Option Nat) (ms : MS) (Q : RS → AHp → Prop) : RS → AHp → Prop := fun r h => match r with
  | .exc σ1 c fs => (match ex c with
    | some true => WS (mSuite i (ms (setO σ1 i (some (.exn c fs))) h)) Q
    | some false => Q (.exc σ1 c fs) h
    | none => False)
  | r => Q r h
theorem ws_try {ex : Str → Option Bool} {i : Option Nat} : WS (mTry ex i m n σ h) Q ↔ WS (m σ h) (tryK ex i n Q) := by
  unfold mTry
  cases q : m σ h with
  | none => simp only [ws_none]
  | some z =>
    obtain ⟨r, h1⟩ := z
    cases r with
    | exc σ1 c fs =>
      simp only [ws_some, tryK]
      cases ex c with
      | none => simp only [ws_none]
      | some b => cases b <;> simp only [ws_some]
    | _ => simp only [ws_some, tryK]
def suiteK (i : Option Nat) (Q : RS → AHp → Prop) : RS → AHp → Prop := fun r h => WS (mSuite i (some (r, h))) Q
theorem ws_suite {i : Option Nat} {x : Option (RS × AHp)} : WS (mSuite i x) Q ↔ WS x (suiteK i Q) := by
  cases x with
  | none => simp only [mSuite, ws_none]
  | some z => obtain ⟨r, h1⟩ := z; simp only [ws_some, suiteK]
theorem wp_fn {N : Nat} : WP (mFn N m ws h) QW E ↔ WS (m (startA N ws) h) (fnK h.length QW E) := by
  unfold mFn
  cases q : m (startA N ws) h with
  | none => simp only [wp_none, ws_none]
  | some z =>
    obtain ⟨r, h1⟩ := z
    cases r <;> simp only [ws_some, fnK, wp_none]
def whileK (t : MT) (m : MS) (k : Nat) (Q : RS → AHp → Prop) : RS → AHp → Prop := fun r h => match r with
  | .nx σ => WS (mWhile t m k σ h) Q
  | .ct σ => WS (mWhile t m k σ h) Q
  | .bk σ => Q (.nx σ) h
  | r => Q r h
theorem ws_while : WS (mWhile t m (k + 1) σ h) Q ↔ WP (t σ h) (fun b h1 => if b = true then WS (m σ h1) (whileK t m k Q) else Q (.nx σ) h1) (fun c fs h1 => Q (.exc σ c fs) h1) := by
  conv => lhs; unfold mWhile
  rw [ws_then]
  refine wp_cg fun b h1 => ?_
  cases b with
  | false => simp only [ws_some, Bool.false_eq_true, if_false]
  | true =>
    simp only [if_true]
    cases q : m σ h1 with
    | none => simp only [ws_none]
    | some z =>
      obtain ⟨r, h2⟩ := z
      cases r <;> simp only [ws_some, whileK]
end
end PM

end
section
set_option Elab.async false
set_option linter.all false
set_option maxRecDepth 100000
set_option maxHeartbeats 1000000
namespace PM
open PySem PySem.Spec PyProof.Rows L2
structure Cm {α : Type} [DecidableEq α] (n : Nat) (P : α → Prop) (e : α → D) where
  z : α → PyData
  py : ∀ a, py (e a) = some (z a)
  lay : ∀ a, P a → (z a).canLay0 = true
  dep : ∀ a, (z a).depth ≤ n
  eq : ∀ a b, PyData.eqv (z a) (z b) = decide (a = b)
def cmStr : Cm 0 (fun x : Str => PyData.strOk x = true) D.str := ⟨.str, fun _ => rfl, fun _ p => p, fun _ => Nat.le_refl _, fun a b => by show (a == b) = _; by_cases h : a = b <;> simp [h]⟩
def cmInt : Cm 0 (fun _ : Int => True) D.int := ⟨.int, fun _ => rfl, fun _ _ => rfl, fun _ => Nat.le_refl _, fun a b => by show (a == b) = _; by_cases h : a = b <;> simp [h]⟩
def cmBool : Cm 0 (fun _ : Bool => True) D.bl := ⟨.bool, fun _ => rfl, fun _ _ => rfl, fun _ => Nat.le_refl _, fun a b => by show (a == b) = _; by_cases h : a = b <;> simp [h]⟩
section
variable {α β : Type} [DecidableEq α] [DecidableEq β] {n m : Nat} {P : α → Prop} {P' : β → Prop} {e : α → D} {e' : β → D}
def optD (e : α → D) : Option α → D
  | none => .non
  | some a => e a
def isNoneP : PyData → Bool
  | .none => true
  | _ => false
theorem eqv_none {z : PyData} (h : isNoneP z = false) : PyData.eqv .none z = false ∧ PyData.eqv z .none = false := by
  cases z <;> first | (cases h; done) | exact ⟨rfl, rfl⟩
def cmOpt (C : Cm n P e) (hn : ∀ a, isNoneP (C.z a) = false) : Cm n (fun o : Option α => ∀ a, o = some a → P a) (optD e) where
  z := fun o => match o with | none => .none | some a => C.z a
  py := fun o => by cases o with | none => rfl | some a => exact C.py a
  lay := fun o p => by cases o with | none => rfl | some a => exact C.lay a (p a rfl)
  dep := fun o => by cases o with | none => exact Nat.zero_le _ | some a => exact C.dep a
  eq := fun o p => by
    cases o with
    | none => cases p with
      | none => rfl
      | some b => rw [(eqv_none (hn b)).1]; simp
    | some a => cases p with
      | none => rw [(eqv_none (hn a)).2]; simp
      | some b => rw [C.eq a b]; simp
theorem pyL_map (C : Cm n P e) : ∀ l : List α, pyL (l.map e) = some (l.map C.z)
  | [] => rfl
  | a :: l => by
    show (match PM.py (e a), pyL (l.map e) with | some a, some b => some (a :: b) | _, _ => none) = _
    rw [C.py a, pyL_map C l]
    rfl
theorem layAll (C : Cm n P e) : ∀ l : List α, (∀ a ∈ l, P a) → PyData.canLayAll0 (l.map C.z) = true
  | [], _ => rfl
  | a :: l, p => by
    show (PyData.canLay0 (C.z a) && PyData.canLayAll0 (l.map C.z)) = true
    rw [C.lay a (p a List.mem_cons_self), layAll C l fun b hb => p b (List.mem_cons_of_mem _ hb)]
    rfl
theorem depAll (C : Cm n P e) : ∀ l : List α, PyData.depthAll (l.map C.z) ≤ n
  | [] => Nat.zero_le _
  | a :: l => by
    show max (PyData.depth (C.z a)) (PyData.depthAll (l.map C.z)) ≤ n
    exact Nat.max_le.mpr ⟨C.dep a, depAll C l⟩
theorem eqvAll_map (C : Cm n P e) : ∀ l k : List α, PyData.eqvAll (l.map C.z) (k.map C.z) = decide (l = k)
  | [], [] => rfl
  | [], _ :: _ => rfl
  | _ :: _, [] => rfl
  | a :: l, b :: k => by
    show (PyData.eqv (C.z a) (C.z b) && PyData.eqvAll (l.map C.z) (k.map C.z)) = _
    rw [C.eq a b, eqvAll_map C l k]
    by_cases h : a = b <;> by_cases h' : l = k <;> simp [h, h']
def cmTup (C : Cm n P e) : Cm (n + 1) (fun l : List α => ∀ a ∈ l, P a) (fun l => D.tup (l.map e)) where
  z := fun l => .tuple (l.map C.z)
  py := fun l => by show (pyL (l.map e)).map PyData.tuple = _; rw [pyL_map C]; rfl
  lay := fun l p => layAll C l p
  dep := fun l => Nat.succ_le_succ (depAll C l)
  eq := fun l k => eqvAll_map C l k
def cmLst (C : Cm n P e) : Cm (n + 1) (fun l : List α => ∀ a ∈ l, P a) (fun l => D.lst (l.map e)) where
  z := fun l => .list (l.map C.z)
  py := fun l => by show (pyL (l.map e)).map PyData.list = _; rw [pyL_map C]; rfl
  lay := fun l p => layAll C l p
  dep := fun l => Nat.succ_le_succ (depAll C l)
  eq := fun l k => eqvAll_map C l k
def cmPair (C : Cm n P e) (C' : Cm m P' e') : Cm (max n m + 1) (fun p : α × β => P p.1 ∧ P' p.2) (fun p => D.tup [e p.1, e' p.2]) where
  z := fun p => .tuple [C.z p.1, C'.z p.2]
  py := fun p => by
    show (pyL [e p.1, e' p.2]).map PyData.tuple = _
    simp only [pyL, C.py, C'.py]
    rfl
  lay := fun p k => by
    show (PyData.canLay0 (C.z p.1) && (PyData.canLay0 (C'.z p.2) && true)) = true
    rw [C.lay _ k.1, C'.lay _ k.2]
    rfl
  dep := fun p => by
    show max (PyData.depth (C.z p.1)) (max (PyData.depth (C'.z p.2)) 0) + 1 ≤ _
    have := C.dep p.1
    have := C'.dep p.2
    omega
  eq := fun p q => by
    show (PyData.eqv (C.z p.1) (C.z q.1) && (PyData.eqv (C'.z p.2) (C'.z q.2) && true)) = _
    rw [C.eq, C'.eq]
    obtain ⟨a, b⟩ := p
    obtain ⟨c, d⟩ := q
    by_cases h : a = c <;> by_cases h' : b = d <;> simp [h, h']
theorem Cm.shaped (C : Cm n P e) (hn : n ≤ 64) {a : α} (p : P a) : SeqAt.shaped (C.z a) = true := by
  unfold SeqAt.shaped
  rw [C.lay a p]
  simp
  exact Nat.le_trans (C.dep a) hn
theorem Cm.cls (C : Cm n P e) {h : AHp} (a : α) : clsOf h (.d (e a)) = none := by
  have := C.py a
  cases q : e a with
  | obj c fs => rw [q] at this; cases this
  | _ => rfl
variable {M : Mo} {h : AHp}
theorem Cm.fEq (C : Cm n P e) (hn : n ≤ 64) {a b : α} (pa : P a) (pb : P b) (neg : Bool) : fEq neg (.d (e a)) (.d (e b)) h = some (.ok (.d (.bl (if neg then !decide (a = b) else decide (a = b)))), h) := by
  unfold PM.fEq
  show (match PM.py (e a), PM.py (e b) with | some a, some b => _ | _, _ => none) = _
  rw [C.py a, C.py b]
  dsimp only
  rw [C.shaped hn pa, C.shaped hn pb, C.eq]
  rfl
theorem Cm.oEq (C : Cm n P e) (hn : n ≤ 64) {a b : α} (pa : P a) (pb : P b) : oC M .Eq (.d (e a)) (.d (e b)) h = some (.ok (.d (.bl (decide (a = b)))), h) := by
  show opO M _ (primC .Eq) _ _ h = _
  unfold opO
  rw [C.cls a]
  exact C.fEq hn pa pb false
theorem Cm.oNe (C : Cm n P e) (hn : n ≤ 64) {a b : α} (pa : P a) (pb : P b) : oC M .NotEq (.d (e a)) (.d (e b)) h = some (.ok (.d (.bl (!decide (a = b)))), h) := C.fEq hn pa pb true
theorem Cm.inA (C : Cm n P e) (hn : n < 64) {a : α} {l : List α} (pa : P a) (pl : ∀ b ∈ l, P b) (neg : Bool) : fIn neg (.d (e a)) (.d (.lst (l.map e))) h = some (.ok (.d (.bl (if neg then !decide (a ∈ l) else decide (a ∈ l)))), h) := by
  unfold PM.fIn
  show (match PM.py (e a), PM.py (.lst (l.map e)) with | some a, some b => _ | _, _ => none) = _
  rw [C.py a, (cmLst C).py l]
  show mOf ((if SeqAt.shaped (C.z a) && SeqAt.shaped ((cmLst C).z l) then some (D.bl (if neg then !(l.map C.z).any (fun z => PyData.eqv z (C.z a)) else (l.map C.z).any fun z => PyData.eqv z (C.z a))) else none).map W.d) h = _
  rw [C.shaped (by omega) pa, (cmLst C).shaped (by omega) pl]
  have : ((l.map C.z).any fun z => PyData.eqv z (C.z a)) = decide (a ∈ l) := by
    rw [List.any_map]
    have e1 : ((fun z => PyData.eqv z (C.z a)) ∘ C.z) = fun b => decide (b = a) := by funext b; exact C.eq b a
    rw [e1]
    induction l with
    | nil => rfl
    | cons b l ih =>
      rw [List.any_cons, ih fun c hc => pl c (List.mem_cons_of_mem _ hc)]
      by_cases h1 : b = a <;> by_cases h2 : a ∈ l <;> simp [h1, h2, eq_comm]
      intro h3; exact h1 h3.symm
  rw [this]
  rfl
theorem Cm.inT (C : Cm n P e) (hn : n < 64) {a : α} {l : List α} (pa : P a) (pl : ∀ b ∈ l, P b) (neg : Bool) : fIn neg (.d (e a)) (.d (.tup (l.map e))) h = some (.ok (.d (.bl (if neg then !decide (a ∈ l) else decide (a ∈ l)))), h) := by
  have k := C.inA (h := h) hn pa pl neg
  unfold PM.fIn at k ⊢
  have e1 : pyW h (.d (.lst (l.map e))) = some ((cmLst C).z l) := (cmLst C).py l
  have e2 : pyW h (.d (.tup (l.map e))) = some ((cmTup C).z l) := (cmTup C).py l
  have e3 : pyW h (.d (e a)) = some (C.z a) := C.py a
  rw [e1, e3] at k
  rw [e2, e3]
  exact k
end
section
variable {M : Mo} {h : AHp}
theorem oC_eqS {x y : Str} (a : PyData.strOk x = true) (b : PyData.strOk y = true) : oC M .Eq (.d (.str x)) (.d (.str y)) h = some (.ok (.d (.bl (decide (x = y)))), h) := cmStr.oEq (by decide) a b
theorem oC_neS {x y : Str} (a : PyData.strOk x = true) (b : PyData.strOk y = true) : oC M .NotEq (.d (.str x)) (.d (.str y)) h = some (.ok (.d (.bl (!decide (x = y)))), h) := cmStr.oNe (by decide) a b
theorem oC_eqI {x y : Int} : oC M .Eq (.d (.int x)) (.d (.int y)) h = some (.ok (.d (.bl (decide (x = y)))), h) := cmInt.oEq (by decide) trivial trivial
theorem oC_neI {x y : Int} : oC M .NotEq (.d (.int x)) (.d (.int y)) h = some (.ok (.d (.bl (!decide (x = y)))), h) := cmInt.oNe (by decide) trivial trivial
theorem oC_eqB {x y : Bool} : oC M .Eq (.d (.bl x)) (.d (.bl y)) h = some (.ok (.d (.bl (decide (x = y)))), h) := cmBool.oEq (by decide) trivial trivial
theorem oC_neB {x y : Bool} : oC M .NotEq (.d (.bl x)) (.d (.bl y)) h = some (.ok (.d (.bl (!decide (x = y)))), h) := cmBool.oNe (by decide) trivial trivial
theorem oC_lt (i k : Int) : oC M .Lt (.d (.int i)) (.d (.int k)) h = some (.ok (.d (.bl (decide (i < k)))), h) := rfl
theorem oC_le (i k : Int) : oC M .LtE (.d (.int i)) (.d (.int k)) h = some (.ok (.d (.bl (decide (i ≤ k)))), h) := rfl
theorem oC_gt (i k : Int) : oC M .Gt (.d (.int i)) (.d (.int k)) h = some (.ok (.d (.bl (decide (k < i)))), h) := rfl
theorem oC_ge (i k : Int) : oC M .GtE (.d (.int i)) (.d (.int k)) h = some (.ok (.d (.bl (decide (k ≤ i)))), h) := rfl
theorem oC_is (w : W) : oC M .Is w (.d .non) h = some (.ok (.d (.bl (isN w))), h) := rfl
theorem oC_isNot (w : W) : oC M .IsNot w (.d .non) h = some (.ok (.d (.bl (!isN w))), h) := rfl
theorem oC_inO (d : D) (w : W) (hw : clsOf h w = none) (hd : dctOf h w = none := by rfl) : oC M .In (.d d) w h = fIn false (.d d) w h := by
  show inO M false (.d d) w h = _
  unfold inO
  rw [hw]
  show fInD false (.d d) w h = _
  unfold fInD
  rw [hd]
theorem oC_notInO (d : D) (w : W) (hw : clsOf h w = none) (hd : dctOf h w = none := by rfl) : oC M .NotIn (.d d) w h = fIn true (.d d) w h := by
  show inO M true (.d d) w h = _
  unfold inO
  rw [hw]
  show fInD true (.d d) w h = _
  unfold fInD
  rw [hd]
theorem oB_addI (i k : Int) : oB M .Add (.d (.int i)) (.d (.int k)) h = some (.ok (.d (.int (i + k))), h) := rfl
theorem oB_subI (i k : Int) : oB M .Sub (.d (.int i)) (.d (.int k)) h = some (.ok (.d (.int (i - k))), h) := rfl
theorem oB_mulI (i k : Int) (c : (-(2 ^ 64) < i ∧ i < 2 ^ 64) ∨ (-(2 ^ 64) < k ∧ k < 2 ^ 64)) : oB M .Mult (.d (.int i)) (.d (.int k)) h = some (.ok (.d (.int (i * k))), h) := by
  show mOf ((fMulI i k).map W.d) h = _
  unfold fMulI
  rw [if_pos c]
  rfl
theorem oB_modI (i k : Int) (c : 0 < k) : oB M .Mod (.d (.int i)) (.d (.int k)) h = some (.ok (.d (.int (i % k))), h) := by
  show mOf ((fModI i k).map W.d) h = _
  unfold fModI
  rw [if_pos c]
  rfl
theorem oB_divI (i k : Int) (c : 0 < k) (c' : k.natAbs.log2 < 9000) : oB M .FloorDiv (.d (.int i)) (.d (.int k)) h = some (.ok (.d (.int (i / k))), h) := by
  show mOf ((fDivI i k).map W.d) h = _
  unfold fDivI
  rw [if_pos ⟨c, c'⟩]
  rfl
theorem oB_addT (a b : List D) (c : a.length + b.length ≤ sizeLine) : oB M .Add (.d (.tup a)) (.d (.tup b)) h = some (.ok (.d (.tup (a ++ b))), h) := by
  show mOf (if a.length + b.length ≤ sizeLine then some (W.d (.tup (a ++ b))) else none) h = _
  rw [if_pos c]
  rfl
theorem oB_addL (a b : List D) (c : a.length + b.length ≤ sizeLine) : oB M .Add (.d (.lst a)) (.d (.lst b)) h = some (.ok (.d (.lst (a ++ b))), h) := by
  show mOf (if a.length + b.length ≤ sizeLine then some (W.d (.lst (a ++ b))) else none) h = _
  rw [if_pos c]
  rfl
theorem oIx_tup (ds : List D) (i : Int) : oIx M (.d (.tup ds)) (.d (.int i)) h = mOf ((atI ds i).map .d) h := rfl
theorem oIx_lst (ds : List D) (i : Int) : oIx M (.d (.lst ds)) (.d (.int i)) h = mOf (atI (ds.map .d) i) h := rfl
theorem lenA_tup (ds : List D) : lenA M [.d (.tup ds)] h = some (.ok (.d (.int (ds.length : Nat))), h) := rfl
theorem lenA_lst (ds : List D) : lenA M [.d (.lst ds)] h = some (.ok (.d (.int (ds.length : Nat))), h) := by
  show some (R.ok (W.d (.int ((ds.map W.d).length : Nat))), h) = _
  rw [List.length_map]
theorem fInt_int (i : Int) : fInt [.d (.int i)] h = some (.ok (.d (.int i)), h) := rfl
theorem unD_map {α : Type} (f : α → D) : ∀ l : List α, unD (l.map fun a => .d (f a)) = some (l.map f)
  | [] => rfl
  | a :: l => by show (unD (l.map fun a => W.d (f a))).map (f a :: ·) = _; rw [unD_map f l]; rfl
theorem unD_d (ds : List D) : unD (ds.map W.d) = some ds := by
  have := unD_map (fun d : D => d) ds
  rwa [List.map_id'] at this
theorem unD_nil : unD [] = some [] := rfl
theorem unD_cons {x : D} {r : List W} : unD (.d x :: r) = (unD r).map (x :: ·) := rfl
theorem fTuple_lst (ds : List D) : fTuple [.d (.lst ds)] h = some (.ok (.d (.tup ds)), h) := by
  show (match unD (ds.map W.d) with | some ds => mPure (W.d (.tup ds)) h | none => none) = _
  rw [unD_d]
  rfl
theorem unBs_map : ∀ l : List Bool, unBs (l.map fun b => .d (.bl b)) = some l
  | [] => rfl
  | a :: l => by show (unBs (l.map fun b => W.d (.bl b))).map (a :: ·) = _; rw [unBs_map l]; rfl
theorem fBs_map {α : Type} (g : List Bool → Bool) (l : List α) (f : α → Bool) : fBs g [.d (.lst (l.map fun a => D.bl (f a)))] h = some (.ok (.d (.bl (g (l.map f)))), h) := by
  show mOf ((unBs ((l.map fun a => D.bl (f a)).map W.d)).map fun bs => W.d (.bl (g bs))) h = _
  have e : (l.map fun a => D.bl (f a)).map W.d = (l.map f).map fun b => W.d (.bl b) := by simp
  rw [e, unBs_map]
  rfl
theorem lenA_str {x : Str} (c : x.length ≤ sizeLine) : lenA M [.d (.str x)] h = some (.ok (.d (.int (x.length : Nat))), h) := by
  show (if x.length ≤ sizeLine then some (R.ok (W.d (.int (x.length : Nat))), h) else none) = _
  rw [if_pos c]
theorem mgTup_d {t : MGs} {n : Nat} {ds : List D} {σ : Sl} : mgTup t n (.d (.tup ds)) σ = if ds.length = n then t (ds.map .d) σ else none := rfl
theorem mgCons_c {t : MG} {u : MGs} {w : W} {r : List W} {σ : Sl} : mgCons t u (w :: r) σ = (t w σ).bind fun σ1 => u r σ1 := rfl
theorem mgNil_n {σ : Sl} : mgNil [] σ = some σ := rfl
theorem mgName_n {i : Nat} {w : W} {σ : Sl} : mgName i w σ = if i < σ.length then some (σ.set i (some w)) else none := rfl
theorem bind_some' {α β : Type} {a : α} {f : α → Option β} : (some a).bind f = f a := rfl
theorem isN_optS {o : Option Str} : isN (.d (optD .str o)) = o.isNone := by cases o <;> rfl
theorem isN_optI {o : Option Int} : isN (.d (optD .int o)) = o.isNone := by cases o <;> rfl
theorem isN_str {x : Str} : isN (.d (.str x)) = false := rfl
theorem isN_int {x : Int} : isN (.d (.int x)) = false := rfl
theorem isN_tup {x : List D} : isN (.d (.tup x)) = false := rfl
theorem isN_non : isN (.d .non) = true := rfl
theorem unB_bl (b : Bool) : unB (.d (.bl b)) = some b := rfl
end
def Gd (h : AHp) : Prop := h.all (AO.low h.length) = true
section
variable {h h1 t : AHp} {w : W} {Q : W → AHp → Prop} {E : EK} {c : Str} {fs : List (Str × D)} {n : Nat}
theorem wp_cut (hl : h.length = n) (g : Gd h) (lw : w.low n = true) : WP (cutR n (.ok w) h) Q E ↔ Q w h := by
  subst hl
  unfold cutR
  rw [List.take_length]
  unfold Gd at g
  rw [g]
  show WP (if (true && w.low h.length) = true then some (R.ok w, h) else none) Q E ↔ _
  rw [lw]
  exact wp_ok
theorem wp_cutX (hl : h.length = n) (g : Gd h) : WP (cutR n (.exc c fs) h) Q E ↔ E c fs h := by
  subst hl
  unfold cutR
  rw [List.take_length]
  unfold Gd at g
  rw [g]
  exact wp_exc
theorem wp_cutD {d : D} (g : Gd h) : WP (cutR h.length (.ok (.d d)) h) Q E ↔ Q (.d d) h := wp_cut rfl g rfl
theorem wp_cutXD (g : Gd h) : WP (cutR h.length (.exc c fs) h) Q E ↔ E c fs h := wp_cutX rfl g
theorem cut_app (r : R W) (hl : h.length = n) : cutR n r (h ++ t) = cutR n r h := by
  unfold cutR
  rw [List.take_append_of_le_length (by omega)]
theorem low_mono {n m : Nat} (hn : n ≤ m) {w : W} (l : w.low n = true) : w.low m = true := by
  cases w with
  | ref a => exact decide_eq_true (Nat.lt_of_lt_of_le (of_decide_eq_true l) hn)
  | _ => rfl
theorem AO.low_mono {n m : Nat} (hn : n ≤ m) {o : AO} (l : o.low n = true) : o.low m = true := by
  cases o with
  | dead => rfl
  | lst ws => exact List.all_eq_true.mpr fun w hw => PM.low_mono hn (List.all_eq_true.mp l w hw)
  | rol ws => exact List.all_eq_true.mpr fun w hw => PM.low_mono hn (List.all_eq_true.mp l w hw)
  | dct ks ws => exact List.all_eq_true.mpr fun w hw => PM.low_mono hn (List.all_eq_true.mp l w hw)
  | inst c fs =>
    refine List.all_eq_true.mpr fun w hw => ?_
    have := List.all_eq_true.mp l w hw
    cases w with
    | none => rfl
    | some w => exact PM.low_mono hn this
theorem Gd.app (g : Gd h) (gt : ∀ o ∈ t, AO.low (h.length + t.length) o = true) : Gd (h ++ t) := by
  unfold Gd
  rw [List.all_append, List.length_append, Bool.and_eq_true]
  exact ⟨List.all_eq_true.mpr fun o ho => AO.low_mono (Nat.le_add_right _ _) (List.all_eq_true.mp g o ho), List.all_eq_true.mpr gt⟩
theorem Gd.set (g : Gd h) {k : Nat} {o : AO} (lo : AO.low h.length o = true) : Gd (h.set k o) := by
  unfold Gd
  rw [List.length_set]
  refine List.all_eq_true.mpr fun p hp => ?_
  rcases List.mem_or_eq_of_mem_set hp with z | z
  · exact List.all_eq_true.mp g p z
  · subst z; exact lo
end
def stoK (M : Mo) (f : Str) (w x : W) (σ : Sl) (h : AHp) : Option (RS × AHp) := match x with
  | .ref a => (match h[a]? with
    | some (.inst c fs) => (match slotIx M f c with
      | some i => some (.nx σ, h.set a (.inst c (putA i w fs)))
      | none => none)
    | _ => none)
  | _ => none
section
variable {ex : Str → Option Bool} {i : Option Nat} {ms : MS} {Q : RS → AHp → Prop} {σ : Sl} {h : AHp} {w : W} {d : D} {c : Str} {fs : List (Str × D)}
theorem tryK_rt : tryK ex i ms Q (.rt w) h ↔ Q (.rt w) h := Iff.rfl
theorem tryK_nx : tryK ex i ms Q (.nx σ) h ↔ Q (.nx σ) h := Iff.rfl
theorem tryK_exc (e : ex c = some true) : tryK ex i ms Q (.exc σ c fs) h ↔ WS (ms (setO σ i (some (.exn c fs))) h) (suiteK i Q) := by
  unfold tryK
  dsimp only
  rw [e]
  exact ws_suite
theorem suiteK_rtD (cl : h.all AO.cln = true) : suiteK i Q (.rt (.d d)) h ↔ Q (.rt (.d d)) h := by
  show WS (if (true && h.all AO.cln) = true then some (RS.rt (.d d), h) else none) Q ↔ _
  rw [cl]
  exact ws_some
theorem setO_none : setO σ none (some w) = σ := rfl
theorem setO_some {i : Nat} : setO σ (some i) (some w) = σ.set i (some w) := rfl
end
section
variable {α : Type} {h : AHp} {σ : Sl} {tg : MG} {tt : MT} {te : ME}
theorem comp_eq (enc : α → W) (p : α → Bool) (f : α → D) : ∀ (xs : List α) (acc : List D) (_ : ∀ x ∈ xs, ∃ σ1, tg (enc x) σ = some σ1 ∧ WP (tt σ1 h) (fun b h' => b = p x ∧ h' = h) E0' ∧ (p x = true → WP (te σ1 h) (fun w h' => w = .d (f x) ∧ h' = h) E0')) (_ : acc.length + xs.length ≤ sizeLine),
    mComp1 tg tt te σ (xs.map enc) acc h = some (.ok (.d (.lst (acc ++ (xs.filter p).map f))), h)
  | [], acc, _, _ => by
    show some (R.ok (W.d (.lst acc)), h) = _
    rw [List.filter_nil, List.map_nil, List.append_nil]
  | x :: xs, acc, H, hl => by
    obtain ⟨σ1, e1, e2, e3⟩ := H x List.mem_cons_self
    have ih := fun acc => comp_eq enc p f xs acc (fun y hy => H y (List.mem_cons_of_mem _ hy))
    rw [List.length_cons] at hl
    rw [List.map_cons]
    unfold mComp1
    rw [e1]
    dsimp only
    unfold mBind mNoX
    rw [e2.eq]
    dsimp only
    cases q : p x with
    | false =>
      rw [if_neg (by simp), ih acc (by omega), List.filter_cons, q]
      simp
    | true =>
      rw [if_pos rfl, (e3 q).eq]
      dsimp only
      rw [if_pos (by omega), ih (acc ++ [f x]) (by rw [List.length_append, List.length_singleton]; omega), List.filter_cons, q]
      simp
theorem comp_all (enc : α → W) (f : α → D) (xs : List α) (H : ∀ x ∈ xs, ∃ σ1, tg (enc x) σ = some σ1 ∧ WP (te σ1 h) (fun w h' => w = .d (f x) ∧ h' = h) E0') (hl : xs.length ≤ sizeLine) :
    mComp1 tg mYes te σ (xs.map enc) [] h = some (.ok (.d (.lst (xs.map f))), h) := by
  rw [comp_eq enc (fun _ => true) f xs [] (fun x hx => by
    obtain ⟨σ1, e1, e2⟩ := H x hx
    exact ⟨σ1, e1, wp_yes.mpr ⟨rfl, rfl⟩, fun _ => e2⟩) (by simpa using hl)]
  rw [List.filter_eq_self.mpr fun _ _ => rfl]
  rfl
def addK (acc : List Key) (c : Key) : List Key := if memK c acc then acc else acc ++ [c]
theorem sc_eq (enc : α → W) (f : α → Str) : ∀ (xs : List α) (acc : List Key) (_ : ∀ x ∈ xs, ∃ σ1, tg (enc x) σ = some σ1 ∧ WP (te σ1 h) (fun w h' => w = .d (.str (f x)) ∧ h' = h) E0') (_ : acc.length + xs.length < scanBound),
    mSc1 tg mYes te σ (xs.map enc) acc h = some (.ok (.d (.int (((xs.map fun x => Sum.inr (f x)).foldl addK acc).length : Nat))), h)
  | [], acc, _, _ => rfl
  | x :: xs, acc, H, hl => by
    obtain ⟨σ1, e1, e3⟩ := H x List.mem_cons_self
    rw [List.length_cons] at hl
    have ih := fun acc => sc_eq enc f xs acc (fun y hy => H y (List.mem_cons_of_mem _ hy))
    rw [List.map_cons]
    unfold mSc1
    rw [e1]
    dsimp only
    unfold mBind mNoX
    have e2 : mYes σ1 h = some (.ok true, h) := rfl
    rw [e2]
    dsimp only
    rw [if_pos rfl, e3.eq]
    dsimp only [keyW]
    rw [if_pos (by omega), ih _ (by split <;> (try rw [List.length_append, List.length_singleton]) <;> omega)]
    rfl
theorem addK_le (c : Key) (acc : List Key) : (addK acc c).length ≤ acc.length + 1 := by
  unfold addK
  split <;> simp
theorem fold_le : ∀ (cs acc : List Key), (cs.foldl addK acc).length ≤ acc.length + cs.length
  | [], acc => by simp
  | c :: cs, acc => by
    rw [List.foldl_cons, List.length_cons]
    have := fold_le cs (addK acc c)
    have := addK_le c acc
    omega
theorem fold_eq : ∀ (cs acc : List Key), (cs.foldl addK acc).length = acc.length + cs.length ↔ cs.Nodup ∧ ∀ c ∈ cs, c ∉ acc
  | [], acc => by simp
  | c :: cs, acc => by
    rw [List.foldl_cons, List.length_cons, List.nodup_cons]
    have h1 := fold_le cs (addK acc c)
    have h2 := fold_eq cs (addK acc c)
    by_cases hm : c ∈ acc
    · have e : addK acc c = acc := by unfold addK; rw [if_pos (memK_iff.mpr hm)]
      rw [e] at h1 ⊢
      constructor
      · intro; omega
      · intro z; exact absurd hm (z.2 c List.mem_cons_self)
    · have e : addK acc c = acc ++ [c] := by unfold addK; rw [if_neg (fun z => hm (memK_iff.mp z))]
      rw [e] at h1 h2 ⊢
      rw [List.length_append, List.length_singleton] at h1 h2
      have : (cs.foldl addK (acc ++ [c])).length = acc.length + (cs.length + 1) ↔ (cs.foldl addK (acc ++ [c])).length = acc.length + 1 + cs.length := by omega
      rw [this, h2]
      constructor
      · rintro ⟨n, k⟩
        refine ⟨⟨fun z => (k c z) (by simp), n⟩, fun d hd => ?_⟩
        rcases List.mem_cons.mp hd with rfl | hd
        · exact hm
        · exact fun z => k d hd (by simp [z])
      · rintro ⟨⟨n1, n⟩, k⟩
        refine ⟨n, fun d hd => ?_⟩
        rw [List.mem_append, List.mem_singleton]
        rintro (z | rfl)
        · exact k d (List.mem_cons_of_mem _ hd) z
        · exact n1 hd
theorem few_iff (l : List Str) : ((((l.map fun x => (Sum.inr x : Key)).foldl addK []).length : Nat) : Int) < (l.length : Nat) ↔ ¬ l.Nodup := by
  have h1 := fold_le (l.map fun x => (Sum.inr x : Key)) []
  have h2 := fold_eq (l.map fun x => (Sum.inr x : Key)) []
  rw [List.length_map] at h1 h2
  have h3 : (l.map fun x => (Sum.inr x : Key)).Nodup ↔ l.Nodup := by
    unfold List.Nodup
    rw [List.pairwise_map]
    simp
  simp only [List.length_nil, Nat.zero_add, List.not_mem_nil, not_false_eq_true, implies_true, and_true, h3] at h1 h2
  rw [← h2]
  omega
def mthK (M : Mo) (m : Str) (n : Nat) (ma : MA) (σ : Sl) (w : W) (h : AHp) : Option (R W × AHp) := match clsOf h w with
  | some c => (match methOf M c m n with
    | some mf => mBind (ma σ) (fun ws => mLen n mf (w :: ws)) h
    | none => none)
  | none => if (lstOf h w).isSome then (match listM m with
      | some b => mBind (ma σ) (fun ws => b.g w ws) h
      | none => none) else none
theorem wp_mthA {M : Mo} {m : Str} {n : Nat} {mo' : ME} {ma : MA} {Q : W → AHp → Prop} {E : EK} : WP (mMthA M m n mo' ma σ h) Q E ↔ WP (mo' σ h) (fun w h1 => WP (mthK M m n ma σ w h1) Q E) E := wp_bind
theorem mthK_app {M : Mo} {n : Nat} {ma : MA} {a : Nat} {xs : List W} (e : h[a]? = some (.lst xs)) : mthK M "append" n ma σ (.ref a) h = mBind (ma σ) (fun ws => fApp (.ref a) ws) h := by
  have e1 : clsOf h (.ref a) = none := by unfold clsOf; dsimp only; rw [e]
  have e2 : lstOf h (.ref a) = some xs := by unfold lstOf; dsimp only; rw [e]
  unfold mthK
  rw [e1, e2]
  rfl
theorem mthK_cnt {M : Mo} {n : Nat} {ma : MA} {ds : List D} : mthK M "count" n ma σ (.d (.lst ds)) h = mBind (ma σ) (fun ws => fCnt (.d (.lst ds)) ws) h := rfl
theorem fApp_eq {a : Nat} {xs : List W} {x : W} (e : h[a]? = some (.lst xs)) (c : xs.length < sizeLine) : fApp (.ref a) [x] h = some (.ok (.d .non), h.set a (.lst (xs ++ [x]))) := by
  unfold fApp
  dsimp only
  rw [e]
  dsimp only
  rw [if_pos c]
theorem unS_map (f : α → Str) : ∀ l : List α, unS ((l.map fun a => D.str (f a)).map W.d) = some (l.map f)
  | [] => rfl
  | a :: l => by show (unS ((l.map fun a => D.str (f a)).map W.d)).map (f a :: ·) = _; rw [unS_map f l]; rfl
theorem fCnt_eq (f : α → Str) (l : List α) (k : Str) : fCnt (.d (.lst (l.map fun a => D.str (f a)))) [.d (.str k)] h = some (.ok (.d (.int (cntS k (l.map f) : Nat))), h) := by
  unfold fCnt
  show (match unS ((l.map fun a => D.str (f a)).map W.d) with | some ys => some (R.ok (W.d (.int (cntS k ys : Nat))), h) | none => none) = _
  rw [unS_map]
def loopI (I : Sl → AHp → Prop) (Q : RS → AHp → Prop) : RS → AHp → Prop := fun r h => match r with
  | .nx σ => I σ h
  | .ct σ => I σ h
  | .bk σ => Q (.nx σ) h
  | r => Q r h
theorem loop_inv {m : MS} {Q : RS → AHp → Prop} (enc : α → W) (I : List α → Sl → AHp → Prop) (step : ∀ x r σ h, I (x :: r) σ h → ∃ σ1, tg (enc x) σ = some σ1 ∧ WS (m σ1 h) (loopI (I r) Q)) (fin : ∀ σ h, I [] σ h → Q (.nx σ) h) :
    ∀ (xs : List α) (σ : Sl) (h : AHp), I xs σ h → WS (mLoop tg m (xs.map enc) σ h) Q
  | [], σ, h, i => ws_loop0.mpr (fin σ h i)
  | x :: xs, σ, h, i => by
    obtain ⟨σ1, e, k⟩ := step x xs σ h i
    rw [List.map_cons, ws_loopS, e]
    refine WS.imp k fun r h' z => ?_
    cases r with
    | nx σ2 => exact loop_inv enc I step fin xs σ2 h' z
    | ct σ2 => exact loop_inv enc I step fin xs σ2 h' z
    | bk σ2 => exact z
    | rt w => exact z
    | exc σ2 c fs => exact z
theorem comp_inv {Q : W → AHp → Prop} {E : EK} (enc : α → W) (I : List α → List D → AHp → Prop) (step : ∀ x r ds h, I (x :: r) ds h → ds.length < sizeLine ∧ ∃ σ1, tg (enc x) σ = some σ1 ∧ WP (te σ1 h) (fun w h2 => ∃ d, w = .d d ∧ I r (ds ++ [d]) h2) E0') (fin : ∀ ds h, I [] ds h → Q (.d (.lst ds)) h) :
    ∀ (xs : List α) (ds : List D) (h : AHp), I xs ds h → WP (mComp1 tg mYes te σ (xs.map enc) ds h) Q E
  | [], ds, h, i => wp_ok.mpr (fin ds h i)
  | x :: xs, ds, h, i => by
    obtain ⟨hl, σ1, e, k⟩ := step x xs ds h i
    rw [List.map_cons]
    unfold mComp1
    rw [e]
    dsimp only
    rw [wp_bind, wp_noX, wp_yes, wp_ite', if_pos rfl, wp_bind, wp_noX]
    refine k.imp fun w h2 ⟨d, ew, z⟩ => ?_
    subst ew
    dsimp only
    rw [if_pos hl]
    exact comp_inv enc I step fin xs _ h2 z
theorem ws_stoA {M : Mo} {f : Str} {me mo' : ME} {Q : RS → AHp → Prop} : WS (mStoA M f me mo' σ h) Q ↔ WP (me σ h) (fun w h1 => WP (mo' σ h1) (fun x h2 => WS (stoK M f w x σ h2) Q) (fun c fs h1 => Q (.exc σ c fs) h1)) (fun c fs h1 => Q (.exc σ c fs) h1) := by
  unfold mStoA
  rw [ws_then, wp_bind]
  simp only [wp_bind, wp_pure]
  exact Iff.rfl
theorem stoK_eq {M : Mo} {f c : Str} {w : W} {a i : Nat} {fs : List (Option W)} (e : h[a]? = some (.inst c fs)) (es : slotIx M f c = some i) : stoK M f w (.ref a) σ h = some (.nx σ, h.set a (.inst c (putA i w fs))) := by
  unfold stoK
  dsimp only
  rw [e]
  dsimp only
  rw [es]
theorem enumW_map {α : Type} (e : α → D) : ∀ (l : List α), enumW (l.map e) = l.zipIdx.map fun p => W.d (.tup [.int ((p.2 : Nat) : Int), e p.1]) := fun l => by
  unfold enumW
  refine List.ext_getElem? fun i => ?_
  rw [List.getElem?_zipWith, List.getElem?_map, List.getElem?_map, List.getElem?_zipIdx, List.length_map]
  by_cases hi : i < l.length
  · rw [List.getElem?_range hi, List.getElem?_eq_getElem hi]
    simp
  · have e1 : (List.range l.length)[i]? = none := List.getElem?_eq_none (by rw [List.length_range]; omega)
    have e2 : l[i]? = none := List.getElem?_eq_none (by omega)
    rw [e1, e2]
    rfl
theorem get_app0 {x : AO} : (h ++ [x])[h.length]? = some x := by simp
theorem set_app0 {x y : AO} : (h ++ [x]).set h.length y = h ++ [y] := by simp
def putK (w x y : W) (σ : Sl) (h3 : AHp) : Option (RS × AHp) := match x, y with
  | .ref a, .d (.int k) => (match h3[a]? with
    | some (.lst xs) => (match ixN xs.length k with
      | some j => some (.nx σ, h3.set a (.lst (xs.set j w)))
      | none => none)
    | _ => none)
  | _, _ => none
theorem ws_putK {me mo mi : ME} {Q : RS → AHp → Prop} : WS (mPut me mo mi σ h) Q ↔ WP (me σ h) (fun w h1 => WP (mo σ h1) (fun x h2 => WP (mi σ h2) (fun y h3 => WS (putK w x y σ h3) Q) (fun c fs h1 => Q (.exc σ c fs) h1)) (fun c fs h1 => Q (.exc σ c fs) h1)) (fun c fs h1 => Q (.exc σ c fs) h1) := ws_put
theorem putK_eq {w : W} {a j : Nat} {k : Int} {xs : List W} (e : h[a]? = some (.lst xs)) (ej : ixN xs.length k = some j) : putK w (.ref a) (.d (.int k)) σ h = some (.nx σ, h.set a (.lst (xs.set j w))) := by
  unfold putK
  dsimp only
  rw [e]
  dsimp only
  rw [ej]
theorem oIx_ref {M : Mo} {a : Nat} {i : Int} {ws : List W} (e : h[a]? = some (.lst ws)) : oIx M (.ref a) (.d (.int i)) h = mOf (atI ws i) h := by
  have e1 : clsOf h (.ref a) = none := by unfold clsOf; dsimp only; rw [e]
  have e2 : lstOf h (.ref a) = some ws := by unfold lstOf; dsimp only; rw [e]
  have e3 : dctOf h (.ref a) = none := by unfold dctOf; dsimp only; rw [e]
  unfold oIx
  rw [e1]
  show fIxD (.ref a) (.d (.int i)) h = _
  unfold fIxD
  rw [e3]
  show (match lstOf h (.ref a) with | some ws => mOf (atI ws i) h | none => none) = _
  rw [e2]
end
end PM

end
section
set_option Elab.async false
set_option linter.all false
set_option maxRecDepth 100000
set_option maxHeartbeats 1000000
namespace PM
open PySem PySem.Spec PyProof.Rows L2
structure Hd (p : Prop) : Prop where
  of : p
section
variable {σ : Sl} {h : AHp} {E : EK} {Q : W → AHp → Prop} {QA : List W → AHp → Prop} {QS : RS → AHp → Prop} {me mo mi : ME} {ma : MA} {m : MS}
theorem wp_zip : WP (mZip ma σ h) QA E ↔ WP (ma σ h) (fun ws h1 => WP (mOf (zipD ws) h1) QA E) E := wp_bind
theorem zipD_tup (xs ys : List D) : zipD [.d (.tup xs), .d (.tup ys)] = some (zipW xs ys) := rfl
theorem zipD_lst (xs ys : List D) : zipD [.d (.lst xs), .d (.lst ys)] = some (zipW xs ys) := rfl
theorem ws_match {cs : List (Option ME × MS)} : WS (mMatch me cs σ h) QS ↔ WP (me σ h) (fun w h1 => WS (mCs w cs σ h1) QS) (fun c fs h1 => QS (.exc σ c fs) h1) := ws_then
theorem ws_cs0 {w : W} : mCs w [] = mSkip := rfl
theorem ws_cs1 {w : W} {r : List (Option ME × MS)} : mCs w ((none, m) :: r) = m := rfl
theorem ws_cs2 {w : W} {r : List (Option ME × MS)} : WS (mCs w ((some me, m) :: r) σ h) QS ↔ WP (me σ h) (fun x h1 => WP (fEq false w x h1) (fun z h2 => WP (mOf (unB z) h2) (fun b h3 => if b = true then WS (m σ h3) QS else WS (mCs w r σ h3) QS) (fun c fs h1 => QS (.exc σ c fs) h1)) (fun c fs h1 => QS (.exc σ c fs) h1)) (fun c fs h1 => QS (.exc σ c fs) h1) := by
  show WS (mThen (mBind (mBind (me σ) fun x => fEq false w x) fun z => mOf (unB z)) σ (fun b h => if b then m σ h else mCs w r σ h) h) QS ↔ _
  rw [ws_then, wp_bind, wp_bind]
  have e : ∀ (b : Bool) (h' : AHp), WS (if b = true then m σ h' else mCs w r σ h') QS ↔ if b = true then WS (m σ h') QS else WS (mCs w r σ h') QS := fun b h' => by cases b <;> exact Iff.rfl
  simp only [e]
theorem fEq_str {a b : Str} (ha : PyData.strOk a = true) (hb : PyData.strOk b = true) : fEq false (.d (.str a)) (.d (.str b)) h = some (.ok (.d (.bl (decide (a = b)))), h) := cmStr.fEq (by decide) ha hb false
theorem wp_lstRgR : WP (mLstRgR me σ h) Q E ↔ WP (me σ h) (fun w h1 => WP (match w with | .d (.int n) => if rgOk 0 n then some (.ok (.ref h1.length), h1 ++ [.lst ((rgD 0 n).map .d)]) else none | _ => none) Q E) E := wp_bind
theorem wp_comp2 {mi mi1 : MI} {t t1 : MG} {tt tt1 : MT} {te : ME} {vs vs1 : List Nat} : WP (mComp2 mi t tt mi1 t1 tt1 te vs vs1 σ h) Q E ↔ WP (mi σ h) (fun ws h1 => WP (mCompOut t tt mi1 t1 tt1 te vs1 (wipeA σ vs) ws [] h1) Q E) E := wp_bind
theorem wp_dc2 {nst : Bool} {mi mi1 : MI} {t t1 : MG} {tt tt1 : MT} {mk mv : ME} {vs vs1 : List Nat} : WP (mDc2 nst mi t tt mi1 t1 tt1 mk mv vs vs1 σ h) Q E ↔ WP (mi σ h) (fun ws h1 => WP (mDcOut nst t tt mi1 t1 tt1 mk mv vs1 (wipeA σ vs) ws [] [] h1) Q E) E := wp_bind
theorem fz_ref {i a : Nat} {ds : List D} (e1 : σ[i]? = some (some (.ref a))) (e2 : h[a]? = some (.lst (ds.map .d))) : mFzs [i] m σ h = m (σ.set i (some (.d (.lst ds)))) (h.set a .dead) := by
  show mFz i m σ h = _
  unfold mFz
  rw [e1]
  dsimp only
  have : frzL h (.ref a) = some (.lst ds, h.set a .dead) := by
    unfold frzL
    dsimp only
    rw [e2]
    dsimp only
    rw [unD_d]
    rfl
  rw [this]
def NewK (ks : List D) : Prop := ∃ nks, tkeys ks = some nks ∧ nks.Nodup
theorem tkeys_split : ∀ {ks : List D} {k : D} {r : List D} {nks : List NestedKey}, tkeys (ks ++ k :: r) = some nks → ∃ a b c, tkeys ks = some a ∧ tkey k = some b ∧ tkeys r = some c ∧ nks = a ++ b :: c
  | [], k, r, nks, e => by
    rw [List.nil_append] at e
    unfold tkeys at e
    split at e
    · rename_i b c e1 e2
      cases e
      exact ⟨[], b, c, rfl, e1, e2, rfl⟩
    · cases e
  | d :: ds, k, r, nks, e => by
    rw [List.cons_append] at e
    unfold tkeys at e
    split at e
    · rename_i x y e1 e2
      cases e
      obtain ⟨a, b, c, q1, q2, q3, rfl⟩ := tkeys_split e2
      refine ⟨x :: a, b, c, ?_, q2, q3, rfl⟩
      unfold tkeys
      rw [e1, q1]
    · cases e
theorem dput_new {α : Type} {ks r : List D} {k : D} (n : NewK (ks ++ k :: r)) (vs : List α) (v : α) : dputA true ks vs k v = some (ks ++ [k], vs ++ [v]) := by
  obtain ⟨nks, e, nd⟩ := n
  obtain ⟨a, b, c, q1, q2, q3, rfl⟩ := tkeys_split e
  unfold dputA
  rw [if_pos rfl, q2, q1]
  dsimp only
  have : hasK b a = false := by
    unfold hasK
    rw [List.any_eq_false]
    intro x hx z
    have z : x = b := of_decide_eq_true z
    subst z
    rw [List.nodup_append] at nd
    exact nd.2.2 x hx x List.mem_cons_self rfl
  rw [this]
  rfl
section
variable {α β : Type} {t t1 : MG} {tt tt1 : MT} {mi1 : MI} {mk mv : ME} {vs1 : List Nat}
theorem dcIn_eq (enc : α → W) (kf vf : α → D) {F : List D → List D → M W} : ∀ (xs : List α) (ks vs : List D), (∀ x ∈ xs, ∃ σ1, t (enc x) σ = some σ1 ∧ WP (tt σ1 h) (fun b h' => b = true ∧ h' = h) E0' ∧ WP (mk σ1 h) (fun w h' => w = .d (kf x) ∧ h' = h) E0' ∧ WP (mv σ1 h) (fun w h' => w = .d (vf x) ∧ h' = h) E0') → NewK (ks ++ xs.map kf) → vs.length + xs.length ≤ sizeLine →
    mDcIn true t tt mk mv σ F (xs.map enc) ks vs h = F (ks ++ xs.map kf) (vs ++ xs.map vf) h
  | [], ks, vs, _, _, _ => by
    rw [List.map_nil, List.map_nil, List.map_nil, List.append_nil, List.append_nil]
    unfold mDcIn
    rfl
  | x :: xs, ks, vs, H, n, hl => by
    obtain ⟨σ1, e1, e2, e3, e4⟩ := H x List.mem_cons_self
    have e2 := e2.eq
    have e3 := e3.eq
    have e4 := e4.eq
    rw [List.length_cons] at hl
    rw [List.map_cons]
    unfold mDcIn
    rw [e1]
    dsimp only
    rw [List.map_cons] at n
    simp only [mBind, mNoX, e2, e3, e4, if_true, if_pos (show vs.length < sizeLine by omega), dput_new n]
    rw [dcIn_eq enc kf vf xs (ks ++ [kf x]) (vs ++ [vf x]) (fun y hy => H y (List.mem_cons_of_mem _ hy)) (by rw [List.append_assoc]; exact n) (by rw [List.length_append, List.length_singleton]; omega)]
    rw [List.append_assoc, List.append_assoc, List.map_cons, List.map_cons]
    rfl
theorem dcOut_eq (enc : β → W) (ins : β → List α) (enc1 : α → W) (kf vf : β → α → D) : ∀ (xs : List β) (ks vs : List D), (∀ x ∈ xs, ∃ σ1, t (enc x) σ = some σ1 ∧ WP (tt σ1 h) (fun b h' => b = true ∧ h' = h) E0' ∧ WP (mi1 σ1 h) (fun ws h' => ws = (ins x).map enc1 ∧ h' = h) E0' ∧
      ∀ y ∈ ins x, ∃ σ2, t1 (enc1 y) (wipeA σ1 vs1) = some σ2 ∧ WP (tt1 σ2 h) (fun b h' => b = true ∧ h' = h) E0' ∧ WP (mk σ2 h) (fun w h' => w = .d (kf x y) ∧ h' = h) E0' ∧ WP (mv σ2 h) (fun w h' => w = .d (vf x y) ∧ h' = h) E0') → NewK (ks ++ xs.flatMap fun x => (ins x).map (kf x)) → vs.length + (xs.flatMap fun x => (ins x).map (kf x)).length ≤ sizeLine →
    mDcOut true t tt mi1 t1 tt1 mk mv vs1 σ (xs.map enc) ks vs h = some (.ok (.d (.dct (ks ++ xs.flatMap fun x => (ins x).map (kf x)) (vs ++ xs.flatMap fun x => (ins x).map (vf x)))), h)
  | [], ks, vs, _, _, _ => by
    rw [List.map_nil, List.flatMap_nil, List.flatMap_nil, List.append_nil, List.append_nil]
    unfold mDcOut
    rfl
  | x :: xs, ks, vs, H, n, hl => by
    obtain ⟨σ1, e1, e2, e3, e4⟩ := H x List.mem_cons_self
    have e2 := e2.eq
    have e3 := e3.eq
    rw [List.flatMap_cons] at n hl
    rw [List.length_append, List.length_map] at hl
    rw [List.map_cons]
    unfold mDcOut
    rw [e1]
    dsimp only
    simp only [mBind, mNoX, e2, e3, if_true]
    have n1 : NewK (ks ++ (ins x).map (kf x)) := by
      rw [← List.append_assoc] at n
      obtain ⟨nks, e, nd⟩ := n
      cases q : (xs.flatMap fun x => (ins x).map (kf x)) with
      | nil => rw [q, List.append_nil] at e; exact ⟨nks, e, nd⟩
      | cons z r =>
        rw [q] at e
        obtain ⟨a, b, c, q1, q2, q3, rfl⟩ := tkeys_split e
        exact ⟨a, q1, (List.nodup_append.mp nd).1⟩
    rw [dcIn_eq enc1 (kf x) (vf x) (ins x) ks vs e4 n1 (by omega)]
    rw [dcOut_eq enc ins enc1 kf vf xs _ _ (fun y hy => H y (List.mem_cons_of_mem _ hy)) (by rw [List.append_assoc]; exact n) (by rw [List.length_append, List.length_map]; omega)]
    rw [List.append_assoc, List.append_assoc, List.flatMap_cons, List.flatMap_cons]
theorem compIn_eq {te : ME} (enc : α → W) (p : α → Bool) (f : α → D) {F : List D → M W} : ∀ (xs : List α) (acc : List D), (∀ x ∈ xs, ∃ σ1, t (enc x) σ = some σ1 ∧ WP (tt σ1 h) (fun b h' => b = p x ∧ h' = h) E0' ∧ (p x = true → WP (te σ1 h) (fun w h' => w = .d (f x) ∧ h' = h) E0')) → acc.length + xs.length ≤ sizeLine →
    mCompIn t tt te σ F (xs.map enc) acc h = F (acc ++ (xs.filter p).map f) h
  | [], acc, _, _ => by
    rw [List.map_nil, List.filter_nil, List.map_nil, List.append_nil]
    unfold mCompIn
    rfl
  | x :: xs, acc, H, hl => by
    obtain ⟨σ1, e1, e2, e3⟩ := H x List.mem_cons_self
    have e2 := e2.eq
    rw [List.length_cons] at hl
    rw [List.map_cons]
    unfold mCompIn
    rw [e1]
    dsimp only
    cases c : p x with
    | false =>
      rw [c] at e2
      simp only [mBind, mNoX, e2, Bool.false_eq_true, if_false]
      rw [compIn_eq enc p f xs acc (fun y hy => H y (List.mem_cons_of_mem _ hy)) (by omega), List.filter_cons, c]
      simp
    | true =>
      rw [c] at e2
      have e3 := (e3 c).eq
      simp only [mBind, mNoX, e2, e3, if_true, if_pos (show acc.length < sizeLine by omega)]
      rw [compIn_eq enc p f xs (acc ++ [f x]) (fun y hy => H y (List.mem_cons_of_mem _ hy)) (by rw [List.length_append, List.length_singleton]; omega), List.filter_cons, c]
      simp
theorem comp2_eq {te : ME} (enc : β → W) (ins : β → List α) (enc1 : α → W) (p : β → α → Bool) (f : β → α → D) : ∀ (xs : List β) (acc : List D), (∀ x ∈ xs, ∃ σ1, t (enc x) σ = some σ1 ∧ WP (tt σ1 h) (fun b h' => b = true ∧ h' = h) E0' ∧ WP (mi1 σ1 h) (fun ws h' => ws = (ins x).map enc1 ∧ h' = h) E0' ∧
      ∀ y ∈ ins x, ∃ σ2, t1 (enc1 y) (wipeA σ1 vs1) = some σ2 ∧ WP (tt1 σ2 h) (fun b h' => b = p x y ∧ h' = h) E0' ∧ (p x y = true → WP (te σ2 h) (fun w h' => w = .d (f x y) ∧ h' = h) E0')) → acc.length + (xs.flatMap ins).length ≤ sizeLine →
    mCompOut t tt mi1 t1 tt1 te vs1 σ (xs.map enc) acc h = some (.ok (.d (.lst (acc ++ xs.flatMap fun x => ((ins x).filter (p x)).map (f x)))), h)
  | [], acc, _, _ => by
    rw [List.map_nil, List.flatMap_nil, List.append_nil]
    unfold mCompOut
    rfl
  | x :: xs, acc, H, hl => by
    obtain ⟨σ1, e1, e2, e3, e4⟩ := H x List.mem_cons_self
    have e2 := e2.eq
    have e3 := e3.eq
    rw [List.flatMap_cons, List.length_append] at hl
    rw [List.map_cons]
    unfold mCompOut
    rw [e1]
    dsimp only
    simp only [mBind, mNoX, e2, e3, if_true]
    rw [compIn_eq enc1 (p x) (f x) (ins x) acc e4 (by omega)]
    have hle : ((ins x).filter (p x)).length ≤ (ins x).length := List.length_filter_le _ _
    rw [comp2_eq enc ins enc1 p f xs _ (fun y hy => H y (List.mem_cons_of_mem _ hy)) (by rw [List.length_append, List.length_map]; omega)]
    rw [List.append_assoc, List.flatMap_cons]
end
end
end PM

end
section
set_option Elab.async false
set_option linter.all false
set_option maxRecDepth 100000
set_option maxHeartbeats 0
namespace K02
open PySem PySem.Spec PyProof.Rows L2 PM
def body : List Stmt := (PySem.W.OpenLaw.row PySem.Challenge.rw_emptyup_k02_whole_stores).prog.main.body
def top (i : Nat) : Stmt := body.getD i (.Pass ⟨0, 0, 0, 0⟩)
def clB (s : Stmt) : List Stmt := match s with | .ClassDef _ _ _ b _ _ _ _ _ _ _ => b | _ => []
def inC (i j : Nat) : Stmt := (clB (top i)).getD j (.Pass ⟨0, 0, 0, 0⟩)
def f_is_number : FnT := { nm := "is_number", qual := "is_number", st := top 10, N := ["thing", "least", "most"], dfl := [.non], mu := [] }
def f_is_name : FnT := { nm := "is_name", qual := "is_name", st := top 11, N := ["thing"], dfl := [], mu := [] }
def f_is_word : FnT := { nm := "is_word", qual := "is_word", st := top 12, N := ["thing", "words"], dfl := [], mu := [] }
def f_is_field : FnT := { nm := "is_field", qual := "is_field", st := top 13, N := ["field", "many", "name", "target", "form", "mark", "spare"], dfl := [], mu := [] }
def f_is_spare : FnT := { nm := "is_spare", qual := "is_spare", st := top 14, N := ["kind", "field", "other"], dfl := [], mu := [] }
def f_is_kind : FnT := { nm := "is_kind", qual := "is_kind", st := top 15, N := ["kind", "many", "field"], dfl := [], mu := [] }
def f_field_at : FnT := { nm := "field_at", qual := "field_at", st := top 17, N := ["schema", "pair"], dfl := [], mu := [] }
def f_check_schema : FnT := { nm := "check_schema", qual := "check_schema", st := top 18, N := ["schema"], dfl := [], mu := [] }
def f_kind_of : FnT := { nm := "kind_of", qual := "kind_of", st := top 20, N := ["schema", "one"], dfl := [], mu := [] }
def f_is_single : FnT := { nm := "is_single", qual := "is_single", st := top 21, N := ["schema", "objects", "target", "value"], dfl := [], mu := [] }
def f_is_value : FnT := { nm := "is_value", qual := "is_value", st := top 22, N := ["schema", "objects", "field", "value", "item"], dfl := [], mu := [] }
def f_is_object : FnT := { nm := "is_object", qual := "is_object", st := top 23, N := ["schema", "objects", "one", "kind", "fields", "field", "value"], dfl := [], mu := [] }
def f__law_cell_at : FnT := { nm := "_law_cell_at", qual := "_law_cell_at", st := top 26, N := ["_law_script", "_law_k"], dfl := [], mu := [] }
def f__law_draw : FnT := { nm := "_law_draw", qual := "_law_draw", st := top 27, N := ["_law_cell", "_law_k", "_law_bound", "_law_primes"], dfl := [], mu := [] }
def f__law_number : FnT := { nm := "_law_number", qual := "_law_number", st := top 28, N := ["_law_cell", "_law_k", "_law_bound", "_law_power", "_law_times", "_law_rest", "_law_small"], dfl := [], mu := [] }
def f__law_next : FnT := { nm := "_law_next", qual := "_law_next", st := top 29, N := ["_law_draw_here", "_law_bound", "_law_at", "_law_cell"], dfl := [], mu := [] }
def f__law_pick : FnT := { nm := "_law_pick", qual := "_law_pick", st := top 30, N := ["_law_draw_here", "_law_things"], dfl := [], mu := [] }
def f__law_pairs : FnT := { nm := "_law_pairs", qual := "_law_pairs", st := top 31, N := ["_law_many", "_law_found", "_law_at", "_law_name"], dfl := [], mu := [] }
def f__law_field : FnT := { nm := "_law_field", qual := "_law_field", st := top 32, N := ["_law_draw_here", "_law_many", "_law_name", "_law_last", "_law_target", "_law_form"], dfl := [], mu := [] }
def f__law_spared : FnT := { nm := "_law_spared", qual := "_law_spared", st := top 33, N := ["_law_draw_here", "_law_fields", "_law_found", "_law_field_here", "_law_able", "_law_spare", "_law_one"], dfl := [], mu := [("_law_found", true)] }
def f__law_kinds : FnT := { nm := "_law_kinds", qual := "_law_kinds", st := top 34, N := ["_law_draw_here", "_law_most", "_law_kind", "_law_many", "_law_kinds_here", "_law_at", "_law_start", "_law_fields", "_law_name", "_law_last", "_law_late"], dfl := [], mu := [("_law_fields", true), ("_law_kinds_here", true)] }
def f__law_value : FnT := { nm := "_law_value", qual := "_law_value", st := top 35, N := ["_law_draw_here", "_law_sorts", "_law_field_here", "_law_able", "_law_at", "_law_turn"], dfl := [], mu := [] }
def f__law_objects : FnT := { nm := "_law_objects", qual := "_law_objects", st := top 36, N := ["_law_draw_here", "_law_kinds_here", "_law_more", "_law_sorts", "_law_turn", "_law_found", "_law_sort", "_law_field_here"], dfl := [], mu := [("_law_found", true), ("_law_sorts", true)], fz := [(236, "_law_sorts")] }
def f__law_is_single : FnT := { nm := "_law_is_single", qual := "_law_is_single", st := top 37, N := ["_law_kinds_here", "_law_objects_here", "_law_target", "_law_value_here"], dfl := [], mu := [] }
def f__law_is_object : FnT := { nm := "_law_is_object", qual := "_law_is_object", st := top 38, N := ["_law_kinds_here", "_law_objects_here", "_law_at", "_law_kind", "_law_values", "_law_field_here", "_law_value_here", "_law_one"], dfl := [], mu := [] }
def f__law_changed : FnT := { nm := "_law_changed", qual := "_law_changed", st := top 39, N := ["_law_draw_here", "_law_objects_here", "_law_at", "_law_spot", "_law_kind", "_law_values", "_law_which", "_law_number_here", "_law_late", "_law_row"], dfl := [], mu := [] }
def f__law_made : FnT := { nm := "_law_made", qual := "_law_made", st := top 40, N := ["_law_schema", "_law_objects_here", "error"], dfl := [], mu := [] }
def f__law_due : FnT := { nm := "_law_due", qual := "_law_due", st := top 41, N := ["_law_kinds_here", "_law_objects_here", "_law_found", "_law_at"], dfl := [], mu := [] }
def f__law_value_of : FnT := { nm := "_law_value_of", qual := "_law_value_of", st := top 42, N := ["_law_kinds_here", "_law_objects_here", "_law_cell", "_law_number_here", "_law_name", "_law_kind", "_law_values", "_law_field_here", "_law_value_here"], dfl := [], mu := [] }
def f__law_asked : FnT := { nm := "_law_asked", qual := "_law_asked", st := top 43, N := ["_law_store", "_law_cell"], dfl := [], mu := [] }
def f__law_store_right : FnT := { nm := "_law_store_right", qual := "_law_store_right", st := top 44, N := ["_law_kinds_here", "_law_objects_here", "_law_store", "_law_cells", "_law_rows", "_law_cell", "_law_row"], dfl := [], mu := [] }
def f_law : FnT := { nm := "law", qual := "law", st := top 45, N := ["_law_script", "_law_by", "_law_turn", "_law_draw_here", "_law_before", "_law_kinds_here", "_law_objects_here", "_law_due_here", "_law_store", "_law_is_same"], dfl := [], mu := [("_law_draw_here", false)] }
def fl0 : List (Str × FnT) := [("is_number", f_is_number), ("is_name", f_is_name), ("is_word", f_is_word), ("is_field", f_is_field), ("is_spare", f_is_spare), ("is_kind", f_is_kind), ("field_at", f_field_at), ("check_schema", f_check_schema), ("kind_of", f_kind_of), ("is_single", f_is_single), ("is_value", f_is_value), ("is_object", f_is_object), ("_law_cell_at", f__law_cell_at), ("_law_draw", f__law_draw), ("_law_number", f__law_number), ("_law_next", f__law_next), ("_law_pick", f__law_pick), ("_law_pairs", f__law_pairs), ("_law_field", f__law_field), ("_law_spared", f__law_spared), ("_law_kinds", f__law_kinds), ("_law_value", f__law_value), ("_law_objects", f__law_objects), ("_law_is_single", f__law_is_single), ("_law_is_object", f__law_is_object)]
def fl1 : List (Str × FnT) := [("_law_changed", f__law_changed), ("_law_made", f__law_made), ("_law_due", f__law_due), ("_law_value_of", f__law_value_of), ("_law_asked", f__law_asked), ("_law_store_right", f__law_store_right), ("law", f_law)]
def m_Schema___init__ : FnT := { nm := "__init__", qual := "Schema.__init__", st := inC 16 1, N := ["self", "kinds", "index", "kind"], dfl := [], mu := [] }
def m_Schema_kinds : FnT := { nm := "kinds", qual := "Schema.kinds", st := inC 16 2, N := ["self"], dfl := [], mu := [] }
def m_Schema___len__ : FnT := { nm := "__len__", qual := "Schema.__len__", st := inC 16 3, N := ["self"], dfl := [], mu := [] }
def m_Schema___contains__ : FnT := { nm := "__contains__", qual := "Schema.__contains__", st := inC 16 4, N := ["self", "pair", "field"], dfl := [], mu := [] }
def m_Schema___iter__ : FnT := { nm := "__iter__", qual := "Schema.__iter__", st := inC 16 5, N := ["self"], dfl := [], mu := [] }
def m_Schema___getitem__ : FnT := { nm := "__getitem__", qual := "Schema.__getitem__", st := inC 16 6, N := ["self", "pair", "kind", "name", "field"], dfl := [], mu := [] }
def m_Schema___xor__ : FnT := { nm := "__xor__", qual := "Schema.__xor__", st := inC 16 7, N := ["self", "other", "pairs", "kind", "name", "pair"], dfl := [], mu := [] }
def m_Schema___eq__ : FnT := { nm := "__eq__", qual := "Schema.__eq__", st := inC 16 8, N := ["self", "other"], dfl := [], mu := [] }
def c_Schema : ClT := ⟨"Schema", ["rows"], [("__len__", m_Schema___len__), ("__contains__", m_Schema___contains__), ("__iter__", m_Schema___iter__), ("__getitem__", m_Schema___getitem__), ("__xor__", m_Schema___xor__), ("__eq__", m_Schema___eq__)], [("kinds", m_Schema_kinds)], some m_Schema___init__⟩
def m_Store___init__ : FnT := { nm := "__init__", qual := "Store.__init__", st := inC 24 1, N := ["self", "schema", "objects", "index", "one", "kind", "values", "field", "value"], dfl := [], mu := [] }
def m_Store_schema : FnT := { nm := "schema", qual := "Store.schema", st := inC 24 2, N := ["self"], dfl := [], mu := [] }
def m_Store_objects : FnT := { nm := "objects", qual := "Store.objects", st := inC 24 3, N := ["self"], dfl := [], mu := [] }
def m_Store_cells : FnT := { nm := "cells", qual := "Store.cells", st := inC 24 4, N := ["self", "index", "name"], dfl := [], mu := [] }
def m_Store___len__ : FnT := { nm := "__len__", qual := "Store.__len__", st := inC 24 5, N := ["self"], dfl := [], mu := [] }
def m_Store___contains__ : FnT := { nm := "__contains__", qual := "Store.__contains__", st := inC 24 6, N := ["self", "cell"], dfl := [], mu := [] }
def m_Store___iter__ : FnT := { nm := "__iter__", qual := "Store.__iter__", st := inC 24 7, N := ["self"], dfl := [], mu := [] }
def m_Store___getitem__ : FnT := { nm := "__getitem__", qual := "Store.__getitem__", st := inC 24 8, N := ["self", "cell"], dfl := [], mu := [] }
def m_Store___eq__ : FnT := { nm := "__eq__", qual := "Store.__eq__", st := inC 24 9, N := ["self", "other"], dfl := [], mu := [] }
def c_Store : ClT := ⟨"Store", ["plan", "rows", "table"], [("__len__", m_Store___len__), ("__contains__", m_Store___contains__), ("__iter__", m_Store___iter__), ("__getitem__", m_Store___getitem__), ("__eq__", m_Store___eq__)], [("schema", m_Store_schema), ("objects", m_Store_objects), ("cells", m_Store_cells)], some m_Store___init__⟩
def e_BadSchema : LowT := ⟨"kind", "kind", "BadSchema.__init__", inC 2 0⟩
def e_BadStore : LowT := ⟨"index", "index", "BadStore.__init__", inC 4 0⟩
def em0 : List ((Str × Str) × Bool) := [(("HoleError", "BadCell"), false), (("HoleError", "BadStore"), false), (("BadSchema", "BadCell"), false), (("BadSchema", "BadStore"), false), (("BadField", "BadCell"), false), (("BadField", "BadStore"), false), (("BadStore", "BadCell"), false), (("BadStore", "BadStore"), true), (("BadCell", "BadCell"), true), (("BadCell", "BadStore"), false)]
def io0 : List ((Str × Str) × Bool) := [(("Schema", "Schema"), true), (("Schema", "Store"), false), (("Store", "Schema"), false), (("Store", "Store"), true), (("HoleError", "Schema"), false), (("HoleError", "Store"), false), (("BadSchema", "Schema"), false), (("BadSchema", "Store"), false), (("BadField", "Schema"), false), (("BadField", "Store"), false), (("BadStore", "Schema"), false), (("BadStore", "Store"), false), (("BadCell", "Schema"), false), (("BadCell", "Store"), false)]
def it0 : List ((Str × String) × Bool) := [(("Schema", "bool"), false), (("Schema", "int"), false), (("Schema", "str"), false), (("Schema", "tuple"), false), (("Store", "bool"), false), (("Store", "int"), false), (("Store", "str"), false), (("Store", "tuple"), false)]
def nn0 : List ((String × Str) × Bool) := [(("NoneType", "Schema"), false), (("NoneType", "Store"), false), (("bool", "Schema"), false), (("bool", "Store"), false), (("int", "Schema"), false), (("int", "Store"), false), (("str", "Schema"), false), (("str", "Store"), false), (("tuple", "Schema"), false), (("tuple", "Store"), false), (("list", "Schema"), false), (("list", "Store"), false)]
def T : ModT := { cons := [("NAMES", .str "abcdef"), ("FORMS", .tup [(.str "one"), (.str "all"), (.str "gaps"), (.str "rest")]), ("MARKS", .tup [(.str "must"), (.str "may")])], fns := fl0 ++ fl1, cls := [("Schema", c_Schema), ("Store", c_Store)], exc := [("HoleError", none), ("BadSchema", some e_BadSchema), ("BadField", none), ("BadStore", some e_BadStore), ("BadCell", none)], exm := em0, isO := io0, isT := it0, isN := nn0, free := ["TypeError", "ValueError", "all", "bool", "enumerate", "int", "isinstance", "len", "list", "max", "min", "property", "range", "str", "super", "tuple", "zip"] }
def names0 : List Str := ["HoleError", "BadSchema", "BadField", "BadStore", "BadCell", "NAMES", "FORMS", "MARKS", "is_number", "is_name", "is_word", "is_field", "is_spare", "is_kind", "Schema", "field_at", "check_schema", "kind_of", "is_single", "is_value", "is_object", "Store", "_law_cell_at", "_law_draw", "_law_number", "_law_next", "_law_pick", "_law_pairs", "_law_field", "_law_spared"]
def names1 : List Str := ["_law_kinds", "_law_value", "_law_objects", "_law_is_single", "_law_is_object", "_law_changed", "_law_made", "_law_due", "_law_value_of", "_law_asked", "_law_store_right"]
def names : List Str := names0 ++ names1
def lawAt : Nat := 45
end K02

end
section
set_option Elab.async false
set_option linter.all false
set_option maxRecDepth 100000
set_option maxHeartbeats 0
namespace K02
open PySem PySem.W PySem.Calls PyProof.Rows PM
abbrev RW : OpenRow := OpenLaw.row PySem.Challenge.rw_emptyup_k02_whole_stores
abbrev hk : Hook := T.hook RW.prog 6
def ob (s : SharedT) : AlM := T.obsG RW.prog 6 (HandSHeadRun.getT s)
theorem ob_eq (s : SharedT) : ob s = hk.obs s.abs := ModT.ob_eq (HandSHeadRun.getT_eq s)
theorem run (w : World) : HandSHeadRun.RunEq RW (view RW.prog [lawAt]) hk ob 6000 names w := by
  intro os
  kernel_rfl
end K02

end
section
set_option Elab.async false
set_option linter.all false
set_option maxRecDepth 100000
set_option maxHeartbeats 0
open PySem PySem.W PySem.Calls PyProof.Rows
theorem K02.holds (pl : ∀ ns : List Int, ns.length ≤ 63 → ∃ h', K02.f_law.run 40 (K02.T.mo 40 20) [.ref 0] (PM.scr ns) = some (.ok (.d (.bl true)), h')) : PySem.Challenge.rw_emptyup_k02_whole_stores.Holds := by
  w_on; o_law
  refine HandSHeadRun.head_any (r := OpenLaw.row PySem.Challenge.rw_emptyup_k02_whole_stores) (q := view (OpenLaw.row PySem.Challenge.rw_emptyup_k02_whole_stores).prog [45]) (H := K02.hk) (ob := K02.ob) (M := 6000) (loose := K02.names) (d := HandSHeadRun.topDef (OpenLaw.row PySem.Challenge.rw_emptyup_k02_whole_stores).prog 45) (kwd := []) K02.ob_eq
    (by kernel_rfl) (fun s => by kernel_rfl) K02.run (by kernel_rfl) (by kernel_rfl) (by kernel_rfl) (by rfl) (by first | assumption | decide +kernel) (by decide +kernel) ⟨rfl, rfl, rfl, rfl, rfl, by decide +kernel⟩ ?hw ?hc
  case hw => w_witness2
  case hc =>
    refine L2.walk_ofE (l := PySem.Challenge.rw_emptyup_k02_whole_stores) (n := 63) (k := 3 * 20 + 1 + 3) (x := "_law_script") (CX := PM.CXA (PySem.Challenge.rw_emptyup_k02_whole_stores).prog) rfl (by decide) (by kernel_rfl) ⟨rfl, by decide, by decide⟩ ?F PM.cxa_none
    intro w mg fa h Y G hmg0
    obtain ⟨K, KX, S⟩ := Y
    have hmg : mg ("law" : PySem.Str) = some (.ref fa) := by
      have e : (HandSHeadRun.topDef (OpenLaw.row PySem.Challenge.rw_emptyup_k02_whole_stores).prog 45).name = ("law" : PySem.Str) := by kernel_rfl
      rw [← e]
      exact hmg0
    exact PM.end_ok (T := K02.T) (f := K02.f_law) (lw := "law") (j := 20) (fuel := 40) KX G S (by kernel_rfl) (by kernel_rfl) (by kernel_rfl) rfl hmg pl

end
section
set_option Elab.async false
set_option linter.all false
set_option maxRecDepth 100000
set_option maxHeartbeats 0
namespace K02
open PySem PySem.Spec PyProof.Rows L2 PM
def r_is_number (j : Nat) : MF := f_is_number.run 40 (T.mo 40 j)
def r_is_name (j : Nat) : MF := f_is_name.run 40 (T.mo 40 j)
def r_is_word (j : Nat) : MF := f_is_word.run 40 (T.mo 40 j)
def r_is_field (j : Nat) : MF := f_is_field.run 40 (T.mo 40 j)
def r_is_spare (j : Nat) : MF := f_is_spare.run 40 (T.mo 40 j)
def r_is_kind (j : Nat) : MF := f_is_kind.run 40 (T.mo 40 j)
def r_field_at (j : Nat) : MF := f_field_at.run 40 (T.mo 40 j)
def r_check_schema (j : Nat) : MF := f_check_schema.run 40 (T.mo 40 j)
def r_kind_of (j : Nat) : MF := f_kind_of.run 40 (T.mo 40 j)
def r_is_single (j : Nat) : MF := f_is_single.run 40 (T.mo 40 j)
def r_is_value (j : Nat) : MF := f_is_value.run 40 (T.mo 40 j)
def r_is_object (j : Nat) : MF := f_is_object.run 40 (T.mo 40 j)
def r__law_cell_at (j : Nat) : MF := f__law_cell_at.run 40 (T.mo 40 j)
def r__law_draw (j : Nat) : MF := f__law_draw.run 40 (T.mo 40 j)
def r__law_number (j : Nat) : MF := f__law_number.run 40 (T.mo 40 j)
def r__law_next (j : Nat) : MF := f__law_next.run 40 (T.mo 40 j)
def r__law_pick (j : Nat) : MF := f__law_pick.run 40 (T.mo 40 j)
def r__law_pairs (j : Nat) : MF := f__law_pairs.run 40 (T.mo 40 j)
def r__law_field (j : Nat) : MF := f__law_field.run 40 (T.mo 40 j)
def r__law_spared (j : Nat) : MF := f__law_spared.run 40 (T.mo 40 j)
def r__law_kinds (j : Nat) : MF := f__law_kinds.run 40 (T.mo 40 j)
def r__law_value (j : Nat) : MF := f__law_value.run 40 (T.mo 40 j)
def r__law_objects (j : Nat) : MF := f__law_objects.run 40 (T.mo 40 j)
def r__law_is_single (j : Nat) : MF := f__law_is_single.run 40 (T.mo 40 j)
def r__law_is_object (j : Nat) : MF := f__law_is_object.run 40 (T.mo 40 j)
def r__law_changed (j : Nat) : MF := f__law_changed.run 40 (T.mo 40 j)
def r__law_made (j : Nat) : MF := f__law_made.run 40 (T.mo 40 j)
def r__law_due (j : Nat) : MF := f__law_due.run 40 (T.mo 40 j)
def r__law_value_of (j : Nat) : MF := f__law_value_of.run 40 (T.mo 40 j)
def r__law_asked (j : Nat) : MF := f__law_asked.run 40 (T.mo 40 j)
def r__law_store_right (j : Nat) : MF := f__law_store_right.run 40 (T.mo 40 j)
def r_law (j : Nat) : MF := f_law.run 40 (T.mo 40 j)
def r_Schema___init__ (j : Nat) : MF := m_Schema___init__.run 40 (T.mo 40 j)
def r_Schema_kinds (j : Nat) : MF := m_Schema_kinds.run 40 (T.mo 40 j)
def r_Schema___len__ (j : Nat) : MF := m_Schema___len__.run 40 (T.mo 40 j)
def r_Schema___contains__ (j : Nat) : MF := m_Schema___contains__.run 40 (T.mo 40 j)
def r_Schema___iter__ (j : Nat) : MF := m_Schema___iter__.run 40 (T.mo 40 j)
def r_Schema___getitem__ (j : Nat) : MF := m_Schema___getitem__.run 40 (T.mo 40 j)
def r_Schema___xor__ (j : Nat) : MF := m_Schema___xor__.run 40 (T.mo 40 j)
def r_Schema___eq__ (j : Nat) : MF := m_Schema___eq__.run 40 (T.mo 40 j)
def r_Store___init__ (j : Nat) : MF := m_Store___init__.run 40 (T.mo 40 j)
def r_Store_schema (j : Nat) : MF := m_Store_schema.run 40 (T.mo 40 j)
def r_Store_objects (j : Nat) : MF := m_Store_objects.run 40 (T.mo 40 j)
def r_Store_cells (j : Nat) : MF := m_Store_cells.run 40 (T.mo 40 j)
def r_Store___len__ (j : Nat) : MF := m_Store___len__.run 40 (T.mo 40 j)
def r_Store___contains__ (j : Nat) : MF := m_Store___contains__.run 40 (T.mo 40 j)
def r_Store___iter__ (j : Nat) : MF := m_Store___iter__.run 40 (T.mo 40 j)
def r_Store___getitem__ (j : Nat) : MF := m_Store___getitem__.run 40 (T.mo 40 j)
def r_Store___eq__ (j : Nat) : MF := m_Store___eq__.run 40 (T.mo 40 j)
def s_is_number (j : Nat) (M : Mo) : MS := mSeq (mIfS (mOrT (mNotT (mB (mUn (isiM M false (.ty "int")) (mVar 0)))) (mB (mUn (isiM M false (.ty "bool")) (mVar 0)))) (mSeq (mRet (mC (.bl false))) (mSkip)) (mSkip)) (mSeq (mRet (mAndV (mBin (oC M .LtE) (mVar 1) (mVar 0)) (mOrV (mBin (oC M .Is) (mVar 2) (mC (.non))) (mBin (oC M .LtE) (mVar 0) (mVar 2))))) (mSkip))
theorem sh_is_number (j : Nat) (ws : List W) (h : AHp) : r_is_number (j + 1) ws h = mFn 3 (s_is_number j (T.mo 40 (j + 1))) ws h := by kernel_rfl
def s_is_name (j : Nat) (M : Mo) : MS := mSeq (mRet (mAndV (mUn (isiM M false (.ty "str")) (mVar 0)) (mAndV (mBin (oC M .Eq) (mCB (lenA M) (mCons (mVar 0) (mNil))) (mC (.int (1)))) (mBin (oC M .In) (mVar 0) (mC (.str "abcdef")))))) (mSkip)
theorem sh_is_name (j : Nat) (ws : List W) (h : AHp) : r_is_name (j + 1) ws h = mFn 1 (s_is_name j (T.mo 40 (j + 1))) ws h := by kernel_rfl
def s_is_word (j : Nat) (M : Mo) : MS := mSeq (mRet (mAndV (mUn (isiM M false (.ty "str")) (mVar 0)) (mBin (oC M .In) (mVar 0) (mVar 1)))) (mSkip)
theorem sh_is_word (j : Nat) (ws : List W) (h : AHp) : r_is_word (j + 1) ws h = mFn 2 (s_is_word j (T.mo 40 (j + 1))) ws h := by kernel_rfl
def s_is_field (j : Nat) (M : Mo) : MS := mSeq (mIfS (mOrT (mNotT (mB (mUn (isiM M false (.ty "tuple")) (mVar 0)))) (mB (mBin (oC M .NotEq) (mCB (lenA M) (mCons (mVar 0) (mNil))) (mC (.int (5)))))) (mSeq (mRet (mC (.bl false))) (mSkip)) (mSkip)) (mSeq (mAsg (mVar 0) (mgTup (mgCons (mgName 2) (mgCons (mgName 3) (mgCons (mgName 4) (mgCons (mgName 5) (mgCons (mgName 6) (mgNil)))))) 5)) (mSeq (mIfS (mOrT (mNotT (mB (mCB (mLen 1 (fun ws => r_is_name j (ws ++ []))) (mCons (mVar 2) (mNil))))) (mOrT (mNotT (mB (mCB (mLen 2 (fun ws => r_is_word j (ws ++ []))) (mCons (mVar 4) (mCons (mC (.tup [(.str "one"), (.str "all"), (.str "gaps"), (.str "rest")])) (mNil)))))) (mNotT (mB (mCB (mLen 2 (fun ws => r_is_word j (ws ++ []))) (mCons (mVar 5) (mCons (mC (.tup [(.str "must"), (.str "may")])) (mNil)))))))) (mSeq (mRet (mC (.bl false))) (mSkip)) (mSkip)) (mSeq (mRet (mOrV (mBin (oC M .Is) (mVar 3) (mC (.non))) (mCB (mLen 3 (fun ws => r_is_number j (ws ++ []))) (mCons (mVar 3) (mCons (mC (.int (0))) (mCons (mBin (oB M .Sub) (mVar 1) (mC (.int (1)))) (mNil))))))) (mSkip))))
theorem sh_is_field (j : Nat) (ws : List W) (h : AHp) : r_is_field (j + 1) ws h = mFn 7 (s_is_field j (T.mo 40 (j + 1))) ws h := by kernel_rfl
def s_is_spare (j : Nat) (M : Mo) : MS := mSeq (mIfS (mB (mBin (oC M .Is) (mBin (oIx M) (mVar 1) (mC (.int (4)))) (mC (.non)))) (mSeq (mRet (mC (.bl true))) (mSkip)) (mSkip)) (mSeq (mIfS (mOrT (mNotT (mB (mCB (mLen 1 (fun ws => r_is_name j (ws ++ []))) (mCons (mBin (oIx M) (mVar 1) (mC (.int (4)))) (mNil))))) (mB (mBin (oC M .Eq) (mBin (oIx M) (mVar 1) (mC (.int (4)))) (mBin (oIx M) (mVar 1) (mC (.int (0))))))) (mSeq (mRet (mC (.bl false))) (mSkip)) (mSkip)) (mSeq (mFor (mItems (mVar 0)) (mgName 2) (mSeq (mIfS (mB (mBin (oC M .Eq) (mBin (oIx M) (mVar 2) (mC (.int (0)))) (mBin (oIx M) (mVar 1) (mC (.int (4)))))) (mSeq (mRet (mAndV (mBin (oC M .Eq) (mBin (oIx M) (mVar 2) (mC (.int (1)))) (mBin (oIx M) (mVar 1) (mC (.int (1))))) (mBin (oC M .Eq) (mBin (oC M .Eq) (mBin (oIx M) (mVar 2) (mC (.int (2)))) (mC (.str "one"))) (mBin (oC M .Eq) (mBin (oIx M) (mVar 1) (mC (.int (2)))) (mC (.str "one")))))) (mSkip)) (mSkip)) (mSkip))) (mSeq (mRet (mC (.bl false))) (mSkip))))
theorem sh_is_spare (j : Nat) (ws : List W) (h : AHp) : r_is_spare (j + 1) ws h = mFn 3 (s_is_spare j (T.mo 40 (j + 1))) ws h := by kernel_rfl
def s_is_kind (j : Nat) (M : Mo) : MS := mSeq (mIfS (mOrT (mNotT (mB (mUn (isiM M false (.ty "tuple")) (mVar 0)))) (mOrT (mNotT (mB (mChain (oC M .LtE) (oC M .LtE) (mC (.int (1))) (mCB (lenA M) (mCons (mVar 0) (mNil))) (mC (.int (4)))))) (mNotT (mB (mCB (fBs fun bs => bs.all id) (mCons (mComp (mItems (mVar 0)) (mgName 2) (mYes) (mCB (mLen 2 (fun ws => r_is_field j (ws ++ []))) (mCons (mVar 2) (mCons (mVar 1) (mNil)))) [2]) (mNil))))))) (mSeq (mRet (mC (.bl false))) (mSkip)) (mSkip)) (mSeq (mIfS (mB (mBin (oC M .Lt) (mLenSc (mItems (mVar 0)) (mgName 2) (mYes) (mBin (oIx M) (mVar 2) (mC (.int (0)))) [2]) (mCB (lenA M) (mCons (mVar 0) (mNil))))) (mSeq (mRet (mC (.bl false))) (mSkip)) (mSkip)) (mSeq (mRet (mCB (fBs fun bs => bs.all id) (mCons (mComp (mItems (mVar 0)) (mgName 2) (mYes) (mCB (mLen 2 (fun ws => r_is_spare j (ws ++ []))) (mCons (mVar 0) (mCons (mVar 2) (mNil)))) [2]) (mNil)))) (mSkip)))
theorem sh_is_kind (j : Nat) (ws : List W) (h : AHp) : r_is_kind (j + 1) ws h = mFn 3 (s_is_kind j (T.mo 40 (j + 1))) ws h := by kernel_rfl
def s_field_at (j : Nat) (M : Mo) : MS := mSeq (mRet (mIf (mB (mBin (oC M .In) (mVar 1) (mVar 0))) (mBin (oIx M) (mVar 0) (mVar 1)) (mC (.non)))) (mSkip)
theorem sh_field_at (j : Nat) (ws : List W) (h : AHp) : r_field_at (j + 1) ws h = mFn 2 (s_field_at j (T.mo 40 (j + 1))) ws h := by kernel_rfl
def s_check_schema (j : Nat) (M : Mo) : MS := mSeq (mIfS (mNotT (mB (mUn (isiM M false (.own "Schema")) (mVar 0)))) (mSeq (mRaiseL "BadSchema" "kind" (mC (.non))) (mSkip)) (mSkip)) (mSkip)
theorem sh_check_schema (j : Nat) (ws : List W) (h : AHp) : r_check_schema (j + 1) ws h = mFn 1 (s_check_schema j (T.mo 40 (j + 1))) ws h := by kernel_rfl
def s_kind_of (j : Nat) (M : Mo) : MS := mSeq (mIfS (mAndT (mB (mUn (isiM M false (.ty "tuple")) (mVar 1))) (mAndT (mB (mBin (oC M .Eq) (mCB (lenA M) (mCons (mVar 1) (mNil))) (mC (.int (2))))) (mB (mCB (mLen 3 (fun ws => r_is_number j (ws ++ []))) (mCons (mBin (oIx M) (mVar 1) (mC (.int (0)))) (mCons (mC (.int (0))) (mCons (mBin (oB M .Sub) (mCB (lenA M) (mCons (mVar 0) (mNil))) (mC (.int (1)))) (mNil)))))))) (mSeq (mRet (mBin (oIx M) (mVar 1) (mC (.int (0))))) (mSkip)) (mSkip)) (mSeq (mRet (mC (.non))) (mSkip))
theorem sh_kind_of (j : Nat) (ws : List W) (h : AHp) : r_kind_of (j + 1) ws h = mFn 2 (s_kind_of j (T.mo 40 (j + 1))) ws h := by kernel_rfl
def s_is_single (j : Nat) (M : Mo) : MS := mSeq (mIfS (mB (mBin (oC M .Is) (mVar 2) (mC (.non)))) (mSeq (mRet (mCB (mLen 3 (fun ws => r_is_number j (ws ++ []))) (mCons (mVar 3) (mCons (mC (.int (0))) (mCons (mC (.int (9))) (mNil)))))) (mSkip)) (mSkip)) (mSeq (mRet (mAndV (mCB (mLen 3 (fun ws => r_is_number j (ws ++ []))) (mCons (mVar 3) (mCons (mC (.int (0))) (mCons (mBin (oB M .Sub) (mCB (lenA M) (mCons (mVar 1) (mNil))) (mC (.int (1)))) (mNil))))) (mBin (oC M .Eq) (mCB (mLen 2 (fun ws => r_kind_of j (ws ++ []))) (mCons (mVar 0) (mCons (mBin (oIx M) (mVar 1) (mVar 3)) (mNil)))) (mVar 2)))) (mSkip))
theorem sh_is_single (j : Nat) (ws : List W) (h : AHp) : r_is_single (j + 1) ws h = mFn 4 (s_is_single j (T.mo 40 (j + 1))) ws h := by kernel_rfl
def s_is_value (j : Nat) (M : Mo) : MS := mSeq (mMatch (mBin (oIx M) (mVar 2) (mC (.int (2)))) [(some (mC (.str "one")), mSeq (mRet (mCB (mLen 4 (fun ws => r_is_single j (ws ++ []))) (mCons (mVar 0) (mCons (mVar 1) (mCons (mBin (oIx M) (mVar 2) (mC (.int (1)))) (mCons (mVar 3) (mNil))))))) (mSkip)), (none, mSeq (mIfS (mOrT (mNotT (mB (mUn (isiM M false (.ty "tuple")) (mVar 3)))) (mB (mBin (oC M .Gt) (mCB (lenA M) (mCons (mVar 3) (mNil))) (mC (.int (3)))))) (mSeq (mRet (mC (.bl false))) (mSkip)) (mSkip)) (mSkip))]) (mSeq (mRet (mCB (fBs fun bs => bs.all id) (mCons (mComp (mItems (mVar 3)) (mgName 4) (mYes) (mCB (mLen 4 (fun ws => r_is_single j (ws ++ []))) (mCons (mVar 0) (mCons (mVar 1) (mCons (mBin (oIx M) (mVar 2) (mC (.int (1)))) (mCons (mVar 4) (mNil)))))) [4]) (mNil)))) (mSkip))
theorem sh_is_value (j : Nat) (ws : List W) (h : AHp) : r_is_value (j + 1) ws h = mFn 5 (s_is_value j (T.mo 40 (j + 1))) ws h := by kernel_rfl
def s_is_object (j : Nat) (M : Mo) : MS := mSeq (mAsg (mCB (mLen 2 (fun ws => r_kind_of j (ws ++ []))) (mCons (mVar 0) (mCons (mVar 2) (mNil)))) (mgName 3)) (mSeq (mIfS (mOrT (mB (mBin (oC M .Is) (mVar 3) (mC (.non)))) (mOrT (mNotT (mB (mUn (isiM M false (.ty "tuple")) (mBin (oIx M) (mVar 2) (mC (.int (1))))))) (mB (mBin (oC M .NotEq) (mCB (lenA M) (mCons (mBin (oIx M) (mVar 2) (mC (.int (1)))) (mNil))) (mCB (lenA M) (mCons (mBin (oIx M) (mUn (attrM M "kinds") (mVar 0)) (mVar 3)) (mNil))))))) (mSeq (mRet (mC (.bl false))) (mSkip)) (mSkip)) (mSeq (mAsg (mBin (oIx M) (mUn (attrM M "kinds") (mVar 0)) (mVar 3)) (mgName 4)) (mSeq (mRet (mCB (fBs fun bs => bs.all id) (mCons (mComp (mZip (mCons (mVar 4) (mCons (mBin (oIx M) (mVar 2) (mC (.int (1)))) (mNil)))) (mgTup (mgCons (mgName 5) (mgCons (mgName 6) (mgNil))) 2) (mYes) (mCB (mLen 4 (fun ws => r_is_value j (ws ++ []))) (mCons (mVar 0) (mCons (mVar 1) (mCons (mVar 5) (mCons (mVar 6) (mNil)))))) [5, 6]) (mNil)))) (mSkip))))
theorem sh_is_object (j : Nat) (ws : List W) (h : AHp) : r_is_object (j + 1) ws h = mFn 7 (s_is_object j (T.mo 40 (j + 1))) ws h := by kernel_rfl
def s__law_cell_at (j : Nat) (M : Mo) : MS := mSeq (mIfS (mB (mBin (oC M .Lt) (mVar 1) (mCB (lenA M) (mCons (mVar 0) (mNil))))) (mSeq (mRet (mBin (oIx M) (mVar 0) (mVar 1))) (mSkip)) (mSkip)) (mSeq (mRet (mC (.int (0)))) (mSkip))
theorem sh__law_cell_at (j : Nat) (ws : List W) (h : AHp) : r__law_cell_at (j + 1) ws h = mFn 2 (s__law_cell_at j (T.mo 40 (j + 1))) ws h := by kernel_rfl
def s__law_draw (j : Nat) (M : Mo) : MS := mSeq (mAsg (mTup (mCons (mC (.int (1000003))) (mCons (mC (.int (1000033))) (mCons (mC (.int (1000037))) (mCons (mC (.int (1000039))) (mCons (mC (.int (1000081))) (mCons (mC (.int (1000099))) (mCons (mC (.int (1000117))) (mCons (mC (.int (1000121))) (mCons (mC (.int (1000133))) (mCons (mC (.int (1000151))) (mCons (mC (.int (1000159))) (mCons (mC (.int (1000171))) (mCons (mC (.int (1000183))) (mCons (mC (.int (1000187))) (mCons (mC (.int (1000193))) (mCons (mC (.int (1000199))) (mNil)))))))))))))))))) (mgName 3)) (mSeq (mRet (mBin (oB M .Mod) (mCB (fInt) (mCons (mBin (oB M .Mod) (mCB (fInt) (mCons (mBin (oB M .Add) (mBin (oB M .Mult) (mVar 0) (mC (.int (48271)))) (mBin (oB M .Mult) (mVar 1) (mC (.int (69621))))) (mNil))) (mBin (oIx M) (mVar 3) (mBin (oB M .Mod) (mCB (fInt) (mCons (mVar 1) (mNil))) (mC (.int (16)))))) (mNil))) (mVar 2))) (mSkip))
theorem sh__law_draw (j : Nat) (ws : List W) (h : AHp) : r__law_draw (j + 1) ws h = mFn 4 (s__law_draw j (T.mo 40 (j + 1))) ws h := by kernel_rfl
def s__law_number (j : Nat) (M : Mo) : MS := mSeq (mAsg (mC (.int (1))) (mgName 3)) (mSeq (mFor (mRng1 (mCons (mBin (oB M .Mod) (mCB (fInt) (mCons (mVar 1) (mNil))) (mC (.int (24)))) (mNil))) (mgName 4) (mSeq (mAsg (mBin (oB M .Mult) (mVar 3) (mC (.int (1009)))) (mgName 3)) (mSkip))) (mSeq (mAsg (mBin (oB M .FloorDiv) (mBin (oB M .Sub) (mVar 0) (mBin (oB M .Pow) (mC (.int (10))) (mC (.int (18))))) (mVar 3)) (mgName 5)) (mSeq (mIfS (mB (mBin (oC M .Gt) (mVar 5) (mC (.int (0))))) (mSeq (mRet (mBin (oB M .Mod) (mCB (fInt) (mCons (mBin (oB M .Mod) (mCB (fInt) (mCons (mVar 5) (mNil))) (mC (.int (1009)))) (mNil))) (mVar 2))) (mSkip)) (mSkip)) (mSeq (mAsg (mBin (oB M .Mod) (mCB (fInt) (mCons (mVar 0) (mNil))) (mC (.int (1000003)))) (mgName 6)) (mSeq (mRet (mBin (oB M .Mod) (mCB (fInt) (mCons (mCB (mLen 3 (fun ws => r__law_draw j (ws ++ []))) (mCons (mBin (oB M .Mult) (mBin (oB M .Add) (mVar 6) (mBin (oB M .Mult) (mC (.int (977))) (mVar 1))) (mBin (oB M .Add) (mBin (oB M .Add) (mVar 6) (mBin (oB M .Mult) (mC (.int (31))) (mVar 1))) (mC (.int (5))))) (mCons (mBin (oB M .Add) (mBin (oB M .Mod) (mCB (fInt) (mCons (mVar 1) (mNil))) (mC (.int (9)))) (mC (.int (1)))) (mCons (mC (.int (999983))) (mNil))))) (mNil))) (mVar 2))) (mSkip))))))
theorem sh__law_number (j : Nat) (ws : List W) (h : AHp) : r__law_number (j + 1) ws h = mFn 7 (s__law_number j (T.mo 40 (j + 1))) ws h := by kernel_rfl
def s__law_next (j : Nat) (M : Mo) : MS := mSeq (mPut (mBin (oB M .Add) (mBin (oIx M) (mVar 0) (mC (.int (2)))) (mC (.int (1)))) (mVar 0) (mC (.int (2)))) (mSeq (mAsg (mBin (oB M .FloorDiv) (mBin (oIx M) (mVar 0) (mC (.int (2)))) (mC (.int (12)))) (mgName 2)) (mSeq (mAsg (mBin (oB M .Add) (mCB (mLen 2 (fun ws => r__law_cell_at j (ws ++ []))) (mCons (mBin (oIx M) (mVar 0) (mC (.int (0)))) (mCons (mBin (oB M .Add) (mBin (oIx M) (mVar 0) (mC (.int (1)))) (mVar 2)) (mNil)))) (mBin (oB M .Mult) (mC (.int (31))) (mVar 2))) (mgName 3)) (mSeq (mRet (mCB (mLen 3 (fun ws => r__law_number j (ws ++ []))) (mCons (mVar 3) (mCons (mBin (oB M .Add) (mBin (oB M .Mod) (mCB (fInt) (mCons (mBin (oIx M) (mVar 0) (mC (.int (2)))) (mNil))) (mC (.int (12)))) (mC (.int (1)))) (mCons (mVar 1) (mNil)))))) (mSkip))))
theorem sh__law_next (j : Nat) (ws : List W) (h : AHp) : r__law_next (j + 1) ws h = mFn 4 (s__law_next j (T.mo 40 (j + 1))) ws h := by kernel_rfl
def s__law_pick (j : Nat) (M : Mo) : MS := mSeq (mRet (mBin (oIx M) (mVar 1) (mCB (mLen 2 (fun ws => r__law_next j (ws ++ []))) (mCons (mVar 0) (mCons (mCB (lenA M) (mCons (mVar 1) (mNil))) (mNil)))))) (mSkip)
theorem sh__law_pick (j : Nat) (ws : List W) (h : AHp) : r__law_pick (j + 1) ws h = mFn 2 (s__law_pick j (T.mo 40 (j + 1))) ws h := by kernel_rfl
def s__law_pairs (j : Nat) (M : Mo) : MS := mSeq (mAsg (mLst (mNil)) (mgName 1)) (mSeq (mFor (mRng1 (mCons (mVar 0) (mNil))) (mgName 2) (mSeq (mAsg (mBin (oB M .Add) (mVar 1) (mComp (mItems (mC (.str "abcdef"))) (mgName 3) (mYes) (mTup (mCons (mVar 2) (mCons (mVar 3) (mNil)))) [3])) (mgName 1)) (mSkip))) (mSeq (mRet (mVar 1)) (mSkip)))
theorem sh__law_pairs (j : Nat) (ws : List W) (h : AHp) : r__law_pairs (j + 1) ws h = mFn 4 (s__law_pairs j (T.mo 40 (j + 1))) ws h := by kernel_rfl
def s__law_field (j : Nat) (M : Mo) : MS := mSeq (mIfS (mAndT (mB (mBin (oC M .IsNot) (mVar 3) (mC (.non)))) (mB (mBin (oC M .Lt) (mCB (mLen 2 (fun ws => r__law_next j (ws ++ []))) (mCons (mVar 0) (mCons (mC (.int (5))) (mNil)))) (mC (.int (3)))))) (mSeq (mPar [4, 5] (mCons (mBin (oIx M) (mVar 3) (mC (.int (1)))) (mCons (mBin (oIx M) (mVar 3) (mC (.int (2)))) (mNil)))) (mSkip)) (mSeq (mAsg (mCB (mLen 2 (fun ws => r__law_pick j (ws ++ []))) (mCons (mVar 0) (mCons (mBin (oB M .Add) (mLst (mCons (mC (.non)) (mNil))) (mBin (oB M .Mult) (mLstRg1 (mVar 1)) (mC (.int (2))))) (mNil)))) (mgName 4)) (mSeq (mAsg (mCB (mLen 2 (fun ws => r__law_pick j (ws ++ []))) (mCons (mVar 0) (mCons (mLst (mCons (mC (.str "one")) (mCons (mC (.str "one")) (mCons (mC (.str "all")) (mCons (mC (.str "gaps")) (mCons (mC (.str "rest")) (mNil))))))) (mNil)))) (mgName 5)) (mSkip)))) (mSeq (mIfS (mB (mBin (oC M .NotEq) (mVar 5) (mC (.str "one")))) (mSeq (mAsg (mCB (mLen 2 (fun ws => r__law_pick j (ws ++ []))) (mCons (mVar 0) (mCons (mLst (mCons (mC (.str "all")) (mCons (mC (.str "gaps")) (mCons (mC (.str "rest")) (mNil))))) (mNil)))) (mgName 5)) (mSkip)) (mSkip)) (mSeq (mRet (mTup (mCons (mVar 2) (mCons (mVar 4) (mCons (mVar 5) (mCons (mCB (mLen 2 (fun ws => r__law_pick j (ws ++ []))) (mCons (mVar 0) (mCons (mLst (mCons (mC (.str "must")) (mCons (mC (.str "must")) (mCons (mC (.str "may")) (mNil))))) (mNil)))) (mCons (mC (.non)) (mNil)))))))) (mSkip)))
theorem sh__law_field (j : Nat) (ws : List W) (h : AHp) : r__law_field (j + 1) ws h = mFn 6 (s__law_field j (T.mo 40 (j + 1))) ws h := by kernel_rfl
def s__law_spared (j : Nat) (M : Mo) : MS := mSeq (mAsg (mLstR (mNil)) (mgName 2)) (mSeq (mFor (mItems (mVar 1)) (mgName 3) (mSeq (mAsg (mComp (mItems (mVar 1)) (mgName 6) (mAndT (mB (mBin (oC M .NotEq) (mBin (oIx M) (mVar 6) (mC (.int (0)))) (mBin (oIx M) (mVar 3) (mC (.int (0)))))) (mB (mBin (oC M .Eq) (mBin (oIx M) (mVar 6) (mC (.int (1)))) (mBin (oIx M) (mVar 3) (mC (.int (1))))))) (mVar 6) [6]) (mgName 4)) (mSeq (mAsg (mComp (mItems (mVar 4)) (mgName 6) (mB (mBin (oC M .Eq) (mBin (oC M .Eq) (mBin (oIx M) (mVar 6) (mC (.int (2)))) (mC (.str "one"))) (mBin (oC M .Eq) (mBin (oIx M) (mVar 3) (mC (.int (2)))) (mC (.str "one"))))) (mBin (oIx M) (mVar 6) (mC (.int (0)))) [6]) (mgName 4)) (mSeq (mAsg (mC (.non)) (mgName 5)) (mSeq (mIfS (mAndT (mB (mBin (oC M .NotEq) (mVar 4) (mLst (mNil)))) (mB (mBin (oC M .Gt) (mCB (mLen 2 (fun ws => r__law_next j (ws ++ []))) (mCons (mVar 0) (mCons (mC (.int (3))) (mNil)))) (mC (.int (0)))))) (mSeq (mAsg (mCB (mLen 2 (fun ws => r__law_pick j (ws ++ []))) (mCons (mVar 0) (mCons (mBin (oB M .Add) (mVar 4) (mLst (mCons (mC (.non)) (mNil)))) (mNil)))) (mgName 5)) (mSkip)) (mSkip)) (mSeq (mExpr (mMthA M "append" 2 (mVar 2) (mCons (mBin (oB M .Add) (mSlice (mVar 3) (mNoPart) (mPart (mC (.int (4))))) (mTup (mCons (mVar 5) (mNil)))) (mNil)))) (mSkip))))))) (mSeq (mRet (mCB (fTuple) (mCons (mVar 2) (mNil)))) (mSkip)))
theorem sh__law_spared (j : Nat) (ws : List W) (h : AHp) : r__law_spared (j + 1) ws h = mFn 7 (s__law_spared j (T.mo 40 (j + 1))) ws h := by kernel_rfl
def s__law_kinds (j : Nat) (M : Mo) : MS := mSeq (mPar [3, 4] (mCons (mBin (oB M .Add) (mC (.int (1))) (mCB (mLen 2 (fun ws => r__law_next j (ws ++ []))) (mCons (mVar 0) (mCons (mC (.int (3))) (mNil))))) (mCons (mLstR (mNil)) (mNil)))) (mSeq (mFor (mRng1 (mCons (mVar 3) (mNil))) (mgName 2) (mSeq (mPar [6, 7] (mCons (mCB (mLen 2 (fun ws => r__law_next j (ws ++ []))) (mCons (mVar 0) (mCons (mC (.int (6))) (mNil)))) (mCons (mLstR (mNil)) (mNil)))) (mSeq (mFor (mRng1 (mCons (mBin (oB M .Add) (mC (.int (2))) (mCB (mLen 2 (fun ws => r__law_next j (ws ++ []))) (mCons (mVar 0) (mCons (mBin (oB M .Sub) (mVar 1) (mC (.int (1)))) (mNil))))) (mNil))) (mgName 5) (mSeq (mAsg (mBin (oIx M) (mC (.str "abcdef")) (mBin (oB M .Mod) (mCB (fInt) (mCons (mBin (oB M .Add) (mVar 6) (mVar 5)) (mNil))) (mC (.int (6))))) (mgName 8)) (mSeq (mAsg (mIf (mB (mBin (oC M .NotEq) (mVar 7) (mLst (mNil)))) (mBin (oIx M) (mVar 7) (mNeg (mC (.int (1))))) (mC (.non))) (mgName 9)) (mSeq (mAsg (mTup (mCons (mVar 8) (mCons (mC (.non)) (mCons (mC (.str "one")) (mCons (mCB (mLen 2 (fun ws => r__law_pick j (ws ++ []))) (mCons (mVar 0) (mCons (mLst (mCons (mC (.str "must")) (mCons (mC (.str "may")) (mNil)))) (mNil)))) (mCons (mC (.non)) (mNil))))))) (mgName 10)) (mSeq (mIfS (mB (mBin (oC M .Gt) (mVar 5) (mC (.int (0))))) (mSeq (mAsg (mCB (mLen 4 (fun ws => r__law_field j (ws ++ []))) (mCons (mVar 0) (mCons (mVar 3) (mCons (mVar 8) (mCons (mVar 9) (mNil)))))) (mgName 10)) (mSkip)) (mSkip)) (mSeq (mExpr (mMthA M "append" 2 (mVar 7) (mCons (mVar 10) (mNil)))) (mSkip))))))) (mSeq (mExpr (mMthA M "append" 2 (mVar 4) (mCons (mCB (mLen 2 (fun ws => r__law_spared j (ws ++ []))) (mCons (mVar 0) (mCons (mFrzQ (mVar 7)) (mNil)))) (mNil)))) (mSkip))))) (mSeq (mRet (mCB (fTuple) (mCons (mVar 4) (mNil)))) (mSkip)))
theorem sh__law_kinds (j : Nat) (ws : List W) (h : AHp) : r__law_kinds (j + 1) ws h = mFn 11 (s__law_kinds j (T.mo 40 (j + 1))) ws h := by kernel_rfl
def s__law_value (j : Nat) (M : Mo) : MS := mSeq (mAsg (mLstRg1 (mC (.int (10)))) (mgName 3)) (mSeq (mIfS (mB (mBin (oC M .IsNot) (mBin (oIx M) (mVar 2) (mC (.int (1)))) (mC (.non)))) (mSeq (mAsg (mComp (mRng1 (mCons (mCB (lenA M) (mCons (mVar 1) (mNil))) (mNil))) (mgName 4) (mB (mBin (oC M .Eq) (mBin (oIx M) (mVar 1) (mVar 4)) (mBin (oIx M) (mVar 2) (mC (.int (1)))))) (mVar 4) [4]) (mgName 3)) (mSkip)) (mSkip)) (mSeq (mIfS (mB (mBin (oC M .Eq) (mBin (oIx M) (mVar 2) (mC (.int (2)))) (mC (.str "one")))) (mSeq (mRet (mCB (mLen 2 (fun ws => r__law_pick j (ws ++ []))) (mCons (mVar 0) (mCons (mVar 3) (mNil))))) (mSkip)) (mSkip)) (mSeq (mRet (mCB (fTuple) (mCons (mComp (mRng1 (mCons (mCB (mLen 2 (fun ws => r__law_pick j (ws ++ []))) (mCons (mVar 0) (mCons (mLst (mCons (mC (.int (1))) (mCons (mC (.int (2))) (mCons (mC (.int (1))) (mCons (mC (.int (2))) (mCons (mC (.int (0))) (mCons (mC (.int (3))) (mNil)))))))) (mNil)))) (mNil))) (mgName 5) (mYes) (mCB (mLen 2 (fun ws => r__law_pick j (ws ++ []))) (mCons (mVar 0) (mCons (mVar 3) (mNil)))) [5]) (mNil)))) (mSkip))))
theorem sh__law_value (j : Nat) (ws : List W) (h : AHp) : r__law_value (j + 1) ws h = mFn 6 (s__law_value j (T.mo 40 (j + 1))) ws h := by kernel_rfl
def s__law_objects (j : Nat) (M : Mo) : MS := mSeq (mAsg (mLstRgR (mCB (lenA M) (mCons (mVar 1) (mNil)))) (mgName 3)) (mSeq (mFor (mRng1 (mCons (mCB (mLen 2 (fun ws => r__law_next j (ws ++ []))) (mCons (mVar 0) (mCons (mVar 2) (mNil)))) (mNil))) (mgName 4) (mSeq (mExpr (mMthA M "append" 2 (mVar 3) (mCons (mCB (mLen 2 (fun ws => r__law_next j (ws ++ []))) (mCons (mVar 0) (mCons (mCB (lenA M) (mCons (mVar 1) (mNil))) (mNil)))) (mNil)))) (mSkip))) (mFzs [3] (mSeq (mAsg (mLstR (mNil)) (mgName 5)) (mSeq (mFor (mItems (mFrzQ (mVar 3))) (mgName 6) (mSeq (mExpr (mMthA M "append" 2 (mVar 5) (mCons (mTup (mCons (mVar 6) (mCons (mCB (fTuple) (mCons (mComp (mItems (mBin (oIx M) (mVar 1) (mVar 6))) (mgName 7) (mYes) (mCB (mLen 3 (fun ws => r__law_value j (ws ++ []))) (mCons (mVar 0) (mCons (mFrzQ (mVar 3)) (mCons (mVar 7) (mNil))))) [7]) (mNil))) (mNil)))) (mNil)))) (mSkip))) (mSeq (mRet (mCB (fTuple) (mCons (mVar 5) (mNil)))) (mSkip))))))
theorem sh__law_objects (j : Nat) (ws : List W) (h : AHp) : r__law_objects (j + 1) ws h = mFn 8 (s__law_objects j (T.mo 40 (j + 1))) ws h := by kernel_rfl
def s__law_is_single (j : Nat) (M : Mo) : MS := mSeq (mIfS (mB (mBin (oC M .Is) (mVar 2) (mC (.non)))) (mSeq (mRet (mChain (oC M .LtE) (oC M .LtE) (mC (.int (0))) (mVar 3) (mC (.int (9))))) (mSkip)) (mSkip)) (mSeq (mRet (mAndV (mChain (oC M .LtE) (oC M .Lt) (mC (.int (0))) (mVar 3) (mCB (lenA M) (mCons (mVar 1) (mNil)))) (mBin (oC M .Eq) (mBin (oIx M) (mBin (oIx M) (mVar 1) (mVar 3)) (mC (.int (0)))) (mVar 2)))) (mSkip))
theorem sh__law_is_single (j : Nat) (ws : List W) (h : AHp) : r__law_is_single (j + 1) ws h = mFn 4 (s__law_is_single j (T.mo 40 (j + 1))) ws h := by kernel_rfl
def s__law_is_object (j : Nat) (M : Mo) : MS := mSeq (mAsg (mBin (oIx M) (mVar 1) (mVar 2)) (mgTup (mgCons (mgName 3) (mgCons (mgName 4) (mgNil))) 2)) (mSeq (mIfS (mOrT (mNotT (mB (mChain (oC M .LtE) (oC M .Lt) (mC (.int (0))) (mVar 3) (mCB (lenA M) (mCons (mVar 0) (mNil)))))) (mOrT (mAndT (mB (mBin (oC M .Eq) (mVar 2) (mC (.int (0))))) (mB (mBin (oC M .NotEq) (mVar 3) (mC (.int (0)))))) (mB (mBin (oC M .NotEq) (mCB (lenA M) (mCons (mVar 4) (mNil))) (mCB (lenA M) (mCons (mBin (oIx M) (mVar 0) (mVar 3)) (mNil))))))) (mSeq (mRet (mC (.bl false))) (mSkip)) (mSkip)) (mSeq (mFor (mZip (mCons (mBin (oIx M) (mVar 0) (mVar 3)) (mCons (mVar 4) (mNil)))) (mgTup (mgCons (mgName 5) (mgCons (mgName 6) (mgNil))) 2) (mSeq (mIfS (mB (mBin (oC M .Eq) (mBin (oIx M) (mVar 5) (mC (.int (2)))) (mC (.str "one")))) (mSeq (mIfS (mOrT (mB (mUn (isiM M false (.ty "tuple")) (mVar 6))) (mNotT (mB (mCB (mLen 4 (fun ws => r__law_is_single j (ws ++ []))) (mCons (mVar 0) (mCons (mVar 1) (mCons (mBin (oIx M) (mVar 5) (mC (.int (1)))) (mCons (mVar 6) (mNil))))))))) (mSeq (mRet (mC (.bl false))) (mSkip)) (mSkip)) (mSkip)) (mSeq (mIfS (mOrT (mNotT (mB (mUn (isiM M false (.ty "tuple")) (mVar 6)))) (mB (mBin (oC M .Gt) (mCB (lenA M) (mCons (mVar 6) (mNil))) (mC (.int (3)))))) (mSeq (mRet (mC (.bl false))) (mSkip)) (mSkip)) (mSeq (mIfS (mNotT (mB (mCB (fBs fun bs => bs.all id) (mCons (mComp (mItems (mVar 6)) (mgName 7) (mYes) (mCB (mLen 4 (fun ws => r__law_is_single j (ws ++ []))) (mCons (mVar 0) (mCons (mVar 1) (mCons (mBin (oIx M) (mVar 5) (mC (.int (1)))) (mCons (mVar 7) (mNil)))))) [7]) (mNil))))) (mSeq (mRet (mC (.bl false))) (mSkip)) (mSkip)) (mSkip)))) (mSkip))) (mSeq (mRet (mC (.bl true))) (mSkip))))
theorem sh__law_is_object (j : Nat) (ws : List W) (h : AHp) : r__law_is_object (j + 1) ws h = mFn 8 (s__law_is_object j (T.mo 40 (j + 1))) ws h := by kernel_rfl
def s__law_changed (j : Nat) (M : Mo) : MS := mSeq (mAsg (mCB (mLen 2 (fun ws => r__law_next j (ws ++ []))) (mCons (mVar 0) (mCons (mCB (lenA M) (mCons (mVar 1) (mNil))) (mNil)))) (mgName 2)) (mSeq (mAsg (mBin (oIx M) (mVar 1) (mVar 2)) (mgTup (mgCons (mgName 4) (mgCons (mgName 5) (mgNil))) 2)) (mSeq (mPar [6, 7] (mCons (mCB (mLen 2 (fun ws => r__law_next j (ws ++ []))) (mCons (mVar 0) (mCons (mC (.int (5))) (mNil)))) (mCons (mCB (mLen 2 (fun ws => r__law_pick j (ws ++ []))) (mCons (mVar 0) (mCons (mLst (mCons (mC (.int (0))) (mCons (mC (.int (1))) (mCons (mC (.int (2))) (mCons (mC (.int (3))) (mCons (mC (.int (5))) (mCons (mC (.int (9))) (mCons (mC (.int (10))) (mCons (mNeg (mC (.int (1)))) (mNil)))))))))) (mNil)))) (mNil)))) (mSeq (mAsg (mCB (mLen 2 (fun ws => r__law_next j (ws ++ []))) (mCons (mVar 0) (mCons (mCB (lenA M) (mCons (mVar 5) (mNil))) (mNil)))) (mgName 3)) (mSeq (mIfS (mB (mBin (oC M .Eq) (mVar 6) (mC (.int (0))))) (mSeq (mAsg (mTup (mCons (mCB (mLen 2 (fun ws => r__law_pick j (ws ++ []))) (mCons (mVar 0) (mCons (mLst (mCons (mC (.int (0))) (mCons (mC (.int (1))) (mCons (mC (.int (2))) (mCons (mC (.int (3))) (mNil)))))) (mNil)))) (mCons (mVar 5) (mNil)))) (mgName 8)) (mSkip)) (mSeq (mIfS (mB (mBin (oC M .Eq) (mVar 6) (mC (.int (1))))) (mSeq (mAsg (mTup (mCons (mVar 4) (mCons (mIf (mB (mBin (oC M .Eq) (mCB (mLen 2 (fun ws => r__law_next j (ws ++ []))) (mCons (mVar 0) (mCons (mC (.int (2))) (mNil)))) (mC (.int (0))))) (mSlice (mVar 5) (mNoPart) (mPart (mNeg (mC (.int (1)))))) (mBin (oB M .Add) (mVar 5) (mTup (mCons (mC (.int (0))) (mNil))))) (mNil)))) (mgName 8)) (mSkip)) (mSeq (mIfS (mB (mBin (oC M .Eq) (mVar 6) (mC (.int (2))))) (mSeq (mAsg (mTup (mCons (mVar 4) (mCons (mBin (oB M .Add) (mBin (oB M .Add) (mSlice (mVar 5) (mNoPart) (mPart (mVar 3))) (mTup (mCons (mVar 7) (mNil)))) (mSlice (mVar 5) (mPart (mBin (oB M .Add) (mVar 3) (mC (.int (1))))) (mNoPart))) (mNil)))) (mgName 8)) (mSkip)) (mSeq (mIfS (mB (mBin (oC M .Eq) (mVar 6) (mC (.int (3))))) (mSeq (mAsg (mBin (oB M .Mult) (mTup (mCons (mVar 7) (mNil))) (mCB (mLen 2 (fun ws => r__law_next j (ws ++ []))) (mCons (mVar 0) (mCons (mC (.int (5))) (mNil))))) (mgName 9)) (mSeq (mAsg (mTup (mCons (mVar 4) (mCons (mBin (oB M .Add) (mBin (oB M .Add) (mSlice (mVar 5) (mNoPart) (mPart (mVar 3))) (mTup (mCons (mVar 9) (mNil)))) (mSlice (mVar 5) (mPart (mBin (oB M .Add) (mVar 3) (mC (.int (1))))) (mNoPart))) (mNil)))) (mgName 8)) (mSkip))) (mSeq (mRet (mIf (mB (mBin (oC M .Eq) (mCB (mLen 2 (fun ws => r__law_next j (ws ++ []))) (mCons (mVar 0) (mCons (mC (.int (2))) (mNil)))) (mC (.int (0))))) (mBin (oB M .Mult) (mVar 1) (mC (.int (4)))) (mSlice (mVar 1) (mPart (mC (.int (1)))) (mNoPart)))) (mSkip))) (mSkip))) (mSkip))) (mSkip))) (mSeq (mRet (mBin (oB M .Add) (mBin (oB M .Add) (mSlice (mVar 1) (mNoPart) (mPart (mVar 2))) (mTup (mCons (mVar 8) (mNil)))) (mSlice (mVar 1) (mPart (mBin (oB M .Add) (mVar 2) (mC (.int (1))))) (mNoPart)))) (mSkip))))))
theorem sh__law_changed (j : Nat) (ws : List W) (h : AHp) : r__law_changed (j + 1) ws h = mFn 10 (s__law_changed j (T.mo 40 (j + 1))) ws h := by kernel_rfl
def s__law_made (j : Nat) (M : Mo) : MS := mSeq (mTry (fun c => M.exm c "BadStore") (some 2) (mSeq (mRet (mMake "Store" 3 (fun ws => r_Store___init__ j (ws ++ [])) (mCons (mVar 0) (mCons (mVar 1) (mNil))))) (mSkip)) (mSeq (mRet (mTup (mCons (mC (.str "wrong")) (mCons (mUn (attrX M "index") (mVar 2)) (mNil))))) (mSkip))) (mSkip)
theorem sh__law_made (j : Nat) (ws : List W) (h : AHp) : r__law_made (j + 1) ws h = mFn 3 (s__law_made j (T.mo 40 (j + 1))) ws h := by kernel_rfl
def s__law_due (j : Nat) (M : Mo) : MS := mSeq (mIfS (mNotT (mB (mChain (oC M .LtE) (oC M .LtE) (mC (.int (1))) (mCB (lenA M) (mCons (mVar 1) (mNil))) (mC (.int (6)))))) (mSeq (mRet (mTup (mCons (mC (.str "wrong")) (mCons (mC (.non)) (mNil))))) (mSkip)) (mSkip)) (mSeq (mAsg (mComp (mRng1 (mCons (mCB (lenA M) (mCons (mVar 1) (mNil))) (mNil))) (mgName 3) (mNotT (mB (mCB (mLen 3 (fun ws => r__law_is_object j (ws ++ []))) (mCons (mVar 0) (mCons (mVar 1) (mCons (mVar 3) (mNil))))))) (mVar 3) [3]) (mgName 2)) (mSeq (mRet (mIf (mB (mBin (oC M .NotEq) (mVar 2) (mLst (mNil)))) (mTup (mCons (mC (.str "wrong")) (mCons (mBin (oIx M) (mVar 2) (mC (.int (0)))) (mNil)))) (mC (.non)))) (mSkip)))
theorem sh__law_due (j : Nat) (ws : List W) (h : AHp) : r__law_due (j + 1) ws h = mFn 4 (s__law_due j (T.mo 40 (j + 1))) ws h := by kernel_rfl
def s__law_value_of (j : Nat) (M : Mo) : MS := mSeq (mAsg (mVar 2) (mgTup (mgCons (mgName 3) (mgCons (mgName 4) (mgNil))) 2)) (mSeq (mIfS (mB (mBin (oC M .GtE) (mVar 3) (mCB (lenA M) (mCons (mVar 1) (mNil))))) (mSeq (mRet (mLst (mNil))) (mSkip)) (mSkip)) (mSeq (mAsg (mBin (oIx M) (mVar 1) (mVar 3)) (mgTup (mgCons (mgName 5) (mgCons (mgName 6) (mgNil))) 2)) (mSeq (mRet (mComp (mZip (mCons (mBin (oIx M) (mVar 0) (mVar 5)) (mCons (mVar 6) (mNil)))) (mgTup (mgCons (mgName 7) (mgCons (mgName 8) (mgNil))) 2) (mB (mBin (oC M .Eq) (mBin (oIx M) (mVar 7) (mC (.int (0)))) (mVar 4))) (mVar 8) [7, 8])) (mSkip))))
theorem sh__law_value_of (j : Nat) (ws : List W) (h : AHp) : r__law_value_of (j + 1) ws h = mFn 9 (s__law_value_of j (T.mo 40 (j + 1))) ws h := by kernel_rfl
def s__law_asked (j : Nat) (M : Mo) : MS := mSeq (mTry (fun c => M.exm c "BadCell") (none) (mSeq (mRet (mLst (mCons (mBin (oIx M) (mVar 0) (mTup (mCons (mBin (oIx M) (mVar 1) (mC (.int (0)))) (mCons (mBin (oIx M) (mVar 1) (mC (.int (1)))) (mNil))))) (mNil)))) (mSkip)) (mSeq (mRet (mLst (mNil))) (mSkip))) (mSkip)
theorem sh__law_asked (j : Nat) (ws : List W) (h : AHp) : r__law_asked (j + 1) ws h = mFn 2 (s__law_asked j (T.mo 40 (j + 1))) ws h := by kernel_rfl
def s__law_store_right (j : Nat) (M : Mo) : MS := mSeq (mAsg (mCB (mLen 1 (fun ws => r__law_pairs j (ws ++ []))) (mCons (mC (.int (6))) (mNil))) (mgName 3)) (mSeq (mAsg (mComp (mItems (mVar 3)) (mgName 5) (mYes) (mCB (mLen 3 (fun ws => r__law_value_of j (ws ++ []))) (mCons (mVar 0) (mCons (mVar 1) (mCons (mVar 5) (mNil))))) [5]) (mgName 4)) (mSeq (mIfS (mOrT (mB (mBin (oC M .NotEq) (mUn (attrM M "objects") (mVar 2)) (mVar 1))) (mOrT (mNotT (mB (mBin (oC M .Eq) (mUn (attrM M "schema") (mVar 2)) (mMake "Schema" 2 (fun ws => r_Schema___init__ j (ws ++ [])) (mCons (mVar 0) (mNil)))))) (mB (mBin (oC M .NotEq) (mCB (lenA M) (mCons (mVar 2) (mNil))) (mCB (lenA M) (mCons (mVar 1) (mNil))))))) (mSeq (mRet (mC (.bl false))) (mSkip)) (mSkip)) (mSeq (mIfS (mB (mBin (oC M .NotEq) (mComp (mItems (mVar 3)) (mgName 5) (mYes) (mCB (mLen 2 (fun ws => r__law_asked j (ws ++ []))) (mCons (mVar 2) (mCons (mVar 5) (mNil)))) [5]) (mVar 4))) (mSeq (mRet (mC (.bl false))) (mSkip)) (mSkip)) (mSeq (mIfS (mB (mBin (oC M .NotEq) (mComp (mItems (mVar 3)) (mgName 5) (mYes) (mBin (oC M .In) (mVar 5) (mVar 2)) [5]) (mComp (mItems (mVar 4)) (mgName 6) (mYes) (mBin (oC M .NotEq) (mVar 6) (mLst (mNil))) [6]))) (mSeq (mRet (mC (.bl false))) (mSkip)) (mSkip)) (mSeq (mRet (mBin (oC M .Eq) (mUn (attrM M "cells") (mVar 2)) (mComp (mItems (mVar 3)) (mgName 5) (mB (mBin (oC M .NotEq) (mCB (mLen 3 (fun ws => r__law_value_of j (ws ++ []))) (mCons (mVar 0) (mCons (mVar 1) (mCons (mVar 5) (mNil))))) (mLst (mNil)))) (mVar 5) [5]))) (mSkip))))))
theorem sh__law_store_right (j : Nat) (ws : List W) (h : AHp) : r__law_store_right (j + 1) ws h = mFn 7 (s__law_store_right j (T.mo 40 (j + 1))) ws h := by kernel_rfl
def s_law (j : Nat) (M : Mo) : MS := mSeq (mAsg (mSlice (mVar 0) (mNoPart) (mPart (mC (.int (63))))) (mgName 0)) (mSeq (mFor (mRng3 (mCons (mC (.int (0))) (mCons (mCB (fMax2) (mCons (mC (.int (1))) (mCons (mCB (fMin2) (mCons (mC (.int (12))) (mCons (mCB (lenA M) (mCons (mVar 0) (mNil))) (mNil)))) (mNil)))) (mCons (mC (.int (3))) (mNil))))) (mgName 1) (mSeq (mPar [3, 4] (mCons (mLstR (mCons (mVar 0) (mCons (mVar 1) (mCons (mC (.int (0))) (mNil))))) (mCons (mC (.non)) (mNil)))) (mSeq (mFor (mRng1 (mCons (mC (.int (6))) (mNil))) (mgName 2) (mSeq (mAsg (mCB (mLen 2 (fun ws => r__law_kinds j (ws ++ []))) (mCons (mVar 3) (mCons (mC (.int (3))) (mNil)))) (mgName 5)) (mSeq (mAsg (mCB (mLen 3 (fun ws => r__law_objects j (ws ++ []))) (mCons (mVar 3) (mCons (mVar 5) (mCons (mC (.int (4))) (mNil))))) (mgName 6)) (mSeq (mAsg (mIf (mB (mBin (oC M .Lt) (mVar 2) (mC (.int (2))))) (mVar 6) (mCB (mLen 2 (fun ws => r__law_changed j (ws ++ []))) (mCons (mVar 3) (mCons (mVar 6) (mNil))))) (mgName 6)) (mSeq (mPar [7, 8] (mCons (mCB (mLen 2 (fun ws => r__law_due j (ws ++ []))) (mCons (mVar 5) (mCons (mVar 6) (mNil)))) (mCons (mCB (mLen 2 (fun ws => r__law_made j (ws ++ []))) (mCons (mMake "Schema" 2 (fun ws => r_Schema___init__ j (ws ++ [])) (mCons (mVar 5) (mNil))) (mCons (mVar 6) (mNil)))) (mNil)))) (mSeq (mIfS (mOrT (mB (mBin (oC M .IsNot) (mVar 7) (mC (.non)))) (mNotT (mB (mUn (isiM M false (.own "Store")) (mVar 8))))) (mSeq (mIfS (mOrT (mB (mUn (isiM M false (.own "Store")) (mVar 8))) (mB (mBin (oC M .NotEq) (mVar 8) (mVar 7)))) (mSeq (mRet (mC (.bl false))) (mSkip)) (mSkip)) (mSkip)) (mSeq (mIfS (mNotT (mB (mCB (mLen 3 (fun ws => r__law_store_right j (ws ++ []))) (mCons (mVar 5) (mCons (mVar 6) (mCons (mVar 8) (mNil))))))) (mSeq (mRet (mC (.bl false))) (mSkip)) (mSkip)) (mSeq (mIfS (mNotT (mB (mBin (oC M .Eq) (mVar 8) (mMake "Store" 3 (fun ws => r_Store___init__ j (ws ++ [])) (mCons (mMake "Schema" 2 (fun ws => r_Schema___init__ j (ws ++ [])) (mCons (mVar 5) (mNil))) (mCons (mVar 6) (mNil))))))) (mSeq (mRet (mC (.bl false))) (mSkip)) (mSkip)) (mSeq (mIfS (mB (mBin (oC M .IsNot) (mVar 4) (mC (.non)))) (mSeq (mAsg (mBin (oC M .Eq) (mTup (mCons (mUn (attrM M "objects") (mVar 4)) (mCons (mUn (attrM M "kinds") (mUn (attrM M "schema") (mVar 4))) (mNil)))) (mTup (mCons (mVar 6) (mCons (mVar 5) (mNil))))) (mgName 9)) (mSeq (mIfS (mB (mBin (oC M .NotEq) (mBin (oC M .Eq) (mVar 8) (mVar 4)) (mVar 9))) (mSeq (mRet (mC (.bl false))) (mSkip)) (mSkip)) (mSkip))) (mSkip)) (mSeq (mAsg (mVar 8) (mgName 4)) (mSkip)))))) (mSkip))))))) (mSkip)))) (mSeq (mRet (mC (.bl true))) (mSkip)))
theorem sh_law (j : Nat) (ws : List W) (h : AHp) : r_law (j + 1) ws h = mFn 10 (s_law j (T.mo 40 (j + 1))) ws h := by kernel_rfl
def s_Schema___init__ (j : Nat) (M : Mo) : MS := mSeq (mIfS (mOrT (mNotT (mB (mUn (isiM M false (.ty "tuple")) (mVar 1)))) (mNotT (mB (mChain (oC M .LtE) (oC M .LtE) (mC (.int (1))) (mCB (lenA M) (mCons (mVar 1) (mNil))) (mC (.int (3))))))) (mSeq (mRaiseL "BadSchema" "kind" (mC (.non))) (mSkip)) (mSkip)) (mSeq (mIfS (mNotT (mB (mCB (fBs fun bs => bs.all id) (mCons (mComp (mItems (mVar 1)) (mgName 3) (mYes) (mUn (isiM M false (.ty "tuple")) (mVar 3)) [3]) (mNil))))) (mSeq (mRaiseL "BadSchema" "kind" (mC (.non))) (mSkip)) (mSkip)) (mSeq (mFor (mEnum (mVar 1)) (mgTup (mgCons (mgName 2) (mgCons (mgName 3) (mgNil))) 2) (mSeq (mIfS (mNotT (mB (mCB (mLen 2 (fun ws => r_is_kind j (ws ++ []))) (mCons (mVar 3) (mCons (mCB (lenA M) (mCons (mVar 1) (mNil))) (mNil)))))) (mSeq (mRaiseL "BadSchema" "kind" (mVar 2)) (mSkip)) (mSkip)) (mSkip))) (mSeq (mStoA M "rows" (mVar 1) (mVar 0)) (mSkip))))
theorem sh_Schema___init__ (j : Nat) (ws : List W) (h : AHp) : r_Schema___init__ (j + 1) ws h = mFn 4 (s_Schema___init__ j (T.mo 40 (j + 1))) ws h := by kernel_rfl
def s_Schema_kinds (j : Nat) (M : Mo) : MS := mSeq (mRet (mUn (attrM M "rows") (mVar 0))) (mSkip)
theorem sh_Schema_kinds (j : Nat) (ws : List W) (h : AHp) : r_Schema_kinds (j + 1) ws h = mFn 1 (s_Schema_kinds j (T.mo 40 (j + 1))) ws h := by kernel_rfl
def s_Schema___len__ (j : Nat) (M : Mo) : MS := mSeq (mRet (mCB (lenA M) (mCons (mUn (attrM M "rows") (mVar 0)) (mNil)))) (mSkip)
theorem sh_Schema___len__ (j : Nat) (ws : List W) (h : AHp) : r_Schema___len__ (j + 1) ws h = mFn 1 (s_Schema___len__ j (T.mo 40 (j + 1))) ws h := by kernel_rfl
def s_Schema___contains__ (j : Nat) (M : Mo) : MS := mSeq (mIfS (mOrT (mNotT (mB (mUn (isiM M false (.ty "tuple")) (mVar 1)))) (mOrT (mB (mBin (oC M .NotEq) (mCB (lenA M) (mCons (mVar 1) (mNil))) (mC (.int (2))))) (mNotT (mB (mCB (mLen 3 (fun ws => r_is_number j (ws ++ []))) (mCons (mBin (oIx M) (mVar 1) (mC (.int (0)))) (mCons (mC (.int (0))) (mCons (mBin (oB M .Sub) (mCB (lenA M) (mCons (mUn (attrM M "rows") (mVar 0)) (mNil))) (mC (.int (1)))) (mNil))))))))) (mSeq (mRet (mC (.bl false))) (mSkip)) (mSkip)) (mSeq (mRet (mAndV (mCB (mLen 1 (fun ws => r_is_name j (ws ++ []))) (mCons (mBin (oIx M) (mVar 1) (mC (.int (1)))) (mNil))) (mBin (oC M .In) (mBin (oIx M) (mVar 1) (mC (.int (1)))) (mComp (mItems (mBin (oIx M) (mUn (attrM M "rows") (mVar 0)) (mBin (oIx M) (mVar 1) (mC (.int (0)))))) (mgName 2) (mYes) (mBin (oIx M) (mVar 2) (mC (.int (0)))) [2])))) (mSkip))
theorem sh_Schema___contains__ (j : Nat) (ws : List W) (h : AHp) : r_Schema___contains__ (j + 1) ws h = mFn 3 (s_Schema___contains__ j (T.mo 40 (j + 1))) ws h := by kernel_rfl
def s_Schema___iter__ (j : Nat) (M : Mo) : MS := mSeq (msBad) (mSkip)
theorem sh_Schema___iter__ (j : Nat) (ws : List W) (h : AHp) : r_Schema___iter__ (j + 1) ws h = mFn 1 (s_Schema___iter__ j (T.mo 40 (j + 1))) ws h := by kernel_rfl
def s_Schema___getitem__ (j : Nat) (M : Mo) : MS := mSeq (mIfS (mB (mBin (oC M .NotIn) (mVar 1) (mVar 0))) (mSeq (mRaise "BadField") (mSkip)) (mSkip)) (mSeq (mAsg (mVar 1) (mgTup (mgCons (mgName 2) (mgCons (mgName 3) (mgNil))) 2)) (mSeq (mRet (mBin (oIx M) (mComp (mItems (mBin (oIx M) (mUn (attrM M "rows") (mVar 0)) (mVar 2))) (mgName 4) (mB (mBin (oC M .Eq) (mBin (oIx M) (mVar 4) (mC (.int (0)))) (mVar 3))) (mVar 4) [4]) (mC (.int (0))))) (mSkip)))
theorem sh_Schema___getitem__ (j : Nat) (ws : List W) (h : AHp) : r_Schema___getitem__ (j + 1) ws h = mFn 5 (s_Schema___getitem__ j (T.mo 40 (j + 1))) ws h := by kernel_rfl
def s_Schema___xor__ (j : Nat) (M : Mo) : MS := mSeq (mAsg (mComp2 (mRng1 (mCons (mC (.int (3))) (mNil))) (mgName 3) (mYes) (mItems (mC (.str "abcdef"))) (mgName 4) (mYes) (mTup (mCons (mVar 3) (mCons (mVar 4) (mNil)))) [3, 4] [4]) (mgName 2)) (mSeq (mRet (mComp (mItems (mVar 2)) (mgName 5) (mB (mBin (oC M .NotEq) (mCB (mLen 2 (fun ws => r_field_at j (ws ++ []))) (mCons (mVar 0) (mCons (mVar 5) (mNil)))) (mCB (mLen 2 (fun ws => r_field_at j (ws ++ []))) (mCons (mVar 1) (mCons (mVar 5) (mNil)))))) (mVar 5) [5])) (mSkip))
theorem sh_Schema___xor__ (j : Nat) (ws : List W) (h : AHp) : r_Schema___xor__ (j + 1) ws h = mFn 6 (s_Schema___xor__ j (T.mo 40 (j + 1))) ws h := by kernel_rfl
def s_Schema___eq__ (j : Nat) (M : Mo) : MS := mSeq (mRet (mAndV (mUn (isiM M false (.own "Schema")) (mVar 1)) (mBin (oC M .Eq) (mUn (attrM M "rows") (mVar 0)) (mUn (attrM M "rows") (mVar 1))))) (mSkip)
theorem sh_Schema___eq__ (j : Nat) (ws : List W) (h : AHp) : r_Schema___eq__ (j + 1) ws h = mFn 2 (s_Schema___eq__ j (T.mo 40 (j + 1))) ws h := by kernel_rfl
def s_Store___init__ (j : Nat) (M : Mo) : MS := mSeq (mExpr (mCB (mLen 1 (fun ws => r_check_schema j (ws ++ []))) (mCons (mVar 1) (mNil)))) (mSeq (mIfS (mOrT (mNotT (mB (mUn (isiM M false (.ty "tuple")) (mVar 2)))) (mNotT (mB (mChain (oC M .LtE) (oC M .LtE) (mC (.int (1))) (mCB (lenA M) (mCons (mVar 2) (mNil))) (mC (.int (6))))))) (mSeq (mRaiseL "BadStore" "index" (mC (.non))) (mSkip)) (mSkip)) (mSeq (mFor (mEnum (mVar 2)) (mgTup (mgCons (mgName 3) (mgCons (mgName 4) (mgNil))) 2) (mSeq (mIfS (mOrT (mNotT (mB (mCB (mLen 3 (fun ws => r_is_object j (ws ++ []))) (mCons (mVar 1) (mCons (mVar 2) (mCons (mVar 4) (mNil))))))) (mAndT (mB (mBin (oC M .Eq) (mVar 3) (mC (.int (0))))) (mB (mBin (oC M .NotEq) (mBin (oIx M) (mVar 4) (mC (.int (0)))) (mC (.int (0))))))) (mSeq (mRaiseL "BadStore" "index" (mVar 3)) (mSkip)) (mSkip)) (mSkip))) (mSeq (mStoA M "plan" (mVar 1) (mVar 0)) (mSeq (mStoA M "rows" (mVar 2) (mVar 0)) (mSeq (mStoA M "table" (mDc2 true (mEnum (mVar 2)) (mgTup (mgCons (mgName 3) (mgCons (mgTup (mgCons (mgName 5) (mgCons (mgName 6) (mgNil))) 2) (mgNil))) 2) (mYes) (mZip (mCons (mBin (oIx M) (mUn (attrM M "kinds") (mVar 1)) (mVar 5)) (mCons (mVar 6) (mNil)))) (mgTup (mgCons (mgName 7) (mgCons (mgName 8) (mgNil))) 2) (mYes) (mTup (mCons (mVar 3) (mCons (mBin (oIx M) (mVar 7) (mC (.int (0)))) (mNil)))) (mVar 8) [3, 5, 6, 7, 8] [7, 8]) (mVar 0)) (mSkip))))))
theorem sh_Store___init__ (j : Nat) (ws : List W) (h : AHp) : r_Store___init__ (j + 1) ws h = mFn 9 (s_Store___init__ j (T.mo 40 (j + 1))) ws h := by kernel_rfl
def s_Store_schema (j : Nat) (M : Mo) : MS := mSeq (mRet (mUn (attrM M "plan") (mVar 0))) (mSkip)
theorem sh_Store_schema (j : Nat) (ws : List W) (h : AHp) : r_Store_schema (j + 1) ws h = mFn 1 (s_Store_schema j (T.mo 40 (j + 1))) ws h := by kernel_rfl
def s_Store_objects (j : Nat) (M : Mo) : MS := mSeq (mRet (mUn (attrM M "rows") (mVar 0))) (mSkip)
theorem sh_Store_objects (j : Nat) (ws : List W) (h : AHp) : r_Store_objects (j + 1) ws h = mFn 1 (s_Store_objects j (T.mo 40 (j + 1))) ws h := by kernel_rfl
def s_Store_cells (j : Nat) (M : Mo) : MS := mSeq (mRet (mComp2 (mRng1 (mCons (mCB (lenA M) (mCons (mUn (attrM M "rows") (mVar 0)) (mNil))) (mNil))) (mgName 1) (mYes) (mItems (mC (.str "abcdef"))) (mgName 2) (mB (mBin (oC M .In) (mTup (mCons (mVar 1) (mCons (mVar 2) (mNil)))) (mUn (attrM M "table") (mVar 0)))) (mTup (mCons (mVar 1) (mCons (mVar 2) (mNil)))) [1, 2] [2])) (mSkip)
theorem sh_Store_cells (j : Nat) (ws : List W) (h : AHp) : r_Store_cells (j + 1) ws h = mFn 3 (s_Store_cells j (T.mo 40 (j + 1))) ws h := by kernel_rfl
def s_Store___len__ (j : Nat) (M : Mo) : MS := mSeq (mRet (mCB (lenA M) (mCons (mUn (attrM M "rows") (mVar 0)) (mNil)))) (mSkip)
theorem sh_Store___len__ (j : Nat) (ws : List W) (h : AHp) : r_Store___len__ (j + 1) ws h = mFn 1 (s_Store___len__ j (T.mo 40 (j + 1))) ws h := by kernel_rfl
def s_Store___contains__ (j : Nat) (M : Mo) : MS := mSeq (mIfS (mOrT (mNotT (mB (mUn (isiM M false (.ty "tuple")) (mVar 1)))) (mOrT (mB (mBin (oC M .NotEq) (mCB (lenA M) (mCons (mVar 1) (mNil))) (mC (.int (2))))) (mOrT (mNotT (mB (mCB (mLen 2 (fun ws => r_is_number j (ws ++ [.d (.non)]))) (mCons (mBin (oIx M) (mVar 1) (mC (.int (0)))) (mCons (mC (.int (0))) (mNil)))))) (mNotT (mB (mCB (mLen 1 (fun ws => r_is_name j (ws ++ []))) (mCons (mBin (oIx M) (mVar 1) (mC (.int (1)))) (mNil)))))))) (mSeq (mRet (mC (.bl false))) (mSkip)) (mSkip)) (mSeq (mRet (mBin (oC M .In) (mVar 1) (mUn (attrM M "table") (mVar 0)))) (mSkip))
theorem sh_Store___contains__ (j : Nat) (ws : List W) (h : AHp) : r_Store___contains__ (j + 1) ws h = mFn 2 (s_Store___contains__ j (T.mo 40 (j + 1))) ws h := by kernel_rfl
def s_Store___iter__ (j : Nat) (M : Mo) : MS := mSeq (msBad) (mSkip)
theorem sh_Store___iter__ (j : Nat) (ws : List W) (h : AHp) : r_Store___iter__ (j + 1) ws h = mFn 1 (s_Store___iter__ j (T.mo 40 (j + 1))) ws h := by kernel_rfl
def s_Store___getitem__ (j : Nat) (M : Mo) : MS := mSeq (mIfS (mB (mBin (oC M .NotIn) (mVar 1) (mVar 0))) (mSeq (mRaise "BadCell") (mSkip)) (mSkip)) (mSeq (mRet (mBin (oIx M) (mUn (attrM M "table") (mVar 0)) (mVar 1))) (mSkip))
theorem sh_Store___getitem__ (j : Nat) (ws : List W) (h : AHp) : r_Store___getitem__ (j + 1) ws h = mFn 2 (s_Store___getitem__ j (T.mo 40 (j + 1))) ws h := by kernel_rfl
def s_Store___eq__ (j : Nat) (M : Mo) : MS := mSeq (mRet (mAndV (mUn (isiM M false (.own "Store")) (mVar 1)) (mAndV (mBin (oC M .Eq) (mUn (attrM M "plan") (mVar 0)) (mUn (attrM M "plan") (mVar 1))) (mBin (oC M .Eq) (mUn (attrM M "rows") (mVar 0)) (mUn (attrM M "rows") (mVar 1)))))) (mSkip)
theorem sh_Store___eq__ (j : Nat) (ws : List W) (h : AHp) : r_Store___eq__ (j + 1) ws h = mFn 2 (s_Store___eq__ j (T.mo 40 (j + 1))) ws h := by kernel_rfl
end K02

end
section
set_option Elab.async false
set_option linter.all false
set_option maxRecDepth 100000
set_option maxHeartbeats 1000000
namespace K02
open PySem PySem.Spec PyProof.Rows L2 PM
local macro_rules | `(tactic| walk_at "wps") => `(tactic| try simp only [↓wp_fn, ↓ws_seq, ↓ws_ret, ↓ws_asg, ↓ws_if, ↓ws_expr, ↓ws_for, ↓ws_par, ↓ws_skip, ↓ws_raise, ↓ws_raiseL, ↓ws_try, ↓seqK_nx, ↓seqK_rt, ↓seqK_exc, ↓fnK_rt, ↓fnK_nx, ↓fnK_exc, ↓loopK_nx, ↓loopK_rt, ↓loopK_exc, ↓wp_var, ↓wp_c, ↓wp_bin, ↓wp_un, ↓wp_nil, ↓wp_cons, ↓wp_star, ↓wp_cb, ↓wp_b, ↓wp_notT, ↓wp_andT, ↓wp_orT, ↓wp_yes, ↓wp_andV, ↓wp_orV, ↓wp_notV, ↓wp_if, ↓wp_chain, ↓wp_neg, ↓wp_tup, ↓wp_lst, ↓wp_lstR, ↓wp_slice, ↓wp_noPart, ↓wp_part, ↓wp_comp, ↓wp_lenSc, ↓wp_frzQ, ↓wp_items, ↓wp_enum, ↓wp_rng1, ↓wp_zip, zipD_tup, zipD_lst, ↓ws_match, ws_cs1, ↓ws_cs2, ↓wp_lstRgR, ↓wp_dc2, ↓wp_comp2, ↓wp_rng3, ↓wp_lstRg1, ↓wp_mthA, ↓ws_putK, oB_mulI, oB_modI, oB_addL, oB_addT, Int.reducePow, Int.reduceNeg, or_true, true_or, ↓tryK_rt, ↓tryK_nx, tryK_exc, ↓suiteK_rtD, setO_none, setO_some, ↓ws_stoA, ↓wp_make, ↓wp_bind, ↓mthK_cnt, fCnt_eq, fBs_map, wp_ok, wp_exc, wp_of, wp_pure, ws_some, gv0, gvS, unB_bl, if_true, if_false, Bool.false_eq_true, Bool.not_true, Bool.not_false, wp_cutD, wp_cutXD,
  oC_eqI, oC_neI, oC_eqB, oC_neB, oC_lt, oC_le, oC_gt, oC_ge, oC_is, oC_isNot, oB_addI, oB_subI, lenA_tup, lenA_lst, fInt_int, fTuple_lst, asgK_some, startA, List.map_cons, List.map_nil, List.replicate, List.length_cons, List.length_nil, List.length_map, List.cons_append, List.nil_append, List.append_nil, List.set_cons_zero, List.set_cons_succ, mgTup_d, mgCons_c, mgNil_n, mgName_n, bind_some', wipeA, setAll, mLen, isN_optS, isN_optI, isN_str, isN_int, isN_tup, isN_non, loopI, true_and, and_true, and_self, Nat.reduceAdd, Nat.reduceLT, Nat.reduceLeDiff, Nat.reduceEqDiff, Nat.reduceSub, Int.reduceEq, Int.reduceLT, Int.reduceLE, Int.reduceSub, Int.reduceAdd, Int.cast_ofNat_Int, decide_true, decide_false, not_true, not_false_iff, Nat.zero_add, unD_nil, unD_cons, Option.map_some, sizeLine, Nat.reducePow, Option.isNone_none, Option.isNone_some, *])
structure Fld where
  n : Str
  t : Option Int
  f : Str
  m : Str
  s : Option Str
  deriving DecidableEq
def encF (x : Fld) : D := .tup [.str x.n, optD .int x.t, .str x.f, .str x.m, optD .str x.s]
def S9 : List Str := ["a", "b", "c", "d", "e", "f", "g", "", "ab"]
def S6 : List Str := ["a", "b", "c", "d", "e", "f"]
def F5 : List Str := ["one", "all", "gaps", "rest", "some"]
def F4 : List Str := ["one", "all", "gaps", "rest"]
def M3 : List Str := ["must", "may", "can"]
def M2 : List Str := ["must", "may"]
theorem ok9 : ∀ x ∈ S9, PyData.strOk x = true := by decide +kernel
theorem ok5 : ∀ x ∈ F5, PyData.strOk x = true := by decide +kernel
theorem ok3 : ∀ x ∈ M3, PyData.strOk x = true := by decide +kernel
theorem ok6 : ∀ x ∈ S6, PyData.strOk x = true := by decide +kernel
theorem ok4 : ∀ x ∈ F4, PyData.strOk x = true := by decide +kernel
theorem ok2 : ∀ x ∈ M2, PyData.strOk x = true := by decide +kernel
theorem okOne : PyData.strOk "one" = true := by decide +kernel
def OkF (x : Fld) : Prop := x.n ∈ S9 ∧ x.f ∈ F5 ∧ x.m ∈ M3 ∧ ∀ s, x.s = some s → s ∈ S9
def cmOI : Cm 0 (fun o : Option Int => ∀ a, o = some a → True) (optD D.int) := cmOpt cmInt fun _ => rfl
def cmOS : Cm 0 (fun o : Option Str => ∀ a, o = some a → PyData.strOk a = true) (optD D.str) := cmOpt cmStr fun _ => rfl
def cmF : Cm 1 OkF encF where
  z := fun x => .tuple [.str x.n, cmOI.z x.t, .str x.f, .str x.m, cmOS.z x.s]
  py := fun x => by
    have e1 := cmOI.py x.t
    have e2 := cmOS.py x.s
    unfold encF
    simp only [py, pyL, e1, e2, Option.map]
  lay := fun x p => by
    obtain ⟨p1, p2, p3, p4⟩ := p
    have e1 := cmOI.lay x.t fun _ _ => trivial
    have e2 := cmOS.lay x.s fun a ha => ok9 a (p4 a ha)
    simp only [PyData.canLay0, PyData.canLayAll0, e1, e2, ok9 _ p1, ok5 _ p2, ok3 _ p3]
    rfl
  dep := fun x => by
    have e1 := cmOI.dep x.t
    have e2 := cmOS.dep x.s
    simp only [PyData.depth, PyData.depthAll]
    omega
  eq := fun x y => by
    have e1 := cmOI.eq x.t y.t
    have e2 := cmOS.eq x.s y.s
    simp only [PyData.eqv, PyData.eqvAll, e1, e2]
    cases x
    cases y
    rename_i a1 a2 a3 a4 a5 b1 b2 b3 b4 b5
    by_cases h1 : a1 = b1 <;> by_cases h2 : a2 = b2 <;> by_cases h3 : a3 = b3 <;> by_cases h4 : a4 = b4 <;> by_cases h5 : a5 = b5 <;> simp [h1, h2, h3, h4, h5]
def encK (k : List Fld) : D := .tup (k.map encF)
def encKs (k : List (List Fld)) : D := .tup (k.map encK)
def cmK : Cm 2 (fun k : List Fld => ∀ x ∈ k, OkF x) encK := cmTup cmF
def cmKs : Cm 3 (fun k : List (List Fld) => ∀ x ∈ k, ∀ y ∈ x, OkF y) encKs := cmTup cmK
section
variable {j : Nat} {h : AHp} {M : Mo}
theorem isi_int (i : Int) : isiM M false (.ty "int") (.d (.int i)) h = some (.ok (.d (.bl true)), h) := by kernel_rfl
theorem isi_bool (i : Int) : isiM M false (.ty "bool") (.d (.int i)) h = some (.ok (.d (.bl false)), h) := by kernel_rfl
theorem isi_str (x : Str) : isiM M false (.ty "str") (.d (.str x)) h = some (.ok (.d (.bl true)), h) := by kernel_rfl
theorem isi_tup (x : List D) : isiM M false (.ty "tuple") (.d (.tup x)) h = some (.ok (.d (.bl true)), h) := by kernel_rfl
theorem ixF0 (x : Fld) : oIx M (.d (encF x)) (.d (.int 0)) h = some (.ok (.d (.str x.n)), h) := rfl
theorem ixF1 (x : Fld) : oIx M (.d (encF x)) (.d (.int 1)) h = some (.ok (.d (optD .int x.t)), h) := rfl
theorem ixF2 (x : Fld) : oIx M (.d (encF x)) (.d (.int 2)) h = some (.ok (.d (.str x.f)), h) := rfl
theorem ixF3 (x : Fld) : oIx M (.d (encF x)) (.d (.int 3)) h = some (.ok (.d (.str x.m)), h) := rfl
theorem ixF4 (x : Fld) : oIx M (.d (encF x)) (.d (.int 4)) h = some (.ok (.d (optD .str x.s)), h) := rfl
theorem items_K (k : List Fld) : itemsOf (.d (encK k)) = some (k.map fun x => .d (encF x)) := by
  show some ((k.map encF).map W.d) = _
  rw [List.map_map]
  rfl
theorem items_Ks (k : List (List Fld)) : itemsOf (.d (encKs k)) = some (k.map fun x => .d (encK x)) := by
  show some ((k.map encK).map W.d) = _
  rw [List.map_map]
  rfl
theorem lenA_K (k : List Fld) : lenA M [.d (encK k)] h = some (.ok (.d (.int (k.length : Nat))), h) := by
  show lenA M [.d (.tup (k.map encF))] h = _
  rw [lenA_tup, List.length_map]
theorem lenA_Ks (k : List (List Fld)) : lenA M [.d (encKs k)] h = some (.ok (.d (.int (k.length : Nat))), h) := by
  show lenA M [.d (.tup (k.map encK))] h = _
  rw [lenA_tup, List.length_map]
theorem is_number_ok (g : Gd h) (i a b : Int) : r_is_number (j + 1) [.d (.int i), .d (.int a), .d (.int b)] h = some (.ok (.d (.bl (decide (a ≤ i ∧ i ≤ b)))), h) := by
  rw [sh_is_number]
  refine WP.eq ?_
  have e1 := isi_int (h := h) (M := T.mo 40 (j + 1)) i
  have e2 := isi_bool (h := h) (M := T.mo 40 (j + 1)) i
  unfold s_is_number
  walk_at "wps"
  by_cases c : a ≤ i <;> simp [c]
theorem in6 : ∀ x ∈ S9, x.length ≤ sizeLine ∧ (if (x.length : Int) = 1 then (!(Builtin.Str.occurrences "abcdef" x 0 (("abcdef" : Str)).length 1).isEmpty) else false) = decide (x ∈ S6) := by decide +kernel
theorem is_name_ok (g : Gd h) {x : Str} (hx : x ∈ S9) : r_is_name (j + 1) [.d (.str x)] h = some (.ok (.d (.bl (decide (x ∈ S6)))), h) := by
  rw [sh_is_name]
  refine WP.eq ?_
  have e1 := isi_str (h := h) (M := T.mo 40 (j + 1)) x
  obtain ⟨e2, e3⟩ := in6 x hx
  have e4 := lenA_str (M := T.mo 40 (j + 1)) (h := h) e2
  have e5 : oC (T.mo 40 (j + 1)) .In (.d (.str x)) (.d (.str "abcdef")) h = some (.ok (.d (.bl (!(Builtin.Str.occurrences "abcdef" x 0 (("abcdef" : Str)).length 1).isEmpty))), h) := rfl
  unfold s_is_name
  clear e2
  walk_at "wps"
  rw [← e3]
  split <;> simp_all
theorem is_form_ok (g : Gd h) {x : Str} (hx : x ∈ F5) : r_is_word (j + 1) [.d (.str x), .d (.tup [(.str "one"), (.str "all"), (.str "gaps"), (.str "rest")])] h = some (.ok (.d (.bl (decide (x ∈ F4)))), h) := by
  rw [sh_is_word]
  refine WP.eq ?_
  have e1 := isi_str (h := h) (M := T.mo 40 (j + 1)) x
  have e2 : oC (T.mo 40 (j + 1)) .In (.d (.str x)) (.d (.tup [(.str "one"), (.str "all"), (.str "gaps"), (.str "rest")])) h = _ := cmStr.inT (by decide) (ok5 x hx) (l := F4) ok4 false
  unfold s_is_word
  walk_at "wps"
theorem is_mark_ok (g : Gd h) {x : Str} (hx : x ∈ M3) : r_is_word (j + 1) [.d (.str x), .d (.tup [(.str "must"), (.str "may")])] h = some (.ok (.d (.bl (decide (x ∈ M2)))), h) := by
  rw [sh_is_word]
  refine WP.eq ?_
  have e1 := isi_str (h := h) (M := T.mo 40 (j + 1)) x
  have e2 : oC (T.mo 40 (j + 1)) .In (.d (.str x)) (.d (.tup [(.str "must"), (.str "may")])) h = _ := cmStr.inT (by decide) (ok3 x hx) (l := M2) ok2 false
  unfold s_is_word
  walk_at "wps"
def tgtOk (many : Int) : Option Int → Bool
  | none => true
  | some t => decide (0 ≤ t ∧ t ≤ many - 1)
def isField (many : Int) (x : Fld) : Bool := decide (x.n ∈ S6) && decide (x.f ∈ F4) && decide (x.m ∈ M2) && tgtOk many x.t
theorem is_field_ok (g : Gd h) {x : Fld} (p : OkF x) (many : Int) : r_is_field (j + 2) [.d (encF x), .d (.int many)] h = some (.ok (.d (.bl (isField many x))), h) := by
  rw [sh_is_field]
  refine WP.eq ?_
  obtain ⟨n, t, f, m, s⟩ := x
  obtain ⟨p1, p2, p3, p4⟩ := p
  have e1 := fun x => isi_tup (h := h) (M := T.mo 40 (j + 1 + 1)) x
  have e2 := is_name_ok (j := j) g p1
  have e3 := is_form_ok (j := j) g p2
  have e4 := is_mark_ok (j := j) g p3
  have e5 := fun i a b => is_number_ok (j := j) g i a b
  unfold s_is_field encF
  dsimp only at e2 e3 e4 ⊢
  clear p1 p2 p3 p4
  cases t with
  | none =>
    simp only [optD]
    walk_at "wps"
    unfold isField tgtOk
    dsimp only
    cases decide (n ∈ S6) <;> cases decide (f ∈ F4) <;> cases decide (m ∈ M2) <;> rfl
  | some t =>
    simp only [optD]
    walk_at "wps"
    unfold isField tgtOk
    dsimp only
    cases decide (n ∈ S6) <;> cases decide (f ∈ F4) <;> cases decide (m ∈ M2) <;> simp
def likeF (x y : Fld) : Bool := decide (x.t = y.t) && decide (decide (x.f = "one") = decide (y.f = "one"))
def isSpare (k : List Fld) (x : Fld) : Bool := match x.s with
  | none => true
  | some s => if decide (s ∈ S6) && !decide (s = x.n) then (match k.find? fun o => decide (o.n = s) with
    | some o => likeF o x
    | none => false) else false
theorem is_spare_ok (g : Gd h) {x : Fld} {k : List Fld} (p : OkF x) (pk : ∀ y ∈ k, OkF y) : r_is_spare (j + 2) [.d (encK k), .d (encF x)] h = some (.ok (.d (.bl (isSpare k x))), h) := by
  rw [sh_is_spare]
  refine WP.eq ?_
  have f0 := fun x => ixF0 (h := h) (M := T.mo 40 (j + 1 + 1)) x
  have f1 := fun x => ixF1 (h := h) (M := T.mo 40 (j + 1 + 1)) x
  have f2 := fun x => ixF2 (h := h) (M := T.mo 40 (j + 1 + 1)) x
  have f4 := fun x => ixF4 (h := h) (M := T.mo 40 (j + 1 + 1)) x
  have ik := items_K k
  unfold s_is_spare
  cases q : x.s with
  | none =>
    walk_at "wps"
    unfold isSpare
    rw [q]
  | some s =>
    have hs := p.2.2.2 s q
    have e2 := is_name_ok (j := j) g hs
    have e3 := oC_eqS (M := T.mo 40 (j + 1 + 1)) (h := h) (ok9 s hs) (ok9 _ p.1)
    have f4x : oIx (T.mo 40 (j + 1 + 1)) (.d (encF x)) (.d (.int 4)) h = some (.ok (.d (.str s)), h) := by rw [ixF4, q]; rfl
    clear f4
    walk_at "wps"
    unfold isSpare
    rw [q]
    dsimp only
    by_cases c1 : s ∈ S6
    · by_cases c2 : s = x.n
      · simp [c1, c2]
      · rw [if_neg (by simp [c1]), if_neg (by simp [c2]), if_pos (by simp [c1, c2])]
        refine loop_inv (fun x => W.d (encF x)) (fun r σ h' => h' = h ∧ (∃ w, σ = [some (.d (encK k)), some (.d (encF x)), w]) ∧ (∀ y ∈ r, OkF y) ∧ k.find? (fun o => decide (o.n = s)) = r.find? fun o => decide (o.n = s)) ?_ ?_ k _ h ⟨rfl, ⟨_, rfl⟩, pk, rfl⟩
        · rintro y r σ h' ⟨rfl, ⟨w, rfl⟩, py, hf⟩
          refine ⟨_, rfl, ?_⟩
          have py1 := py y List.mem_cons_self
          have e4 := oC_eqS (M := T.mo 40 (j + 1 + 1)) (h := h') (ok9 _ py1.1) (ok9 s hs)
          have e5 := oC_eqS (M := T.mo 40 (j + 1 + 1)) (h := h') (ok5 _ py1.2.1) okOne
          have e6 := oC_eqS (M := T.mo 40 (j + 1 + 1)) (h := h') (ok5 _ p.2.1) okOne
          have e7 : oC (T.mo 40 (j + 1 + 1)) .Eq (.d (optD .int y.t)) (.d (optD .int x.t)) h' = _ := cmOI.oEq (by decide) (fun _ _ => trivial) (fun _ _ => trivial)
          clear ik e2 e3
          walk_at "wps"
          rw [List.find?_cons]
          by_cases c3 : y.n = s
          · rw [if_pos (by simp [c3])]
            simp only [c3, decide_true]
            unfold likeF
            cases decide (y.t = x.t) <;> rfl
          · rw [if_neg (by simp [c3])]
            simp only [c3, decide_false]
            exact ⟨⟨_, rfl⟩, fun z hz => py z (List.mem_cons_of_mem _ hz), trivial⟩
        · rintro σ h' ⟨rfl, ⟨w, rfl⟩, _, hf⟩
          clear ik e2 e3
          walk_at "wps"
          rfl
    · simp [c1]
end
end K02

end
section
set_option Elab.async false
set_option linter.all false
set_option maxRecDepth 100000
set_option maxHeartbeats 1000000
namespace K02
open PySem PySem.Spec PyProof.Rows L2 PM
local macro_rules | `(tactic| walk_at "wps") => `(tactic| try simp only [↓wp_fn, ↓ws_seq, ↓ws_ret, ↓ws_asg, ↓ws_if, ↓ws_expr, ↓ws_for, ↓ws_par, ↓ws_skip, ↓ws_raise, ↓ws_raiseL, ↓ws_try, ↓seqK_nx, ↓seqK_rt, ↓seqK_exc, ↓fnK_rt, ↓fnK_nx, ↓fnK_exc, ↓loopK_nx, ↓loopK_rt, ↓loopK_exc, ↓wp_var, ↓wp_c, ↓wp_bin, ↓wp_un, ↓wp_nil, ↓wp_cons, ↓wp_star, ↓wp_cb, ↓wp_b, ↓wp_notT, ↓wp_andT, ↓wp_orT, ↓wp_yes, ↓wp_andV, ↓wp_orV, ↓wp_notV, ↓wp_if, ↓wp_chain, ↓wp_neg, ↓wp_tup, ↓wp_lst, ↓wp_lstR, ↓wp_slice, ↓wp_noPart, ↓wp_part, ↓wp_comp, ↓wp_lenSc, ↓wp_frzQ, ↓wp_items, ↓wp_enum, ↓wp_rng1, ↓wp_zip, zipD_tup, zipD_lst, ↓ws_match, ws_cs1, ↓ws_cs2, ↓wp_lstRgR, ↓wp_dc2, ↓wp_comp2, ↓wp_rng3, ↓wp_lstRg1, ↓wp_mthA, ↓ws_putK, oB_mulI, oB_modI, oB_addL, oB_addT, Int.reducePow, Int.reduceNeg, or_true, true_or, ↓tryK_rt, ↓tryK_nx, tryK_exc, ↓suiteK_rtD, setO_none, setO_some, ↓ws_stoA, ↓wp_make, ↓wp_bind, ↓mthK_cnt, fCnt_eq, fBs_map, wp_ok, wp_exc, wp_of, wp_pure, ws_some, gv0, gvS, unB_bl, if_true, if_false, Bool.false_eq_true, Bool.not_true, Bool.not_false, wp_cutD, wp_cutXD,
  oC_eqI, oC_neI, oC_eqB, oC_neB, oC_lt, oC_le, oC_gt, oC_ge, oC_is, oC_isNot, oB_addI, oB_subI, lenA_tup, lenA_lst, fInt_int, fTuple_lst, asgK_some, startA, List.map_cons, List.map_nil, List.replicate, List.length_cons, List.length_nil, List.length_map, List.cons_append, List.nil_append, List.append_nil, List.set_cons_zero, List.set_cons_succ, mgTup_d, mgCons_c, mgNil_n, mgName_n, bind_some', wipeA, setAll, mLen, isN_optS, isN_optI, isN_str, isN_int, isN_tup, isN_non, loopI, true_and, and_true, and_self, Nat.reduceAdd, Nat.reduceLT, Nat.reduceLeDiff, Nat.reduceEqDiff, Nat.reduceSub, Int.reduceEq, Int.reduceLT, Int.reduceLE, Int.reduceSub, Int.reduceAdd, Int.cast_ofNat_Int, decide_true, decide_false, not_true, not_false_iff, Nat.zero_add, unD_nil, unD_cons, Option.map_some, sizeLine, Nat.reducePow, Option.isNone_none, Option.isNone_some, *])
section
variable {j : Nat} {h : AHp} {M : Mo}
def isKind (many : Int) (k : List Fld) : Bool := decide (1 ≤ k.length ∧ k.length ≤ 4) && k.all (isField many) && decide ((k.map (·.n)).Nodup) && k.all (isSpare k)
theorem szLine {n : Nat} (h : n ≤ 100) : n ≤ sizeLine := Nat.le_trans h (by decide)
theorem is_kind_ok (g : Gd h) {k : List Fld} (pk : ∀ y ∈ k, OkF y) (hk : k.length ≤ 20) (many : Int) : r_is_kind (j + 3) [.d (encK k), .d (.int many)] h = some (.ok (.d (.bl (isKind many k))), h) := by
  rw [sh_is_kind]
  refine WP.eq ?_
  have e1 : isiM (T.mo 40 (j + 2 + 1)) false (.ty "tuple") (.d (encK k)) h = some (.ok (.d (.bl true)), h) := isi_tup _
  have e2 := lenA_K (h := h) (M := T.mo 40 (j + 2 + 1)) k
  have ik := items_K k
  have f0 := fun x => ixF0 (h := h) (M := T.mo 40 (j + 2 + 1)) x
  unfold s_is_kind
  unfold isKind
  walk_at "wps"
  by_cases c1 : 1 ≤ k.length
  · by_cases c2 : k.length ≤ 4
    · rw [if_pos (by simp; omega), if_neg (by simp; omega)]
      rw [comp_all (fun x => W.d (encF x)) (fun x => .bl (isField many x)) k (fun x hx => ⟨_, rfl, by
        have e3 := is_field_ok (j := j) g (pk x hx) many
        walk_at "wps"⟩) (szLine (by omega))]
      walk_at "wps"
      rw [sc_eq (fun x => W.d (encF x)) (fun x => x.n) k [] (fun x hx => ⟨_, rfl, by walk_at "wps"⟩) (by simp; exact Nat.lt_of_le_of_lt hk (by decide))]
      walk_at "wps"
      rw [comp_all (fun x => W.d (encF x)) (fun x => .bl (isSpare k x)) k (fun x hx => ⟨_, rfl, by
        have e3 := is_spare_ok (j := j) g (pk x hx) pk
        walk_at "wps"⟩) (szLine (by omega))]
      walk_at "wps"
      have hf := few_iff (k.map (·.n))
      rw [List.map_map, List.length_map] at hf
      by_cases c3 : k.all (isField many) = true
      · by_cases c : (k.map (·.n)).Nodup
        · rw [if_neg (by simp [List.all_map, Function.comp_def, c3]), if_neg (by simp only [decide_eq_true_eq]; exact fun z => absurd c (hf.mp z))]
          simp [c, c1, c2, c3, List.all_map, Function.comp_def]
        · rw [if_neg (by simp [List.all_map, Function.comp_def, c3]), if_pos (by simp only [decide_eq_true_eq]; exact hf.mpr c)]
          simp [c]
      · rw [if_pos (by simpa [List.all_map, Function.comp_def] using c3)]
        simp [c3]
    · rw [if_pos (by simp; omega), if_pos (by simp; omega)]
      simp [c2]
  · rw [if_neg (by simp; omega)]
    simp [c1]
theorem listS_ok : fListS [.d (.str "abcdef")] h = some (.ok (.d (.lst (S6.map D.str))), h) := by kernel_rfl
theorem inL_ok {α : Type} [DecidableEq α] {n : Nat} {P : α → Prop} {e : α → D} (C : Cm n P e) (hn : n < 64) {a : α} {l : List α} (pa : P a) (pl : ∀ b ∈ l, P b) : oC M .NotIn (.d (e a)) (.d (.lst (l.map e))) h = some (.ok (.d (.bl (!decide (a ∈ l)))), h) := C.inA hn pa pl true
theorem inT_ok {α : Type} [DecidableEq α] {n : Nat} {P : α → Prop} {e : α → D} (C : Cm n P e) (hn : n < 64) {a : α} {l : List α} (pa : P a) (pl : ∀ b ∈ l, P b) : oC M .NotIn (.d (e a)) (.d (.tup (l.map e))) h = some (.ok (.d (.bl (!decide (a ∈ l)))), h) := C.inT hn pa pl true
end
end K02

end
section
set_option Elab.async false
set_option linter.all false
set_option maxRecDepth 100000
set_option maxHeartbeats 1000000
namespace K02
open PySem PySem.Spec PyProof.Rows L2 PM
local macro_rules | `(tactic| walk_at "wps") => `(tactic| try simp only [↓wp_fn, ↓ws_seq, ↓ws_ret, ↓ws_asg, ↓ws_if, ↓ws_expr, ↓ws_for, ↓ws_par, ↓ws_skip, ↓ws_raise, ↓ws_raiseL, ↓ws_try, ↓seqK_nx, ↓seqK_rt, ↓seqK_exc, ↓fnK_rt, ↓fnK_nx, ↓fnK_exc, ↓loopK_nx, ↓loopK_rt, ↓loopK_exc, ↓wp_var, ↓wp_c, ↓wp_bin, ↓wp_un, ↓wp_nil, ↓wp_cons, ↓wp_star, ↓wp_cb, ↓wp_b, ↓wp_notT, ↓wp_andT, ↓wp_orT, ↓wp_yes, ↓wp_andV, ↓wp_orV, ↓wp_notV, ↓wp_if, ↓wp_chain, ↓wp_neg, ↓wp_tup, ↓wp_lst, ↓wp_lstR, ↓wp_slice, ↓wp_noPart, ↓wp_part, ↓wp_comp, ↓wp_lenSc, ↓wp_frzQ, ↓wp_items, ↓wp_enum, ↓wp_rng1, ↓wp_zip, zipD_tup, zipD_lst, ↓ws_match, ws_cs1, ↓ws_cs2, ↓wp_lstRgR, ↓wp_dc2, ↓wp_comp2, ↓wp_rng3, ↓wp_lstRg1, ↓wp_mthA, ↓ws_putK, oB_mulI, oB_modI, oB_addL, oB_addT, Int.reducePow, Int.reduceNeg, or_true, true_or, ↓tryK_rt, ↓tryK_nx, tryK_exc, ↓suiteK_rtD, setO_none, setO_some, ↓ws_stoA, ↓wp_make, ↓wp_bind, ↓mthK_cnt, fCnt_eq, fBs_map, wp_ok, wp_exc, wp_of, wp_pure, ws_some, gv0, gvS, unB_bl, if_true, if_false, Bool.false_eq_true, Bool.not_true, Bool.not_false, wp_cutD, wp_cutXD,
  oC_eqI, oC_neI, oC_eqB, oC_neB, oC_lt, oC_le, oC_gt, oC_ge, oC_is, oC_isNot, oB_addI, oB_subI, lenA_tup, lenA_lst, fInt_int, fTuple_lst, asgK_some, startA, List.map_cons, List.map_nil, List.replicate, List.length_cons, List.length_nil, List.length_map, List.cons_append, List.nil_append, List.append_nil, List.set_cons_zero, List.set_cons_succ, mgTup_d, mgCons_c, mgNil_n, mgName_n, bind_some', wipeA, setAll, mLen, isN_optS, isN_optI, isN_str, isN_int, isN_tup, isN_non, loopI, true_and, and_true, and_self, Nat.reduceAdd, Nat.reduceLT, Nat.reduceLeDiff, Nat.reduceEqDiff, Nat.reduceSub, Int.reduceEq, Int.reduceLT, Int.reduceLE, Int.reduceSub, Int.reduceAdd, Int.cast_ofNat_Int, decide_true, decide_false, not_true, not_false_iff, Nat.zero_add, unD_nil, unD_cons, Option.map_some, sizeLine, Nat.reducePow, Option.isNone_none, Option.isNone_some, *])
section
variable {j : Nat} {h : AHp} {M : Mo}
def OkKs (k : List (List Fld)) : Prop := (∀ x ∈ k, ∀ y ∈ x, OkF y) ∧ (∀ x ∈ k, x.length ≤ 20)
def wrongAt (many : Int) : Nat → List (List Fld) → Option Nat
  | _, [] => none
  | i, x :: r => if isKind many x then wrongAt many (i + 1) r else some i
def wrong (k : List (List Fld)) : Option Nat := wrongAt k.length 0 k
def natD (o : Option Nat) : D := optD .int (o.map fun n => (n : Int))
theorem ix_Ks {k : List (List Fld)} {i : Nat} {x : List Fld} (e : k[i]? = some x) : oIx M (.d (encKs k)) (.d (.int (i : Nat))) h = some (.ok (.d (encK x)), h) := by
  show mOf ((atI (k.map encK) (i : Int)).map W.d) h = _
  unfold atI ixN
  have hl := (List.getElem?_eq_some_iff.mp e).1
  rw [List.length_map, if_pos (by omega), if_pos (by omega)]
  show mOf ((((k.map encK)[((i : Int)).toNat]?)).map W.d) h = _
  rw [Int.toNat_natCast, List.getElem?_map, e]
  rfl
theorem wrong_filter (many : Int) (k : List (List Fld)) : ∀ (r : List (List Fld)) (i : Nat), k.drop i = r →
    (((List.range' i r.length).filter fun a => !((k[a]?).map (isKind many)).getD true).head?) = wrongAt many i r
  | [], i, _ => rfl
  | x :: r, i, e => by
    have e1 : k[i]? = some x := by
      have := congrArg (fun l => l[0]?) e
      simpa using this
    have e2 : k.drop (i + 1) = r := by
      have := congrArg List.tail e
      simpa using this
    rw [List.length_cons, List.range'_succ, List.filter_cons, e1]
    unfold wrongAt
    cases q : isKind many x with
    | true =>
      simp only [Option.map_some, Option.getD_some, q, Bool.not_true, Bool.false_eq_true, if_false]
      exact wrong_filter many k r (i + 1) e2
    | false => simp [q]
theorem rng_map (n : Nat) : rngW 0 n = (List.range n).map fun i => W.d (.int ((i : Nat) : Int)) := by
  unfold rngW
  refine List.map_congr_left fun i _ => ?_
  rw [Int.zero_add]
end
end K02

end
section
set_option Elab.async false
set_option linter.all false
set_option maxRecDepth 100000
set_option maxHeartbeats 1000000
namespace K02
open PySem PySem.Spec PyProof.Rows L2 PM
local macro_rules | `(tactic| walk_at "wps") => `(tactic| try simp only [↓wp_fn, ↓ws_seq, ↓ws_ret, ↓ws_asg, ↓ws_if, ↓ws_expr, ↓ws_for, ↓ws_par, ↓ws_skip, ↓ws_raise, ↓ws_raiseL, ↓ws_try, ↓seqK_nx, ↓seqK_rt, ↓seqK_exc, ↓fnK_rt, ↓fnK_nx, ↓fnK_exc, ↓loopK_nx, ↓loopK_rt, ↓loopK_exc, ↓wp_var, ↓wp_c, ↓wp_bin, ↓wp_un, ↓wp_nil, ↓wp_cons, ↓wp_star, ↓wp_cb, ↓wp_b, ↓wp_notT, ↓wp_andT, ↓wp_orT, ↓wp_yes, ↓wp_andV, ↓wp_orV, ↓wp_notV, ↓wp_if, ↓wp_chain, ↓wp_neg, ↓wp_tup, ↓wp_lst, ↓wp_lstR, ↓wp_slice, ↓wp_noPart, ↓wp_part, ↓wp_comp, ↓wp_lenSc, ↓wp_frzQ, ↓wp_items, ↓wp_enum, ↓wp_rng1, ↓wp_zip, zipD_tup, zipD_lst, ↓ws_match, ws_cs1, ↓ws_cs2, ↓wp_lstRgR, ↓wp_dc2, ↓wp_comp2, ↓wp_rng3, ↓wp_lstRg1, ↓wp_mthA, ↓ws_putK, oB_mulI, oB_modI, oB_addL, oB_addT, Int.reducePow, Int.reduceNeg, or_true, true_or, ↓tryK_rt, ↓tryK_nx, tryK_exc, ↓suiteK_rtD, setO_none, setO_some, ↓ws_stoA, ↓wp_make, ↓wp_bind, ↓mthK_cnt, fCnt_eq, fBs_map, wp_ok, wp_exc, wp_of, wp_pure, ws_some, gv0, gvS, unB_bl, if_true, if_false, Bool.false_eq_true, Bool.not_true, Bool.not_false, wp_cutD, wp_cutXD,
  oC_eqI, oC_neI, oC_eqB, oC_neB, oC_lt, oC_le, oC_gt, oC_ge, oC_is, oC_isNot, oB_addI, oB_subI, lenA_tup, lenA_lst, fInt_int, fTuple_lst, asgK_some, startA, List.map_cons, List.map_nil, List.replicate, List.length_cons, List.length_nil, List.length_map, List.cons_append, List.nil_append, List.append_nil, List.set_cons_zero, List.set_cons_succ, mgTup_d, mgCons_c, mgNil_n, mgName_n, bind_some', wipeA, setAll, mLen, isN_optS, isN_optI, isN_str, isN_int, isN_tup, isN_non, loopI, true_and, and_true, and_self, Nat.reduceAdd, Nat.reduceLT, Nat.reduceLeDiff, Nat.reduceEqDiff, Nat.reduceSub, Int.reduceEq, Int.reduceLT, Int.reduceLE, Int.reduceSub, Int.reduceAdd, Int.cast_ofNat_Int, decide_true, decide_false, not_true, not_false_iff, Nat.zero_add, unD_nil, unD_cons, Option.map_some, sizeLine, Nat.reducePow, Option.isNone_none, Option.isNone_some, *])
section
variable {j : Nat} {h : AHp} {M : Mo}
def sch (k : List (List Fld)) : D := .obj "Schema" [encKs k]
theorem slot_rows : slotIx (T.mo 40 (j + 1)) "rows" "Schema" = some 0 := by kernel_rfl
theorem gd_inst (g : Gd h) {c : Str} {fs : List (Option W)} (l : fs.all (lowO (h.length + 1)) = true) : Gd (h ++ [.inst c fs]) := g.app (fun o ho => by
  rw [List.mem_singleton] at ho
  subst ho
  exact l)
theorem seqD_Ks (k : List (List Fld)) : seqD (.d (encKs k)) = some (k.map encK) := rfl
theorem init_ok (g : Gd h) {k : List (List Fld)} (pk : OkKs k) (h1 : 1 ≤ k.length) (h3 : k.length ≤ 3) :
    r_Schema___init__ (j + 4) [.ref h.length, .d (encKs k)] (h ++ [.inst "Schema" []]) = match wrong k with
      | none => some (.ok (.d .non), h ++ [.inst "Schema" [some (.d (encKs k))]])
      | some i => some (.exc "BadSchema" [("kind", .int (i : Nat))], h ++ [.inst "Schema" []]) := by
  rw [sh_Schema___init__]
  have g1 : Gd (h ++ [.inst "Schema" []]) := gd_inst g rfl
  have g2 : Gd (h ++ [.inst "Schema" [some (.d (encKs k))]]) := gd_inst g rfl
  have key : WP (mFn 4 (s_Schema___init__ (j + 3) (T.mo 40 (j + 3 + 1))) [.ref h.length, .d (encKs k)] (h ++ [.inst "Schema" []])) (fun w h' => w = .d .non ∧ h' = h ++ [.inst "Schema" [some (.d (encKs k))]] ∧ wrong k = none) (fun c fs h' => ∃ i, wrong k = some i ∧ c = "BadSchema" ∧ fs = [(("kind" : Str), D.int (i : Nat))] ∧ h' = h ++ [.inst "Schema" []]) := by
    have e1 : isiM (T.mo 40 (j + 3 + 1)) false (.ty "tuple") (.d (encKs k)) (h ++ [.inst "Schema" []]) = some (.ok (.d (.bl true)), (h ++ [.inst "Schema" []])) := isi_tup _
    have e2 := lenA_Ks (h := h ++ [.inst "Schema" []]) (M := T.mo 40 (j + 3 + 1)) k
    have ik := items_Ks k
    have sq := seqD_Ks k
    have en := enumW_map encK k
    have hn1 : decide ((1 : Int) ≤ (k.length : Nat)) = true := by simp; omega
    have hn3 : decide (((k.length : Nat) : Int) ≤ 3) = true := by simp; omega
    unfold s_Schema___init__
    walk_at "wps"
    rw [comp_all (fun x => W.d (encK x)) (fun x => .bl true) k (fun x hx => ⟨_, rfl, by
      have e3 : isiM (T.mo 40 (j + 3 + 1)) false (.ty "tuple") (.d (encK x)) (h ++ [.inst "Schema" []]) = some (.ok (.d (.bl true)), (h ++ [.inst "Schema" []])) := isi_tup _
      walk_at "wps"⟩) (szLine (by omega))]
    have hall : ((k.map fun _ => true).all id) = true := by simp
    walk_at "wps"
    refine loop_inv (fun p : List Fld × Nat => W.d (.tup [.int ((p.2 : Nat) : Int), encK p.1])) (fun r σ h' => h' = h ++ [.inst "Schema" []] ∧ (∃ a b, σ = [some (.ref h.length), some (.d (encKs k)), a, b]) ∧ ∃ i, r = (k.drop i).zipIdx i ∧ wrong k = wrongAt k.length i (k.drop i)) ?_ ?_ k.zipIdx _ _ ⟨rfl, ⟨_, _, rfl⟩, 0, rfl, rfl⟩
    · rintro ⟨y, n⟩ r σ h' ⟨rfl, ⟨a, b, rfl⟩, i, hr, hw⟩
      cases q : k.drop i with
      | nil => rw [q] at hr; cases hr
      | cons y' r' =>
        rw [q, List.zipIdx_cons] at hr
        cases hr
        have hy : y ∈ k := List.mem_of_mem_drop (i := n) (by rw [q]; exact List.mem_cons_self)
        refine ⟨[some (.ref h.length), some (.d (encKs k)), some (.d (.int (n : Nat))), some (.d (encK y))], rfl, ?_⟩
        have e4 := is_kind_ok (j := j) g1 (pk.1 y hy) (pk.2 y hy) k.length
        rw [q] at hw
        unfold wrongAt at hw
        have q' : k.drop (n + 1) = r' := by
          have := congrArg List.tail q
          simpa using this
        cases c : isKind k.length y with
        | true =>
          rw [c] at e4 hw
          rw [if_pos rfl] at hw
          have fin : ∃ i, r'.zipIdx (n + 1) = (k.drop i).zipIdx i ∧ wrong k = wrongAt k.length i (k.drop i) := ⟨n + 1, by rw [q'], by rw [q']; exact hw⟩
          clear ik sq en hw q q' hall
          generalize hW : wrong k = wk at fin ⊢
          clear hW
          walk_at "wps"
          exact ⟨_, _, rfl⟩
        | false =>
          rw [c] at e4 hw
          simp only [Bool.false_eq_true, if_false] at hw
          clear ik sq en q q' hall
          walk_at "wps"
          first | exact ⟨n, rfl⟩ | exact ⟨n, rfl, rfl⟩ | trace_state
    · rintro σ h' ⟨rfl, ⟨a, b, rfl⟩, i, hr, hw⟩
      have q : k.drop i = [] := by
        cases q : k.drop i with
        | nil => rfl
        | cons y r => rw [q, List.zipIdx_cons] at hr; cases hr
      rw [q] at hw
      have hw : wrong k = none := hw
      have e5 := stoK_eq (M := T.mo 40 (j + 3 + 1)) (w := .d (encKs k)) (σ := [some (.ref h.length), some (.d (encKs k)), a, b]) (h := h ++ [.inst "Schema" []]) (a := h.length) get_app0 slot_rows
      rw [set_app0] at e5
      have e6 : putA 0 (.d (encKs k)) [] = [some (.d (encKs k))] := rfl
      rw [e6] at e5
      have el : (h ++ [AO.inst "Schema" []]).length = (h ++ [AO.inst "Schema" [some (.d (encKs k))]]).length := by simp
      clear ik sq en hr q hall
      walk_at "wps"
      exact rfl
  obtain ⟨r, h', e, z⟩ := key
  rw [e]
  cases r with
  | ok w => obtain ⟨rfl, rfl, q⟩ := z; rw [q]
  | exc c fs => obtain ⟨i, q, rfl, rfl, rfl⟩ := z; rw [q]
theorem make_ok (g : Gd h) {k : List (List Fld)} (pk : OkKs k) (h1 : 1 ≤ k.length) (h3 : k.length ≤ 3) :
    mkEnd "Schema" h.length (r_Schema___init__ (j + 4) [.ref h.length, .d (encKs k)] (h ++ [.inst "Schema" []])) = match wrong k with
      | none => some (.ok (.d (sch k)), h)
      | some i => some (.exc "BadSchema" [("kind", .int (i : Nat))], h) := by
  rw [init_ok g pk h1 h3]
  cases wrong k with
  | none =>
    have e1 : mkEnd "Schema" h.length (some (.ok (.d .non), h ++ [.inst "Schema" [some (.d (encKs k))]])) = cutR h.length (.ok (.d (sch k))) (h ++ [.inst "Schema" [some (.d (encKs k))]]) := by
      simp only [mkEnd, isN, get_app0, if_true]
      rfl
    refine e1.trans ?_
    rw [cut_app _ rfl]
    exact WP.eq ((wp_cut rfl g rfl).mpr ⟨rfl, rfl⟩)
  | some i =>
    show cutR h.length (.exc _ _) (h ++ [_]) = _
    rw [cut_app _ rfl]
    exact WP.eqx ((wp_cutX rfl g).mpr ⟨rfl, rfl, rfl⟩)
end
section
variable {j : Nat} {h : AHp} {M : Mo}
theorem at_rows (k : List (List Fld)) : attrM (T.mo 40 (j + 1)) "rows" (.d (sch k)) h = some (.ok (.d (encKs k)), h) := by kernel_rfl
theorem at_kinds0 (k : List (List Fld)) : attrM (T.mo 40 (j + 1)) "kinds" (.d (sch k)) h = mNoX (mLen 1 (fun ws => r_Schema_kinds j (ws ++ [])) [.d (sch k)]) h := by kernel_rfl
theorem kinds_ok (g : Gd h) (k : List (List Fld)) : r_Schema_kinds (j + 1) [.d (sch k)] h = some (.ok (.d (encKs k)), h) := by
  rw [sh_Schema_kinds]
  refine WP.eq ?_
  have e1 := at_rows (j := j) (h := h) k
  unfold s_Schema_kinds
  walk_at "wps"
theorem at_kinds (g : Gd h) (k : List (List Fld)) : attrM (T.mo 40 (j + 2)) "kinds" (.d (sch k)) h = some (.ok (.d (encKs k)), h) := by
  rw [at_kinds0]
  refine WP.eq ?_
  have e1 := kinds_ok (j := j) g k
  rw [wp_noX]
  walk_at "wps"
theorem len0 (k : List (List Fld)) : lenA (T.mo 40 (j + 1)) [.d (sch k)] h = mBind (mLen 1 (fun ws => r_Schema___len__ j (ws ++ [])) [.d (sch k)]) (fun w => mOf (match unI w with | some i => if 0 ≤ i ∧ i < 2 ^ 63 then some (.d (.int i)) else none | none => none)) h := by kernel_rfl
theorem len_ok (g : Gd h) (k : List (List Fld)) (hk : k.length ≤ 20) : lenA (T.mo 40 (j + 2)) [.d (sch k)] h = some (.ok (.d (.int (k.length : Nat))), h) := by
  rw [len0]
  refine WP.eq ?_
  have e1 : r_Schema___len__ (j + 1) [.d (sch k)] h = some (.ok (.d (.int (k.length : Nat))), h) := by
    rw [sh_Schema___len__]
    refine WP.eq ?_
    have e1 := at_rows (j := j) (h := h) k
    have e2 := lenA_Ks (h := h) (M := T.mo 40 (j + 1)) k
    unfold s_Schema___len__
    walk_at "wps"
  walk_at "wps"
  have e2 : unI (.d (.int (k.length : Nat))) = some ((k.length : Nat) : Int) := rfl
  rw [e2]
  dsimp only
  rw [if_pos (by omega)]
  walk_at "wps"
theorem isi_sch (k : List (List Fld)) : isiM (T.mo 40 (j + 1)) false (.own "Schema") (.d (sch k)) h = some (.ok (.d (.bl true)), h) := by kernel_rfl
theorem eq0 (k k' : List (List Fld)) : oC (T.mo 40 (j + 1)) .Eq (.d (sch k)) (.d (sch k')) h = mLen 2 (fun ws => r_Schema___eq__ j (ws ++ [])) [.d (sch k), .d (sch k')] h := by kernel_rfl
theorem eq_ok (g : Gd h) {k k' : List (List Fld)} (p : OkKs k) (p' : OkKs k') : oC (T.mo 40 (j + 2)) .Eq (.d (sch k)) (.d (sch k')) h = some (.ok (.d (.bl (decide (k = k')))), h) := by
  rw [eq0]
  refine WP.eq ?_
  have e1 : r_Schema___eq__ (j + 1) [.d (sch k), .d (sch k')] h = some (.ok (.d (.bl (decide (k = k')))), h) := by
    rw [sh_Schema___eq__]
    refine WP.eq ?_
    have e0 := isi_sch (j := j) (h := h) k'
    have e1 := at_rows (j := j) (h := h) k
    have e2 := at_rows (j := j) (h := h) k'
    have e3 := cmKs.oEq (M := T.mo 40 (j + 1)) (h := h) (by decide) p.1 p'.1
    unfold s_Schema___eq__
    walk_at "wps"
  walk_at "wps"
def encP (p : Nat × Str) : D := .tup [.int (p.1 : Nat), .str p.2]
def P18 : List (Nat × Str) := S6.map (fun x => (0, x)) ++ S6.map (fun x => (1, x)) ++ S6.map (fun x => (2, x))
theorem mem18 : ∀ p ∈ P18, p.2 ∈ S6 ∧ p.1 ≤ 2 := by decide +kernel
theorem sub69 : ∀ x ∈ S6, x ∈ S9 := by decide +kernel
def fieldAt (k : List (List Fld)) (p : Nat × Str) : Option Fld := (k[p.1]?).bind fun x => x.find? fun f => decide (f.n = p.2)
theorem ixP0 (p : Nat × Str) : oIx M (.d (encP p)) (.d (.int 0)) h = some (.ok (.d (.int (p.1 : Nat))), h) := rfl
theorem ixP1 (p : Nat × Str) : oIx M (.d (encP p)) (.d (.int 1)) h = some (.ok (.d (.str p.2)), h) := rfl
theorem inS0 (k : List (List Fld)) (p : Nat × Str) : oC (T.mo 40 (j + 1)) .In (.d (encP p)) (.d (sch k)) h = mBind (mBind (mLen 2 (fun ws => r_Schema___contains__ j (ws ++ [])) [.d (sch k), .d (encP p)]) (fun w => mOf (unB w))) (fun b => mPure (.d (.bl b))) h := by kernel_rfl
theorem notInS0 (k : List (List Fld)) (p : Nat × Str) : oC (T.mo 40 (j + 1)) .NotIn (.d (encP p)) (.d (sch k)) h = mBind (mBind (mLen 2 (fun ws => r_Schema___contains__ j (ws ++ [])) [.d (sch k), .d (encP p)]) (fun w => mOf (unB w))) (fun b => mPure (.d (.bl (!b)))) h := by kernel_rfl
theorem contains_ok (g : Gd h) {k : List (List Fld)} (pk : OkKs k) (hk : k.length ≤ 20) {p : Nat × Str} (hp : p.2 ∈ S6) : r_Schema___contains__ (j + 2) [.d (sch k), .d (encP p)] h = some (.ok (.d (.bl (fieldAt k p).isSome)), h) := by
  rw [sh_Schema___contains__]
  refine WP.eq ?_
  have e0 : isiM (T.mo 40 (j + 1 + 1)) false (.ty "tuple") (.d (encP p)) h = some (.ok (.d (.bl true)), h) := isi_tup _
  have e1 : lenA (T.mo 40 (j + 1 + 1)) [.d (encP p)] h = some (.ok (.d (.int 2)), h) := lenA_tup _
  have e2 := at_rows (j := j + 1) (h := h) k
  have e3 := lenA_Ks (h := h) (M := T.mo 40 (j + 1 + 1)) k
  have p0 := ixP0 (h := h) (M := T.mo 40 (j + 1 + 1)) p
  have p1 := ixP1 (h := h) (M := T.mo 40 (j + 1 + 1)) p
  have e4 := is_number_ok (j := j) g (p.1 : Nat) 0 ((k.length : Nat) - 1)
  have e5 := is_name_ok (j := j) g (sub69 _ hp)
  unfold s_Schema___contains__
  unfold fieldAt
  by_cases c : p.1 < k.length
  · have ei : k[p.1]? = some k[p.1] := List.getElem?_eq_getElem c
    have e6 := ix_Ks (M := T.mo 40 (j + 1 + 1)) (h := h) ei
    have hm := List.getElem_mem c
    generalize k[p.1] = kd at ei e6 hm
    have ik := items_K kd
    have f0 := fun x => ixF0 (h := h) (M := T.mo 40 (j + 1 + 1)) x
    have hd : decide ((0 : Int) ≤ (p.1 : Nat) ∧ ((p.1 : Nat) : Int) ≤ (k.length : Nat) - 1) = true := by simp; omega
    have hs : decide (p.2 ∈ S6) = true := by simp [hp]
    rw [hd] at e4
    rw [hs] at e5
    have e7 : oC (T.mo 40 (j + 1 + 1)) .In (.d (.str p.2)) (.d (.lst (kd.map fun x => .str x.n))) h = some (.ok (.d (.bl (decide (p.2 ∈ kd.map (·.n))))), h) := by
      have := cmStr.inA (h := h) (by decide) (a := p.2) (l := kd.map (·.n)) (ok6 _ hp) (fun b hb => by
        obtain ⟨y, hy, rfl⟩ := List.mem_map.mp hb
        exact ok9 _ (pk.1 kd hm y hy).1) false
      rw [List.map_map] at this
      exact this
    clear hd hs hp e3
    have e3 := lenA_Ks (h := h) (M := T.mo 40 (j + 1 + 1)) k
    walk_at "wps"
    rw [comp_all (fun x => W.d (encF x)) (fun x => .str x.n) kd (fun x hx => ⟨_, rfl, by walk_at "wps"⟩) (szLine (by have := pk.2 kd hm; omega))]
    walk_at "wps"
    congr 2
    rw [Bool.eq_iff_iff]
    simp only [decide_eq_true_eq, List.mem_map, List.find?_isSome]
  · have hd : decide ((0 : Int) ≤ (p.1 : Nat) ∧ ((p.1 : Nat) : Int) ≤ (k.length : Nat) - 1) = false := by simp; omega
    rw [hd] at e4
    clear hd hp
    have ei : k[p.1]? = none := List.getElem?_eq_none (by omega)
    walk_at "wps"
    rfl
theorem inS (g : Gd h) {k : List (List Fld)} (pk : OkKs k) (hk : k.length ≤ 20) {p : Nat × Str} (hp : p.2 ∈ S6) : oC (T.mo 40 (j + 3)) .In (.d (encP p)) (.d (sch k)) h = some (.ok (.d (.bl (fieldAt k p).isSome)), h) := by
  rw [inS0]
  refine WP.eq ?_
  have e1 := contains_ok (j := j) g pk hk hp
  clear hp
  walk_at "wps"
theorem notInS (g : Gd h) {k : List (List Fld)} (pk : OkKs k) (hk : k.length ≤ 20) {p : Nat × Str} (hp : p.2 ∈ S6) : oC (T.mo 40 (j + 3)) .NotIn (.d (encP p)) (.d (sch k)) h = some (.ok (.d (.bl (!(fieldAt k p).isSome))), h) := by
  rw [notInS0]
  refine WP.eq ?_
  have e1 := contains_ok (j := j) g pk hk hp
  clear hp
  walk_at "wps"
end
end K02

end
section
set_option Elab.async false
set_option linter.all false
set_option maxRecDepth 100000
set_option maxHeartbeats 1000000
namespace K02
open PySem PySem.Spec PyProof.Rows L2 PM
local macro_rules | `(tactic| walk_at "wps") => `(tactic| try simp only [↓wp_fn, ↓ws_seq, ↓ws_ret, ↓ws_asg, ↓ws_if, ↓ws_expr, ↓ws_for, ↓ws_par, ↓ws_skip, ↓ws_raise, ↓ws_raiseL, ↓ws_try, ↓seqK_nx, ↓seqK_rt, ↓seqK_exc, ↓fnK_rt, ↓fnK_nx, ↓fnK_exc, ↓loopK_nx, ↓loopK_rt, ↓loopK_exc, ↓wp_var, ↓wp_c, ↓wp_bin, ↓wp_un, ↓wp_nil, ↓wp_cons, ↓wp_star, ↓wp_cb, ↓wp_b, ↓wp_notT, ↓wp_andT, ↓wp_orT, ↓wp_yes, ↓wp_andV, ↓wp_orV, ↓wp_notV, ↓wp_if, ↓wp_chain, ↓wp_neg, ↓wp_tup, ↓wp_lst, ↓wp_lstR, ↓wp_slice, ↓wp_noPart, ↓wp_part, ↓wp_comp, ↓wp_lenSc, ↓wp_frzQ, ↓wp_items, ↓wp_enum, ↓wp_rng1, ↓wp_zip, zipD_tup, zipD_lst, ↓ws_match, ws_cs1, ↓ws_cs2, ↓wp_lstRgR, ↓wp_dc2, ↓wp_comp2, ↓wp_rng3, ↓wp_lstRg1, ↓wp_mthA, ↓ws_putK, oB_mulI, oB_modI, oB_addL, oB_addT, Int.reducePow, Int.reduceNeg, or_true, true_or, ↓tryK_rt, ↓tryK_nx, tryK_exc, ↓suiteK_rtD, setO_none, setO_some, ↓ws_stoA, ↓wp_make, ↓wp_bind, ↓mthK_cnt, fCnt_eq, fBs_map, wp_ok, wp_exc, wp_of, wp_pure, ws_some, gv0, gvS, unB_bl, if_true, if_false, Bool.false_eq_true, Bool.not_true, Bool.not_false, wp_cutD, wp_cutXD,
  oC_eqI, oC_neI, oC_eqB, oC_neB, oC_lt, oC_le, oC_gt, oC_ge, oC_is, oC_isNot, oB_addI, oB_subI, lenA_tup, lenA_lst, fInt_int, fTuple_lst, asgK_some, startA, List.map_cons, List.map_nil, List.replicate, List.length_cons, List.length_nil, List.length_map, List.cons_append, List.nil_append, List.append_nil, List.set_cons_zero, List.set_cons_succ, mgTup_d, mgCons_c, mgNil_n, mgName_n, bind_some', wipeA, setAll, mLen, isN_optS, isN_optI, isN_str, isN_int, isN_tup, isN_non, loopI, true_and, and_true, and_self, Nat.reduceAdd, Nat.reduceLT, Nat.reduceLeDiff, Nat.reduceEqDiff, Nat.reduceSub, Int.reduceEq, Int.reduceLT, Int.reduceLE, Int.reduceSub, Int.reduceAdd, Int.cast_ofNat_Int, decide_true, decide_false, not_true, not_false_iff, Nat.zero_add, unD_nil, unD_cons, Option.map_some, sizeLine, Nat.reducePow, Option.isNone_none, Option.isNone_some, *])
section
variable {j : Nat} {h : AHp} {M : Mo}
def cmOF : Cm 1 (fun o : Option Fld => ∀ a, o = some a → OkF a) (optD encF) := cmOpt cmF fun _ => rfl
theorem okOF {k : List (List Fld)} (pk : OkKs k) (p : Nat × Str) : ∀ a, fieldAt k p = some a → OkF a := fun a e => by
  unfold fieldAt at e
  cases q : k[p.1]? with
  | none => rw [q] at e; cases e
  | some kd =>
    rw [q] at e
    exact pk.1 kd (List.mem_of_getElem? q) a (List.mem_of_find?_eq_some e)
theorem head_lst (l : List Fld) (o : Fld) (r : List Fld) (e : l = o :: r) : oIx M (.d (.lst (l.map encF))) (.d (.int 0)) h = some (.ok (.d (encF o)), h) := by
  subst e
  rw [oIx_lst]
  unfold atI ixN
  simp [mOf]
theorem find_filter {l : List Fld} {x : Str} {o : Fld} (e : l.find? (fun f => decide (f.n = x)) = some o) : ∃ r, l.filter (fun f => decide (f.n = x)) = o :: r := by
  have hh := List.head?_filter (p := fun f : Fld => decide (f.n = x)) (l := l)
  rw [e] at hh
  cases q : l.filter fun f : Fld => decide (f.n = x) with
  | nil => rw [q] at hh; cases hh
  | cons a r => rw [q] at hh; cases hh; exact ⟨r, rfl⟩
theorem find_filter0 {l : List Fld} {x : Str} (e : l.find? (fun f => decide (f.n = x)) = none) : l.filter (fun f => decide (f.n = x)) = [] := by
  have hh := List.head?_filter (p := fun f : Fld => decide (f.n = x)) (l := l)
  rw [e] at hh
  cases q : l.filter fun f : Fld => decide (f.n = x) with
  | nil => rfl
  | cons a r => rw [q] at hh; cases hh
theorem getitem_ok (g : Gd h) {k : List (List Fld)} (pk : OkKs k) (hk : k.length ≤ 20) {p : Nat × Str} (hp : p.2 ∈ S6) : r_Schema___getitem__ (j + 3) [.d (sch k), .d (encP p)] h = match fieldAt k p with
    | some f => some (.ok (.d (encF f)), h)
    | none => some (.exc "BadField" [], h) := by
  rw [sh_Schema___getitem__]
  have e0 := notInS (j := j) g pk hk hp
  unfold s_Schema___getitem__
  cases q : fieldAt k p with
  | none =>
    refine WP.eqx ?_
    rw [q] at e0
    clear hp
    simp only [Option.isSome_none, Bool.not_false] at e0
    walk_at "wps"
  | some f =>
    refine WP.eq ?_
    rw [q] at e0
    simp only [Option.isSome_some, Bool.not_true] at e0
    unfold fieldAt at q
    cases q1 : k[p.1]? with
    | none => rw [q1] at q; cases q
    | some kd =>
      rw [q1] at q
      rw [Option.bind_some] at q
      have hm := List.mem_of_getElem? q1
      have e2 := at_rows (j := j + 2) (h := h) k
      have e6 := ix_Ks (M := T.mo 40 (j + 2 + 1)) (h := h) q1
      have ik := items_K kd
      have f0 := fun x => ixF0 (h := h) (M := T.mo 40 (j + 2 + 1)) x
      have ee : encP p = .tup [.int (p.1 : Nat), .str p.2] := rfl
      obtain ⟨r, er⟩ := find_filter q
      have hl := head_lst (h := h) (M := T.mo 40 (j + 2 + 1)) _ f r er
      have hs := ok6 _ hp
      clear hp er q
      rw [ee] at e0 ⊢
      walk_at "wps"
      rw [comp_eq (fun x => W.d (encF x)) (fun f => decide (f.n = p.2)) encF kd [] (fun x hx => ⟨_, rfl, by
        have e9 := oC_eqS (M := T.mo 40 (j + 2 + 1)) (h := h) (ok9 _ (pk.1 kd hm x hx).1) hs
        walk_at "wps", fun _ => by walk_at "wps"⟩) (szLine (by have := pk.2 kd hm; simp; omega))]
      walk_at "wps"
theorem ixS0 (k : List (List Fld)) (p : Nat × Str) : oIx (T.mo 40 (j + 1)) (.d (sch k)) (.d (encP p)) h = mLen 2 (fun ws => r_Schema___getitem__ j (ws ++ [])) [.d (sch k), .d (encP p)] h := by kernel_rfl
theorem ixS (g : Gd h) {k : List (List Fld)} (pk : OkKs k) (hk : k.length ≤ 20) {p : Nat × Str} (hp : p.2 ∈ S6) : oIx (T.mo 40 (j + 4)) (.d (sch k)) (.d (encP p)) h = match fieldAt k p with
    | some f => some (.ok (.d (encF f)), h)
    | none => some (.exc "BadField" [], h) := by
  rw [ixS0]
  have e := getitem_ok (j := j) g pk hk hp
  rw [← e]
  rfl
theorem field_at_ok (g : Gd h) {k : List (List Fld)} (pk : OkKs k) (hk : k.length ≤ 20) {p : Nat × Str} (hp : p.2 ∈ S6) : r_field_at (j + 4) [.d (sch k), .d (encP p)] h = some (.ok (.d (optD encF (fieldAt k p))), h) := by
  rw [sh_field_at]
  refine WP.eq ?_
  have e0 := inS (j := j + 1) g pk hk hp
  have e1 := ixS (j := j) g pk hk hp
  unfold s_field_at
  clear hp
  cases q : fieldAt k p with
  | none =>
    rw [q] at e0 e1
    simp only [Option.isSome_none] at e0
    walk_at "wps"
    rfl
  | some f =>
    rw [q] at e0 e1
    simp only [Option.isSome_some] at e0
    dsimp only at e1
    walk_at "wps"
    rfl
end
end K02

end
section
set_option Elab.async false
set_option linter.all false
set_option maxRecDepth 100000
set_option maxHeartbeats 1000000
namespace K02
open PySem PySem.Spec PyProof.Rows L2 PM
local macro_rules | `(tactic| walk_at "wps") => `(tactic| try simp only [↓wp_fn, ↓ws_seq, ↓ws_ret, ↓ws_asg, ↓ws_if, ↓ws_expr, ↓ws_for, ↓ws_par, ↓ws_skip, ↓ws_raise, ↓ws_raiseL, ↓ws_try, ↓seqK_nx, ↓seqK_rt, ↓seqK_exc, ↓fnK_rt, ↓fnK_nx, ↓fnK_exc, ↓loopK_nx, ↓loopK_rt, ↓loopK_exc, ↓wp_var, ↓wp_c, ↓wp_bin, ↓wp_un, ↓wp_nil, ↓wp_cons, ↓wp_star, ↓wp_cb, ↓wp_b, ↓wp_notT, ↓wp_andT, ↓wp_orT, ↓wp_yes, ↓wp_andV, ↓wp_orV, ↓wp_notV, ↓wp_if, ↓wp_chain, ↓wp_neg, ↓wp_tup, ↓wp_lst, ↓wp_lstR, ↓wp_slice, ↓wp_noPart, ↓wp_part, ↓wp_comp, ↓wp_lenSc, ↓wp_frzQ, ↓wp_items, ↓wp_enum, ↓wp_rng1, ↓wp_zip, zipD_tup, zipD_lst, ↓ws_match, ws_cs1, ↓ws_cs2, ↓wp_lstRgR, ↓wp_dc2, ↓wp_comp2, ↓wp_rng3, ↓wp_lstRg1, ↓wp_mthA, ↓ws_putK, oB_mulI, oB_modI, oB_addL, oB_addT, Int.reducePow, Int.reduceNeg, or_true, true_or, ↓tryK_rt, ↓tryK_nx, tryK_exc, ↓suiteK_rtD, setO_none, setO_some, ↓ws_stoA, ↓wp_make, ↓wp_bind, ↓mthK_cnt, fCnt_eq, fBs_map, wp_ok, wp_exc, wp_of, wp_pure, ws_some, gv0, gvS, unB_bl, if_true, if_false, Bool.false_eq_true, Bool.not_true, Bool.not_false, wp_cutD, wp_cutXD,
  oC_eqI, oC_neI, oC_eqB, oC_neB, oC_lt, oC_le, oC_gt, oC_ge, oC_is, oC_isNot, oB_addI, oB_subI, lenA_tup, lenA_lst, fInt_int, fTuple_lst, asgK_some, startA, List.map_cons, List.map_nil, List.replicate, List.length_cons, List.length_nil, List.length_map, List.cons_append, List.nil_append, List.append_nil, List.set_cons_zero, List.set_cons_succ, mgTup_d, mgCons_c, mgNil_n, mgName_n, bind_some', wipeA, setAll, mLen, isN_optS, isN_optI, isN_str, isN_int, isN_tup, isN_non, loopI, true_and, and_true, and_self, Nat.reduceAdd, Nat.reduceLT, Nat.reduceLeDiff, Nat.reduceEqDiff, Nat.reduceSub, Int.reduceEq, Int.reduceLT, Int.reduceLE, Int.reduceSub, Int.reduceAdd, Int.cast_ofNat_Int, decide_true, decide_false, not_true, not_false_iff, Nat.zero_add, unD_nil, unD_cons, Option.map_some, sizeLine, Nat.reducePow, Option.isNone_none, Option.isNone_some, *])
def drw (ns : List Int) (b n : Int) : AO := .lst [.d (.lst (ns.map .int)), .d (.int b), .d (.int n)]
structure Dw (k : Nat) (h : AHp) : Prop where
  dr : ∃ ns b n, h[k]? = some (drw ns b n) ∧ 0 ≤ b ∧ 0 ≤ n
  gd : Gd h
  cl : h.all AO.cln = true
def Nx (k : Nat) (h h' : AHp) : Prop := Dw k h' ∧ ∃ o, h' = h.set k o
section
variable {j k : Nat} {h h1 h2 t : AHp} {M : Mo}
theorem Dw.lt (d : Dw k h) : k < h.length := by
  obtain ⟨ns, b, n, e, _⟩ := d.dr
  exact (List.getElem?_eq_some_iff.mp e).1
theorem Nx.len (n : Nx k h h1) : h1.length = h.length := by
  obtain ⟨_, o, rfl⟩ := n
  exact List.length_set
theorem Nx.refl (d : Dw k h) : Nx k h h := by
  obtain ⟨ns, b, n, e, _⟩ := d.dr
  refine ⟨d, drw ns b n, ?_⟩
  obtain ⟨hl, hx⟩ := List.getElem?_eq_some_iff.mp e
  rw [← hx, List.set_getElem_self]
theorem Nx.trans (a : Nx k h h1) (b : Nx k h1 h2) : Nx k h h2 := by
  obtain ⟨_, o, rfl⟩ := a
  obtain ⟨d, o', rfl⟩ := b
  exact ⟨d, o', by rw [List.set_set]⟩
theorem Dw.low (d : Dw k h) {n : Nat} {ns : List Int} {b m : Int} : AO.low n (drw ns b m) = true := rfl
theorem Dw.up (d : Dw k h) {ns : List Int} {b n : Int} (hb : 0 ≤ b) (hn : 0 ≤ n) : Nx k h (h.set k (drw ns b n)) := by
  refine ⟨⟨⟨ns, b, n, ?_, hb, hn⟩, d.gd.set rfl, ?_⟩, _, rfl⟩
  · rw [List.getElem?_set_self d.lt]
  · refine List.all_eq_true.mpr fun p hp => ?_
    rcases List.mem_or_eq_of_mem_set hp with z | z
    · exact List.all_eq_true.mp d.cl p z
    · subst z; rfl
def Plain (t : AHp) : Prop := ∀ o ∈ t, ∃ ds : List D, o = .lst (ds.map .d) ∨ o = .dead
theorem plain_low (p : Plain t) (n : Nat) : ∀ o ∈ t, AO.low n o = true := fun o ho => by
  obtain ⟨ds, rfl | rfl⟩ := p o ho
  · refine List.all_eq_true.mpr fun w hw => ?_
    obtain ⟨d, _, rfl⟩ := List.mem_map.mp hw
    rfl
  · rfl
theorem plain_cln (p : Plain t) : t.all AO.cln = true := List.all_eq_true.mpr fun o ho => by
  obtain ⟨ds, rfl | rfl⟩ := p o ho
  · refine List.all_eq_true.mpr fun w hw => ?_
    obtain ⟨d, _, rfl⟩ := List.mem_map.mp hw
    rfl
  · rfl
theorem Dw.app (d : Dw k h) (p : Plain t) : Dw k (h ++ t) := by
  obtain ⟨ns, b, n, e, z⟩ := d.dr
  refine ⟨⟨ns, b, n, ?_, z⟩, d.gd.app (plain_low p _), ?_⟩
  · rw [List.getElem?_append_left d.lt]; exact e
  · rw [List.all_append, d.cl, plain_cln p]; rfl
theorem Nx.back (d : Dw k h) (n : Nx k (h ++ t) h1) : ∃ h', h1 = h' ++ t ∧ Nx k h h' := by
  obtain ⟨⟨⟨ns, b, m, e, z⟩, gd, cl⟩, o, rfl⟩ := n
  have hl := d.lt
  rw [List.set_append_left _ _ hl] at e gd cl ⊢
  refine ⟨h.set k o, rfl, ?_⟩
  rw [List.getElem?_append_left (by rw [List.length_set]; exact hl), List.getElem?_set_self hl] at e
  cases e
  exact d.up z.1 z.2
theorem ix_ints {ns : List Int} {i : Int} (h0 : 0 ≤ i) (h1 : i < ns.length) : ∃ c ∈ ns, atI (ns.map D.int) i = some (.int c) := by
  unfold atI ixN
  rw [List.length_map, if_pos h0, if_pos h1]
  have hl : i.toNat < ns.length := by omega
  refine ⟨ns[i.toNat], List.getElem_mem hl, ?_⟩
  show (ns.map D.int)[i.toNat]? = _
  rw [List.getElem?_map, List.getElem?_eq_getElem hl]
  rfl
theorem atI_map {α β : Type} (f : α → β) (xs : List α) (i : Int) : atI (xs.map f) i = (atI xs i).map f := by
  unfold atI
  rw [List.length_map]
  cases ixN xs.length i with
  | none => rfl
  | some j => simp
theorem cell_ok (g : Gd h) (ns : List Int) {i : Int} (h0 : 0 ≤ i) : ∃ c, r__law_cell_at (j + 1) [.d (.lst (ns.map .int)), .d (.int i)] h = some (.ok (.d (.int c)), h) := by
  by_cases hl : i < (ns.length : Nat)
  · obtain ⟨c, _, e⟩ := ix_ints h0 hl
    refine ⟨c, ?_⟩
    rw [sh__law_cell_at]
    refine WP.eq ?_
    have e1 : oIx (T.mo 40 (j + 1)) (.d (.lst (ns.map .int))) (.d (.int i)) h = some (.ok (.d (.int c)), h) := by
      rw [oIx_lst, atI_map, e]
      rfl
    have hd : decide (i < ((ns.length : Nat) : Int)) = true := by simpa using hl
    have e2 : lenA (T.mo 40 (j + 1)) [.d (.lst (ns.map .int))] h = some (.ok (.d (.int (ns.length : Nat))), h) := by rw [lenA_lst, List.length_map]
    unfold s__law_cell_at
    clear h0 hl
    walk_at "wps"
  · refine ⟨0, ?_⟩
    rw [sh__law_cell_at]
    refine WP.eq ?_
    have hd : decide (i < ((ns.length : Nat) : Int)) = false := by simpa using hl
    have e2 : lenA (T.mo 40 (j + 1)) [.d (.lst (ns.map .int))] h = some (.ok (.d (.int (ns.length : Nat))), h) := by rw [lenA_lst, List.length_map]
    unfold s__law_cell_at
    clear h0 hl
    walk_at "wps"
def primes : List Int := [1000003, 1000033, 1000037, 1000039, 1000081, 1000099, 1000117, 1000121, 1000133, 1000151, 1000159, 1000171, 1000183, 1000187, 1000193, 1000199]
theorem draw_ok (g : Gd h) (c i b : Int) (h0 : 0 ≤ i) (hb : 0 < b) : ∃ v, r__law_draw (j + 1) [.d (.int c), .d (.int i), .d (.int b)] h = some (.ok (.d (.int v)), h) ∧ 0 ≤ v ∧ v < b := by
  obtain ⟨p, hp, e⟩ := ix_ints (ns := primes) (i := i % 16) (by omega) (by show i % 16 < 16; omega)
  have pp : 0 < p := by
    have : ∀ p ∈ primes, 0 < p := by decide
    exact this p hp
  refine ⟨(c * 48271 + i * 69621) % p % b, ?_, Int.emod_nonneg _ (by omega), Int.emod_lt_of_pos _ hb⟩
  rw [sh__law_draw]
  refine WP.eq ?_
  have e1 : oIx (T.mo 40 (j + 1)) (.d (.tup [.int 1000003, .int 1000033, .int 1000037, .int 1000039, .int 1000081, .int 1000099, .int 1000117, .int 1000121, .int 1000133, .int 1000151, .int 1000159, .int 1000171, .int 1000183, .int 1000187, .int 1000193, .int 1000199])) (.d (.int (i % 16))) h = some (.ok (.d (.int p)), h) := by
    rw [oIx_tup]
    have e' : atI [D.int 1000003, .int 1000033, .int 1000037, .int 1000039, .int 1000081, .int 1000099, .int 1000117, .int 1000121, .int 1000133, .int 1000151, .int 1000159, .int 1000171, .int 1000183, .int 1000187, .int 1000193, .int 1000199] (i % 16) = some (.int p) := e
    rw [e']
    rfl
  unfold s__law_draw
  clear h0 e hp
  walk_at "wps"
end
end K02

end
section
set_option Elab.async false
set_option linter.all false
set_option maxRecDepth 100000
set_option maxHeartbeats 1000000
namespace K02
open PySem PySem.Spec PyProof.Rows L2 PM
local macro_rules | `(tactic| walk_at "wps") => `(tactic| try simp only [↓wp_fn, ↓ws_seq, ↓ws_ret, ↓ws_asg, ↓ws_if, ↓ws_expr, ↓ws_for, ↓ws_par, ↓ws_skip, ↓ws_raise, ↓ws_raiseL, ↓ws_try, ↓seqK_nx, ↓seqK_rt, ↓seqK_exc, ↓fnK_rt, ↓fnK_nx, ↓fnK_exc, ↓loopK_nx, ↓loopK_rt, ↓loopK_exc, ↓wp_var, ↓wp_c, ↓wp_bin, ↓wp_un, ↓wp_nil, ↓wp_cons, ↓wp_star, ↓wp_cb, ↓wp_b, ↓wp_notT, ↓wp_andT, ↓wp_orT, ↓wp_yes, ↓wp_andV, ↓wp_orV, ↓wp_notV, ↓wp_if, ↓wp_chain, ↓wp_neg, ↓wp_tup, ↓wp_lst, ↓wp_lstR, ↓wp_slice, ↓wp_noPart, ↓wp_part, ↓wp_comp, ↓wp_lenSc, ↓wp_frzQ, ↓wp_items, ↓wp_enum, ↓wp_rng1, ↓wp_zip, zipD_tup, zipD_lst, ↓ws_match, ws_cs1, ↓ws_cs2, ↓wp_lstRgR, ↓wp_dc2, ↓wp_comp2, ↓wp_rng3, ↓wp_lstRg1, ↓wp_mthA, ↓ws_putK, oB_mulI, oB_modI, oB_addL, oB_addT, Int.reducePow, Int.reduceNeg, or_true, true_or, ↓tryK_rt, ↓tryK_nx, tryK_exc, ↓suiteK_rtD, setO_none, setO_some, ↓ws_stoA, ↓wp_make, ↓wp_bind, ↓mthK_cnt, fCnt_eq, fBs_map, wp_ok, wp_exc, wp_of, wp_pure, ws_some, gv0, gvS, unB_bl, if_true, if_false, Bool.false_eq_true, Bool.not_true, Bool.not_false, wp_cutD, wp_cutXD,
  oC_eqI, oC_neI, oC_eqB, oC_neB, oC_lt, oC_le, oC_gt, oC_ge, oC_is, oC_isNot, oB_addI, oB_subI, lenA_tup, lenA_lst, fInt_int, fTuple_lst, asgK_some, startA, List.map_cons, List.map_nil, List.replicate, List.length_cons, List.length_nil, List.length_map, List.cons_append, List.nil_append, List.append_nil, List.set_cons_zero, List.set_cons_succ, mgTup_d, mgCons_c, mgNil_n, mgName_n, bind_some', wipeA, setAll, mLen, isN_optS, isN_optI, isN_str, isN_int, isN_tup, isN_non, loopI, true_and, and_true, and_self, Nat.reduceAdd, Nat.reduceLT, Nat.reduceLeDiff, Nat.reduceEqDiff, Nat.reduceSub, Int.reduceEq, Int.reduceLT, Int.reduceLE, Int.reduceSub, Int.reduceAdd, Int.cast_ofNat_Int, decide_true, decide_false, not_true, not_false_iff, Nat.zero_add, unD_nil, unD_cons, Option.map_some, sizeLine, Nat.reducePow, Option.isNone_none, Option.isNone_some, *])
section
variable {j k : Nat} {h h1 h2 t : AHp} {M : Mo}
theorem pow_ok : oB M .Pow (.d (.int 10)) (.d (.int 18)) h = some (.ok (.d (.int 1000000000000000000)), h) := by kernel_rfl
theorem p1009 {m : Nat} (hm : m < 24) : 0 < (1009 : Int) ^ m ∧ ((1009 : Int) ^ m).natAbs.log2 < 9000 := by
  have h1 : 0 < (1009 : Int) ^ m := Int.pow_pos (by decide)
  refine ⟨h1, ?_⟩
  have h2 : ((1009 : Int) ^ m).natAbs = 1009 ^ m := by
    rw [Int.natAbs_pow]
    rfl
  rw [h2]
  have h3 : 1009 ^ m < 2 ^ 9000 := by
    calc 1009 ^ m ≤ 1009 ^ 23 := Nat.pow_le_pow_right (by decide) (by omega)
      _ < 2 ^ 9000 := by decide +kernel
  exact (Nat.log2_lt (by have : 0 < 1009 ^ m := Nat.pow_pos (by decide); omega)).mpr h3
theorem number_ok (g : Gd h) (c i b : Int) (h0 : 1 ≤ i) (h12 : i ≤ 12) (hb : 0 < b) : WP (r__law_number (j + 2) [.d (.int c), .d (.int i), .d (.int b)] h) (fun w h' => ∃ v, w = .d (.int v) ∧ 0 ≤ v ∧ v < b ∧ h' = h) E0' := by
  rw [sh__law_number]
  unfold s__law_number
  have hr : -4611686018427387904 ≤ i % 24 ∧ i % 24 < 4611686018427387904 := by omega
  walk_at "wps"
  rw [rng_map]
  refine loop_inv (fun i : Nat => W.d (.int ((i : Nat) : Int))) (fun r σ h' => h' = h ∧ ∃ m : Nat, ∃ w, σ = [some (.d (.int c)), some (.d (.int i)), some (.d (.int b)), some (.d (.int (1009 ^ m))), w, none, none] ∧ m + r.length = (i % 24).toNat) ?_ ?_ (List.range (i % 24).toNat) _ h ⟨rfl, 0, _, rfl, by simp⟩
  · rintro y r σ h' ⟨rfl, m, w, rfl, hm⟩
    refine ⟨_, rfl, ?_⟩
    have m1 := oB_mulI (M := T.mo 40 (j + 1 + 1)) (h := h') (1009 ^ m) 1009 (.inr ⟨by decide, by decide⟩)
    clear hr
    walk_at "wps"
    refine ⟨m + 1, _, by rw [Int.pow_succ], ?_⟩
    rw [List.length_cons] at hm
    omega
  · rintro σ h' ⟨rfl, m, w, rfl, hm⟩
    have pw := pow_ok (M := T.mo 40 (j + 1 + 1)) (h := h')
    obtain ⟨pp, pl⟩ := p1009 (m := m) (by simp at hm; omega)
    have dv := oB_divI (M := T.mo 40 (j + 1 + 1)) (h := h') (c - 1000000000000000000) (1009 ^ m) pp pl
    clear hr hm
    have mm := fun a => oB_mulI (M := T.mo 40 (j + 1 + 1)) (h := h') 977 a (.inl ⟨by decide, by decide⟩)
    have mm2 := fun a => oB_mulI (M := T.mo 40 (j + 1 + 1)) (h := h') 31 a (.inl ⟨by decide, by decide⟩)
    have m3 := oB_mulI (M := T.mo 40 (j + 1 + 1)) (h := h') (c % 1000003 + 977 * i) (c % 1000003 + 31 * i + 5) (.inl (by omega))
    obtain ⟨v, ev, v0, v1⟩ := draw_ok (j := j) g ((c % 1000003 + 977 * i) * (c % 1000003 + 31 * i + 5)) (i % 9 + 1) 999983 (by omega) (by decide)
    clear h0 h12 pp pl v0 v1
    walk_at "wps"
    split
    · exact ⟨_, rfl, Int.emod_nonneg _ (by omega), Int.emod_lt_of_pos _ hb⟩
    · exact ⟨_, rfl, Int.emod_nonneg _ (by omega), Int.emod_lt_of_pos _ hb⟩
theorem next_ok (d : Dw k h) {b : Int} (hb : 0 < b) : WP (r__law_next (j + 3) [.ref k, .d (.int b)] h) (fun w h' => ∃ v, w = .d (.int v) ∧ 0 ≤ v ∧ v < b ∧ Nx k h h') E0' := by
  rw [sh__law_next]
  unfold s__law_next
  obtain ⟨ns, y, n, e, y0, n0⟩ := d.dr
  have d' := d.up (ns := ns) (b := y) (n := n + 1) y0 (by omega)
  have hl := d.lt
  have i0 := oIx_ref (M := T.mo 40 (j + 2 + 1)) (i := 2) e
  have a0 : atI [W.d (.lst (ns.map .int)), .d (.int y), .d (.int n)] 2 = some (.d (.int n)) := rfl
  have pk := fun σ => putK_eq (h := h) (σ := σ) (w := .d (.int (n + 1))) (k := 2) (j := 2) e rfl
  have es : [W.d (.lst (ns.map .int)), .d (.int y), .d (.int n)].set 2 (.d (.int (n + 1))) = [W.d (.lst (ns.map .int)), .d (.int y), .d (.int (n + 1))] := rfl
  rw [es] at pk
  have e1 : (h.set k (drw ns y (n + 1)))[k]? = some (drw ns y (n + 1)) := List.getElem?_set_self hl
  have i1 := oIx_ref (M := T.mo 40 (j + 2 + 1)) (i := 2) e1
  have i2 := oIx_ref (M := T.mo 40 (j + 2 + 1)) (i := 1) e1
  have i3 := oIx_ref (M := T.mo 40 (j + 2 + 1)) (i := 0) e1
  have a1 : atI [W.d (.lst (ns.map .int)), .d (.int y), .d (.int (n + 1))] 2 = some (.d (.int (n + 1))) := rfl
  have a2 : atI [W.d (.lst (ns.map .int)), .d (.int y), .d (.int (n + 1))] 1 = some (.d (.int y)) := rfl
  have a3 : atI [W.d (.lst (ns.map .int)), .d (.int y), .d (.int (n + 1))] 0 = some (.d (.lst (ns.map .int))) := rfl
  rw [a0] at i0
  rw [a1] at i1
  rw [a2] at i2
  rw [a3] at i3
  have ee : AO.lst [W.d (.lst (ns.map .int)), .d (.int y), .d (.int (n + 1))] = drw ns y (n + 1) := rfl
  rw [ee] at pk
  have len : (h.set k (drw ns y (n + 1))).length = h.length := List.length_set
  generalize h.set k (drw ns y (n + 1)) = H at d' pk e1 i1 i2 i3 len
  have dv := oB_divI (M := T.mo 40 (j + 2 + 1)) (h := H) (n + 1) 12 (by decide) (by decide)
  obtain ⟨c, ec⟩ := cell_ok (j := j + 1) d'.1.gd ns (i := y + (n + 1) / 12) (by omega)
  have mm2 := fun a => oB_mulI (M := T.mo 40 (j + 2 + 1)) (h := H) 31 a (.inl ⟨by decide, by decide⟩)
  have nm := number_ok (j := j) d'.1.gd (c + 31 * ((n + 1) / 12)) ((n + 1) % 12 + 1) b (by omega) (by omega) hb
  clear e e1 a0 a1 a2 a3 es ee y0 n0
  walk_at "wps"
  refine nm.imp ?_
  rintro w h' ⟨v, rfl, v0, v1, rfl⟩
  rw [wp_cut len d'.1.gd rfl]
  exact ⟨v, rfl, v0, v1, d'⟩
theorem pick_ok (d : Dw k h) {ds : List D} (hd : ds ≠ []) : WP (r__law_pick (j + 4) [.ref k, .d (.lst ds)] h) (fun w h' => ∃ x ∈ ds, w = .d x ∧ Nx k h h') E0' := by
  rw [sh__law_pick]
  unfold s__law_pick
  have hp : 0 < ds.length := List.length_pos_iff.mpr hd
  have nx := next_ok (j := j) d (b := (ds.length : Nat)) (by omega)
  clear hd hp
  walk_at "wps"
  refine nx.imp ?_
  rintro w h' ⟨v, rfl, v0, v1, n⟩
  have hv : v.toNat < ds.length := by omega
  have e : oIx (T.mo 40 (j + 3 + 1)) (.d (.lst ds)) (.d (.int v)) h' = some (.ok (.d ds[v.toNat]), h') := by
    rw [oIx_lst]
    unfold atI ixN
    rw [List.length_map, if_pos v0, if_pos v1]
    show mOf ((ds.map W.d)[v.toNat]?) h' = _
    rw [List.getElem?_map, List.getElem?_eq_getElem hv]
    rfl
  walk_at "wps"
  rw [wp_cut n.len n.1.gd rfl]
  exact ⟨_, List.getElem_mem hv, rfl, n⟩
end
end K02

end
section
set_option Elab.async false
set_option linter.all false
set_option maxRecDepth 100000
set_option maxHeartbeats 1000000
namespace K02
open PySem PySem.Spec PyProof.Rows L2 PM
local macro_rules | `(tactic| walk_at "wps") => `(tactic| try simp only [↓wp_fn, ↓ws_seq, ↓ws_ret, ↓ws_asg, ↓ws_if, ↓ws_expr, ↓ws_for, ↓ws_par, ↓ws_skip, ↓ws_raise, ↓ws_raiseL, ↓ws_try, ↓seqK_nx, ↓seqK_rt, ↓seqK_exc, ↓fnK_rt, ↓fnK_nx, ↓fnK_exc, ↓loopK_nx, ↓loopK_rt, ↓loopK_exc, ↓wp_var, ↓wp_c, ↓wp_bin, ↓wp_un, ↓wp_nil, ↓wp_cons, ↓wp_star, ↓wp_cb, ↓wp_b, ↓wp_notT, ↓wp_andT, ↓wp_orT, ↓wp_yes, ↓wp_andV, ↓wp_orV, ↓wp_notV, ↓wp_if, ↓wp_chain, ↓wp_neg, ↓wp_tup, ↓wp_lst, ↓wp_lstR, ↓wp_slice, ↓wp_noPart, ↓wp_part, ↓wp_comp, ↓wp_lenSc, ↓wp_frzQ, ↓wp_items, ↓wp_enum, ↓wp_rng1, ↓wp_zip, zipD_tup, zipD_lst, ↓ws_match, ws_cs1, ↓ws_cs2, ↓wp_lstRgR, ↓wp_dc2, ↓wp_comp2, ↓wp_rng3, ↓wp_lstRg1, ↓wp_mthA, ↓ws_putK, oB_mulI, oB_modI, oB_addL, oB_addT, Int.reducePow, Int.reduceNeg, or_true, true_or, ↓tryK_rt, ↓tryK_nx, tryK_exc, ↓suiteK_rtD, setO_none, setO_some, ↓ws_stoA, ↓wp_make, ↓wp_bind, ↓mthK_cnt, fCnt_eq, fBs_map, wp_ok, wp_exc, wp_of, wp_pure, ws_some, gv0, gvS, unB_bl, if_true, if_false, Bool.false_eq_true, Bool.not_true, Bool.not_false, wp_cutD, wp_cutXD,
  oC_eqI, oC_neI, oC_eqB, oC_neB, oC_lt, oC_le, oC_gt, oC_ge, oC_is, oC_isNot, oB_addI, oB_subI, lenA_tup, lenA_lst, fInt_int, fTuple_lst, asgK_some, startA, List.map_cons, List.map_nil, List.replicate, List.length_cons, List.length_nil, List.length_map, List.cons_append, List.nil_append, List.append_nil, List.set_cons_zero, List.set_cons_succ, mgTup_d, mgCons_c, mgNil_n, mgName_n, bind_some', wipeA, setAll, mLen, isN_optS, isN_optI, isN_str, isN_int, isN_tup, isN_non, loopI, true_and, and_true, and_self, Nat.reduceAdd, Nat.reduceLT, Nat.reduceLeDiff, Nat.reduceEqDiff, Nat.reduceSub, Int.reduceEq, Int.reduceLT, Int.reduceLE, Int.reduceSub, Int.reduceAdd, Int.cast_ofNat_Int, decide_true, decide_false, not_true, not_false_iff, Nat.zero_add, unD_nil, unD_cons, Option.map_some, sizeLine, Nat.reducePow, Option.isNone_none, Option.isNone_some, *])
section
variable {j k : Nat} {h h1 h2 t H H1 : AHp} {M : Mo}
structure Lo (k : Nat) (h H : AHp) : Prop where
  d : Dw k H
  len : h.length ≤ H.length
  eq : ∀ i, i < h.length → i ≠ k → H[i]? = h[i]?
theorem Nx.get (n : Nx k h h1) {a : Nat} (ha : a ≠ k) : h1[a]? = h[a]? := by
  obtain ⟨_, o, rfl⟩ := n
  exact List.getElem?_set_ne (Ne.symm ha)
theorem Lo.refl (d : Dw k h) : Lo k h h := ⟨d, Nat.le_refl _, fun _ _ _ => rfl⟩
theorem Lo.nx (l : Lo k h H) (n : Nx k H H1) : Lo k h H1 := ⟨n.1, by rw [n.len]; exact l.len, fun i hi hk => (n.get hk).trans (l.eq i hi hk)⟩
theorem Lo.push (l : Lo k h H) (ds : List D) : Lo k h (H ++ [.lst (ds.map .d)]) := ⟨l.d.app fun o ho => ⟨ds, .inl (List.mem_singleton.mp ho)⟩, by rw [List.length_append]; have := l.len; omega, fun i hi hk => by
  rw [List.getElem?_append_left (Nat.lt_of_lt_of_le hi l.len)]
  exact l.eq i hi hk⟩
theorem Dw.put (d : Dw k H) {a : Nat} {o : AO} (ha : a ≠ k) (lo : AO.low H.length o = true) (cl : o.cln = true) : Dw k (H.set a o) := by
  obtain ⟨ns, b, n, e, z⟩ := d.dr
  refine ⟨⟨ns, b, n, ?_, z⟩, d.gd.set lo, ?_⟩
  · rw [List.getElem?_set_ne ha]; exact e
  · refine List.all_eq_true.mpr fun p hp => ?_
    rcases List.mem_or_eq_of_mem_set hp with z | z
    · exact List.all_eq_true.mp d.cl p z
    · subst z; exact cl
theorem Lo.put (l : Lo k h H) (hk : k < h.length) {a : Nat} (ha : h.length ≤ a) {o : AO} (lo : AO.low H.length o = true) (cl : o.cln = true) : Lo k h (H.set a o) := ⟨l.d.put (by omega) lo cl, by rw [List.length_set]; exact l.len, fun i hi hk' => by
  rw [List.getElem?_set_ne (by omega)]
  exact l.eq i hi hk'⟩
theorem lowL (n : Nat) (ds : List D) : AO.low n (.lst (ds.map .d)) = true := plain_low (t := [.lst (ds.map .d)]) (fun o ho => ⟨ds, .inl (List.mem_singleton.mp ho)⟩) n _ List.mem_cons_self
theorem clnL (ds : List D) : AO.cln (.lst (ds.map .d)) = true := List.all_eq_true.mpr fun w hw => by
  obtain ⟨d, _, rfl⟩ := List.mem_map.mp hw
  rfl
theorem Lo.cut (l : Lo k h H) (d : Dw k h) : Nx k h (H.take h.length) := by
  have hk := d.lt
  obtain ⟨ns, b, n, e, z⟩ := l.d.dr
  have : H.take h.length = h.set k (drw ns b n) := by
    refine List.ext_getElem? fun i => ?_
    by_cases hi : i < h.length
    · rw [List.getElem?_take_of_lt hi]
      by_cases hik : i = k
      · subst hik
        rw [List.getElem?_set_self hk]
        exact e
      · rw [List.getElem?_set_ne (Ne.symm hik)]
        exact l.eq i hi hik
    · rw [List.getElem?_eq_none (by rw [List.length_take]; omega), List.getElem?_eq_none (by rw [List.length_set]; omega)]
  rw [this]
  exact d.up z.1 z.2
theorem Lo.wp (l : Lo k h H) (d : Dw k h) {x : D} {Q : W → AHp → Prop} {E : EK} (q : ∀ h', Nx k h h' → Q (.d x) h') : WP (cutR h.length (.ok (.d x)) H) Q E := by
  have n := l.cut d
  have e : cutR h.length (.ok (.d x)) H = cutR h.length (.ok (.d x)) (H.take h.length) := by
    unfold cutR
    rw [List.take_take, Nat.min_self]
  rw [e, wp_cut n.len n.1.gd rfl]
  exact q _ n
theorem memL {α : Type} {f : α → D} {l : List α} {x : D} (hx : x ∈ l.map f) : ∃ a ∈ l, x = f a := by
  obtain ⟨a, ha, rfl⟩ := List.mem_map.mp hx
  exact ⟨a, ha, rfl⟩
theorem rgD_map (n : Nat) : rgD 0 (n : Nat) = (List.range n).map fun i => D.int ((i : Nat) : Int) := by
  unfold rgD
  rw [Int.sub_zero, Int.toNat_natCast]
  refine List.map_congr_left fun i _ => ?_
  rw [Int.zero_add]
theorem mul2 (ds : List D) (hl : ds.length ≤ 20) : oB M .Mult (.d (.lst ds)) (.d (.int 2)) h = some (.ok (.d (.lst (ds ++ ds))), h) := by
  show mOf (if 0 ≤ (2 : Int) ∧ (2 : Int) < 1000 ∧ ds.length * (2 : Int).toNat ≤ sizeLine then some (W.d (.lst (List.replicate (2 : Int).toNat ds).flatten)) else none) h = _
  rw [if_pos ⟨by decide, by decide, szLine (by show ds.length * 2 ≤ 100; omega)⟩]
  show some (R.ok (W.d (.lst (List.replicate 2 ds).flatten)), h) = _
  simp [List.replicate]
theorem fTuple_ref {a : Nat} {ds : List D} (e : H[a]? = some (.lst (ds.map .d))) : fTuple [.ref a] H = some (.ok (.d (.tup ds)), H) := by
  have e2 : lstOf H (.ref a) = some (ds.map .d) := by unfold lstOf; dsimp only; rw [e]
  unfold fTuple
  dsimp only
  rw [e2]
  dsimp only
  rw [unD_d]
  rfl
theorem slF4 (y : Fld) : fSl (.d (encF y)) none (some 4) H = some (.ok (.d (.tup [.str y.n, optD .int y.t, .str y.f, .str y.m])), H) := rfl
theorem app_ref {n : Nat} {ma : MA} {a : Nat} {σ : Sl} {ds : List D} (e : H[a]? = some (.lst (ds.map .d))) : mthK M "append" n ma σ (.ref a) H = mBind (ma σ) (fun ws => fApp (.ref a) ws) H := mthK_app e
theorem app_eq {a : Nat} {ds : List D} {x : D} (e : H[a]? = some (.lst (ds.map .d))) (c : ds.length ≤ 50) : fApp (.ref a) [.d x] H = some (.ok (.d .non), H.set a (.lst ((ds ++ [x]).map .d))) := by
  rw [fApp_eq e (by rw [List.length_map]; exact Nat.lt_of_le_of_lt c (by decide)), List.map_append]
  rfl
theorem memSub {f : Fld → Bool} {l : List Fld} (p : ∀ x ∈ l, OkF x) : ∀ x ∈ l.filter f, OkF x := fun x hx => p x (List.mem_filter.mp hx).1
theorem items_lF (l : List Fld) : itemsOf (.d (.lst (l.map encF))) = some (l.map fun x => .d (encF x)) := by
  show some ((l.map encF).map W.d) = _
  rw [List.map_map]
  rfl
theorem Lo.pushN (l : Lo k h H) : Lo k h (H ++ [.lst []]) := l.push []
theorem oneF5 : ("one" : Str) ∈ F5 := by decide +kernel
theorem letter (v : Int) (v0 : 0 ≤ v) (v1 : v < 6) : ∃ x ∈ S6, oIx M (.d (.str "abcdef")) (.d (.int v)) h = some (.ok (.d (.str x)), h) := by
  have : v = 0 ∨ v = 1 ∨ v = 2 ∨ v = 3 ∨ v = 4 ∨ v = 5 := by omega
  rcases this with rfl | rfl | rfl | rfl | rfl | rfl
  · exact ⟨"a", by decide +kernel, by kernel_rfl⟩
  · exact ⟨"b", by decide +kernel, by kernel_rfl⟩
  · exact ⟨"c", by decide +kernel, by kernel_rfl⟩
  · exact ⟨"d", by decide +kernel, by kernel_rfl⟩
  · exact ⟨"e", by decide +kernel, by kernel_rfl⟩
  · exact ⟨"f", by decide +kernel, by kernel_rfl⟩
theorem ne_ref {a : Nat} {l : List Fld} (p : ∀ x ∈ l, OkF x) (e : H[a]? = some (.lst ((l.map encF).map .d))) : oC M .NotEq (.ref a) (.d (.lst [])) H = some (.ok (.d (.bl (!l.isEmpty))), H) := by
  have k := (cmLst cmF).fEq (h := H) (a := l) (b := []) (by decide) p (fun _ z => nomatch z) true
  have e1 : pyW H (.ref a) = pyW H (.d (.lst (l.map encF))) := by
    show (match H[a]? with | some (.lst ws) => (match unD ws with | some ds => (pyL ds).map PyData.list | none => none) | _ => none) = (pyL (l.map encF)).map PyData.list
    rw [e]
    dsimp only
    rw [unD_d]
  show fEq true (.ref a) (.d (.lst [])) H = _
  unfold fEq at k ⊢
  rw [e1]
  refine k.trans ?_
  cases l <;> rfl
theorem last_ref {a : Nat} {l : List Fld} {y : Fld} (e : H[a]? = some (.lst ((l.map encF).map .d))) (el : l.getLast? = some y) : oIx M (.ref a) (.d (.int (-1))) H = some (.ok (.d (encF y)), H) := by
  rw [oIx_ref e]
  obtain ⟨i, rfl⟩ := List.getLast?_eq_some_iff.mp el
  unfold atI ixN
  have hl : (((i ++ [y]).map encF).map W.d).length = i.length + 1 := by simp
  rw [hl, if_neg (by decide), if_pos (by omega)]
  have : ((-1 : Int) + ((i.length + 1 : Nat) : Int)).toNat = i.length := by omega
  rw [this]
  show mOf ((((i ++ [y]).map encF).map W.d)[i.length]?) H = _
  simp [mOf]
theorem frz_ref {a : Nat} {ds : List D} (e : H[a]? = some (.lst (ds.map .d))) : frzL H (.ref a) = some (.lst ds, H.set a .dead) := by
  unfold frzL
  dsimp only
  rw [e]
  dsimp only
  rw [unD_d]
  rfl
end
end K02

end
section
set_option Elab.async false
set_option linter.all false
set_option maxRecDepth 100000
set_option maxHeartbeats 1000000
namespace K02
open PySem PySem.Spec PyProof.Rows L2 PM
local macro_rules | `(tactic| walk_at "wps") => `(tactic| try simp only [↓wp_fn, ↓ws_seq, ↓ws_ret, ↓ws_asg, ↓ws_if, ↓ws_expr, ↓ws_for, ↓ws_par, ↓ws_skip, ↓ws_raise, ↓ws_raiseL, ↓ws_try, ↓seqK_nx, ↓seqK_rt, ↓seqK_exc, ↓fnK_rt, ↓fnK_nx, ↓fnK_exc, ↓loopK_nx, ↓loopK_rt, ↓loopK_exc, ↓wp_var, ↓wp_c, ↓wp_bin, ↓wp_un, ↓wp_nil, ↓wp_cons, ↓wp_star, ↓wp_cb, ↓wp_b, ↓wp_notT, ↓wp_andT, ↓wp_orT, ↓wp_yes, ↓wp_andV, ↓wp_orV, ↓wp_notV, ↓wp_if, ↓wp_chain, ↓wp_neg, ↓wp_tup, ↓wp_lst, ↓wp_lstR, ↓wp_slice, ↓wp_noPart, ↓wp_part, ↓wp_comp, ↓wp_lenSc, ↓wp_frzQ, ↓wp_items, ↓wp_enum, ↓wp_rng1, ↓wp_zip, zipD_tup, zipD_lst, ↓ws_match, ws_cs1, ↓ws_cs2, ↓wp_lstRgR, ↓wp_dc2, ↓wp_comp2, ↓wp_rng3, ↓wp_lstRg1, ↓wp_mthA, ↓ws_putK, oB_mulI, oB_modI, oB_addL, oB_addT, Int.reducePow, Int.reduceNeg, or_true, true_or, ↓tryK_rt, ↓tryK_nx, tryK_exc, ↓suiteK_rtD, setO_none, setO_some, ↓ws_stoA, ↓wp_make, ↓wp_bind, ↓mthK_cnt, fCnt_eq, fBs_map, wp_ok, wp_exc, wp_of, wp_pure, ws_some, gv0, gvS, unB_bl, if_true, if_false, Bool.false_eq_true, Bool.not_true, Bool.not_false, wp_cutD, wp_cutXD,
  oC_eqI, oC_neI, oC_eqB, oC_neB, oC_lt, oC_le, oC_gt, oC_ge, oC_is, oC_isNot, oB_addI, oB_subI, lenA_tup, lenA_lst, fInt_int, fTuple_lst, asgK_some, startA, List.map_cons, List.map_nil, List.replicate, List.length_cons, List.length_nil, List.length_map, List.cons_append, List.nil_append, List.append_nil, List.set_cons_zero, List.set_cons_succ, mgTup_d, mgCons_c, mgNil_n, mgName_n, bind_some', wipeA, setAll, mLen, isN_optS, isN_optI, isN_str, isN_int, isN_tup, isN_non, loopI, true_and, and_true, and_self, Nat.reduceAdd, Nat.reduceLT, Nat.reduceLeDiff, Nat.reduceEqDiff, Nat.reduceSub, Int.reduceEq, Int.reduceLT, Int.reduceLE, Int.reduceSub, Int.reduceAdd, Int.cast_ofNat_Int, decide_true, decide_false, not_true, not_false_iff, Nat.zero_add, unD_nil, unD_cons, Option.map_some, sizeLine, Nat.reducePow, Option.isNone_none, Option.isNone_some, *])
section
variable {j k : Nat} {h h1 h2 t H H1 : AHp} {M : Mo}
theorem sub45 : ∀ x ∈ F4, x ∈ F5 := by decide +kernel
theorem sub23 : ∀ x ∈ M2, x ∈ M3 := by decide +kernel
def Tg (many : Nat) (t : Option Int) : Prop := t = none ∨ ∃ i : Nat, i < many ∧ t = some (i : Int)
def GF (many : Nat) (x : Fld) : Prop := x.n ∈ S6 ∧ x.f ∈ F4 ∧ x.m ∈ M2 ∧ Tg many x.t
theorem GF.ok {many : Nat} {x : Fld} (g : GF many x) (hs : ∀ s, x.s = some s → s ∈ S6) : OkF x := ⟨sub69 _ g.1, sub45 _ g.2.1, sub23 _ g.2.2.1, fun s e => sub69 _ (hs s e)⟩
theorem GF.ok0 {many : Nat} {x : Fld} (g : GF many x) (hs : x.s = none) : OkF x := g.ok fun s e => by rw [hs] at e; cases e
theorem GF.tgt {many : Nat} {x : Fld} (g : GF many x) : isField (many : Nat) x = true := by
  unfold isField tgtOk
  have : (match x.t with | none => true | some i => decide (0 ≤ i ∧ i ≤ ((many : Nat) : Int) - 1)) = true := by
    rcases g.2.2.2 with e | ⟨i, hi, e⟩
    · rw [e]
    · rw [e]; exact decide_eq_true ⟨by omega, by omega⟩
  simp only [decide_eq_true g.1, decide_eq_true g.2.1, decide_eq_true g.2.2.1, Bool.true_and]
  exact this
def law_field_1 (j : Nat) (M : Mo) : MS := (mSeq (mIfS (mB (mBin (oC M .NotEq) (mVar 5) (mC (.str "one")))) (mSeq (mAsg (mCB (mLen 2 (fun ws => r__law_pick j (ws ++ []))) (mCons (mVar 0) (mCons (mLst (mCons (mC (.str "all")) (mCons (mC (.str "gaps")) (mCons (mC (.str "rest")) (mNil))))) (mNil)))) (mgName 5)) (mSkip)) (mSkip)) (mSeq (mRet (mTup (mCons (mVar 2) (mCons (mVar 4) (mCons (mVar 5) (mCons (mCB (mLen 2 (fun ws => r__law_pick j (ws ++ []))) (mCons (mVar 0) (mCons (mLst (mCons (mC (.str "must")) (mCons (mC (.str "must")) (mCons (mC (.str "may")) (mNil))))) (mNil)))) (mCons (mC (.non)) (mNil)))))))) (mSkip)))
def law_field_2 (j : Nat) (M : Mo) : MS := (mSeq (mRet (mTup (mCons (mVar 2) (mCons (mVar 4) (mCons (mVar 5) (mCons (mCB (mLen 2 (fun ws => r__law_pick j (ws ++ []))) (mCons (mVar 0) (mCons (mLst (mCons (mC (.str "must")) (mCons (mC (.str "must")) (mCons (mC (.str "may")) (mNil))))) (mNil)))) (mCons (mC (.non)) (mNil)))))))) (mSkip))
theorem law_field_e (j : Nat) (M : Mo) : s__law_field j M = mSeq (mIfS (mAndT (mB (mBin (oC M .IsNot) (mVar 3) (mC (.non)))) (mB (mBin (oC M .Lt) (mCB (mLen 2 (fun ws => r__law_next j (ws ++ []))) (mCons (mVar 0) (mCons (mC (.int (5))) (mNil)))) (mC (.int (3)))))) (mSeq (mPar [4, 5] (mCons (mBin (oIx M) (mVar 3) (mC (.int (1)))) (mCons (mBin (oIx M) (mVar 3) (mC (.int (2)))) (mNil)))) (mSkip)) (mSeq (mAsg (mCB (mLen 2 (fun ws => r__law_pick j (ws ++ []))) (mCons (mVar 0) (mCons (mBin (oB M .Add) (mLst (mCons (mC (.non)) (mNil))) (mBin (oB M .Mult) (mLstRg1 (mVar 1)) (mC (.int (2))))) (mNil)))) (mgName 4)) (mSeq (mAsg (mCB (mLen 2 (fun ws => r__law_pick j (ws ++ []))) (mCons (mVar 0) (mCons (mLst (mCons (mC (.str "one")) (mCons (mC (.str "one")) (mCons (mC (.str "all")) (mCons (mC (.str "gaps")) (mCons (mC (.str "rest")) (mNil))))))) (mNil)))) (mgName 5)) (mSkip)))) (law_field_1 j M) := rfl
theorem law_field_e1 (j : Nat) (M : Mo) : law_field_1 j M = mSeq (mIfS (mB (mBin (oC M .NotEq) (mVar 5) (mC (.str "one")))) (mSeq (mAsg (mCB (mLen 2 (fun ws => r__law_pick j (ws ++ []))) (mCons (mVar 0) (mCons (mLst (mCons (mC (.str "all")) (mCons (mC (.str "gaps")) (mCons (mC (.str "rest")) (mNil))))) (mNil)))) (mgName 5)) (mSkip)) (mSkip)) (law_field_2 j M) := rfl
theorem field_2 {many : Nat} {name : Str} {l : W} {f : Str} {t : Option Int} (n : Nx k h H) (hn : name ∈ S6) (hf : f ∈ F4) (ht : Tg many t) : WS (law_field_2 (j + 4) (T.mo 40 (j + 4 + 1)) [some (.ref k), some (.d (.int (many : Nat))), some (.d (.str name)), some l, some (.d (optD .int t)), some (.d (.str f))] H) (fnK h.length (fun w h' => ∃ x, w = .d (encF x) ∧ GF many x ∧ x.n = name ∧ x.s = none ∧ Nx k h h') E0') := by
  have pk := pick_ok (j := j) n.1 (ds := [.str "must", .str "must", .str "may"]) (by simp)
  unfold law_field_2
  have hn' := hn
  have hf' := hf
  have ht' := ht
  clear hn hf ht
  revert hn' hf' ht'
  walk_at "wps"
  intro hn hf ht
  refine pk.imp ?_
  rintro w h' ⟨x, hx, rfl, n'⟩
  have : ∃ m ∈ M2, x = .str m := by
    simp only [List.mem_cons, List.not_mem_nil, or_false] at hx
    rcases hx with rfl | rfl | rfl
    · exact ⟨"must", by decide +kernel, rfl⟩
    · exact ⟨"must", by decide +kernel, rfl⟩
    · exact ⟨"may", by decide +kernel, rfl⟩
  obtain ⟨m, hm, rfl⟩ := this
  have n2 := n.trans n'
  clear hx pk
  have ht2 := ht
  clear ht
  walk_at "wps"
  have ht := ht2
  rw [wp_cut n2.len n2.1.gd rfl]
  exact ⟨⟨name, t, f, m, none⟩, rfl, ⟨hn, hf, hm, ht⟩, rfl, rfl, n2⟩
theorem field_1 {many : Nat} {name : Str} {l : W} {f : Str} {t : Option Int} (n : Nx k h H) (hn : name ∈ S6) (hf : f ∈ F4) (ht : Tg many t) : WS (law_field_1 (j + 4) (T.mo 40 (j + 4 + 1)) [some (.ref k), some (.d (.int (many : Nat))), some (.d (.str name)), some l, some (.d (optD .int t)), some (.d (.str f))] H) (fnK h.length (fun w h' => ∃ x, w = .d (encF x) ∧ GF many x ∧ x.n = name ∧ x.s = none ∧ Nx k h h') E0') := by
  rw [law_field_e1]
  have e1 := oC_neS (M := T.mo 40 (j + 4 + 1)) (h := H) (ok4 _ hf) okOne
  have pk := pick_ok (j := j) n.1 (ds := [.str "all", .str "gaps", .str "rest"]) (by simp)
  have f2 := field_2 (j := j) (many := many) (l := l) (t := t) n hn hf ht
  have ht' := ht
  clear ht
  walk_at "wps"
  split
  · refine pk.imp ?_
    rintro w h' ⟨x, hx, rfl, n'⟩
    have : ∃ m ∈ F4, x = .str m := by
      simp only [List.mem_cons, List.not_mem_nil, or_false] at hx
      rcases hx with rfl | rfl | rfl
      · exact ⟨"all", by decide +kernel, rfl⟩
      · exact ⟨"gaps", by decide +kernel, rfl⟩
      · exact ⟨"rest", by decide +kernel, rfl⟩
    obtain ⟨m, hm, rfl⟩ := this
    exact field_2 (n.trans n') hn hm ht'
  · trivial
def law_field_b (j : Nat) (M : Mo) : MS := (mSeq (mAsg (mCB (mLen 2 (fun ws => r__law_pick j (ws ++ []))) (mCons (mVar 0) (mCons (mBin (oB M .Add) (mLst (mCons (mC (.non)) (mNil))) (mBin (oB M .Mult) (mLstRg1 (mVar 1)) (mC (.int (2))))) (mNil)))) (mgName 4)) (mSeq (mAsg (mCB (mLen 2 (fun ws => r__law_pick j (ws ++ []))) (mCons (mVar 0) (mCons (mLst (mCons (mC (.str "one")) (mCons (mC (.str "one")) (mCons (mC (.str "all")) (mCons (mC (.str "gaps")) (mCons (mC (.str "rest")) (mNil))))))) (mNil)))) (mgName 5)) (mSkip)))
theorem law_field_eb (j : Nat) (M : Mo) : s__law_field j M = mSeq (mIfS (mAndT (mB (mBin (oC M .IsNot) (mVar 3) (mC (.non)))) (mB (mBin (oC M .Lt) (mCB (mLen 2 (fun ws => r__law_next j (ws ++ []))) (mCons (mVar 0) (mCons (mC (.int (5))) (mNil)))) (mC (.int (3)))))) (mSeq (mPar [4, 5] (mCons (mBin (oIx M) (mVar 3) (mC (.int (1)))) (mCons (mBin (oIx M) (mVar 3) (mC (.int (2)))) (mNil)))) (mSkip)) (law_field_b j M)) (law_field_1 j M) := rfl
theorem field_b {many : Nat} (m3 : many ≤ 3) {name : Str} {l : W} (n : Nx k h H) (hn : name ∈ S6) : WS (law_field_b (j + 4) (T.mo 40 (j + 4 + 1)) [some (.ref k), some (.d (.int (many : Nat))), some (.d (.str name)), some l, none, none] H) (seqK (law_field_1 (j + 4) (T.mo 40 (j + 4 + 1))) (fnK h.length (fun w h' => ∃ x, w = .d (encF x) ∧ GF many x ∧ x.n = name ∧ x.s = none ∧ Nx k h h') E0')) := by
  have hr : rgOk 0 ((many : Nat) : Int) = true := by unfold rgOk; simp; omega
  have hlen : (rgD 0 ((many : Nat) : Int)).length ≤ 3 := by rw [rgD_map]; simpa using m3
  have e1 := mul2 (M := T.mo 40 (j + 4 + 1)) (h := H) (rgD 0 ((many : Nat) : Int)) (by omega)
  have e2 := oB_addL (M := T.mo 40 (j + 4 + 1)) (h := H) [.non] (rgD 0 ((many : Nat) : Int) ++ rgD 0 ((many : Nat) : Int)) (szLine (by simp; omega))
  have pk := pick_ok (j := j) n.1 (ds := [.non] ++ (rgD 0 ((many : Nat) : Int) ++ rgD 0 ((many : Nat) : Int))) (by simp)
  have oi : ∀ x ∈ [D.non] ++ (rgD 0 ((many : Nat) : Int) ++ rgD 0 ((many : Nat) : Int)), ∃ t : Option Int, Tg many t ∧ x = optD .int t := by
    intro x hx
    rw [List.mem_append, List.mem_append, List.mem_singleton, rgD_map] at hx
    rcases hx with rfl | hx | hx
    · exact ⟨none, .inl rfl, rfl⟩
    · obtain ⟨i, hi, rfl⟩ := List.mem_map.mp hx
      exact ⟨some _, .inr ⟨i, List.mem_range.mp hi, rfl⟩, rfl⟩
    · obtain ⟨i, hi, rfl⟩ := List.mem_map.mp hx
      exact ⟨some _, .inr ⟨i, List.mem_range.mp hi, rfl⟩, rfl⟩
  simp only [List.cons_append, List.nil_append] at e2 pk oi
  unfold law_field_b
  clear hlen m3
  have hn' : name ∈ S6 := hn
  clear hn
  walk_at "wps"
  refine pk.imp ?_
  rintro w h' ⟨x, hx, rfl, n'⟩
  obtain ⟨t, ht, rfl⟩ := oi x hx
  have n2 := n.trans n'
  have ht' := ht
  clear pk oi hx e1 e2 ht
  have pk := pick_ok (j := j) n2.1 (ds := [.str "one", .str "one", .str "all", .str "gaps", .str "rest"]) (by simp)
  walk_at "wps"
  refine pk.imp ?_
  rintro w h' ⟨x, hx, rfl, n'⟩
  have : ∃ m ∈ F4, x = .str m := by
    simp only [List.mem_cons, List.not_mem_nil, or_false] at hx
    rcases hx with rfl | rfl | rfl | rfl | rfl
    · exact ⟨"one", by decide +kernel, rfl⟩
    · exact ⟨"one", by decide +kernel, rfl⟩
    · exact ⟨"all", by decide +kernel, rfl⟩
    · exact ⟨"gaps", by decide +kernel, rfl⟩
    · exact ⟨"rest", by decide +kernel, rfl⟩
  obtain ⟨f, hf, rfl⟩ := this
  exact field_1 (n2.trans n') hn' hf ht'
theorem field_ok (d : Dw k h) {many : Nat} (m3 : many ≤ 3) {name : Str} (hn : name ∈ S6) (last : Option Fld) (hl : ∀ x, last = some x → GF many x) : WP (r__law_field (j + 5) [.ref k, .d (.int (many : Nat)), .d (.str name), .d (optD encF last)] h) (fun w h' => ∃ x, w = .d (encF x) ∧ GF many x ∧ x.n = name ∧ x.s = none ∧ Nx k h h') E0' := by
  rw [sh__law_field, law_field_eb]
  cases last with
  | none =>
    have fb := field_b (j := j) m3 (l := .d .non) (Nx.refl d) hn
    dsimp only [optD]
    clear m3 hl
    walk_at "wps"
  | some y =>
    have py := hl y rfl
    have hs : (encF y) = encF y := rfl
    clear hs
    have nx := next_ok (j := j + 1) d (b := 5) (by decide)
    have iy : isN (.d (encF y)) = false := rfl
    dsimp only [optD]
    have m3' := m3
    clear m3 hl
    walk_at "wps"
    refine nx.imp ?_
    rintro w h' ⟨v, rfl, v0, v1, n⟩
    have f1 := ixF1 (h := h') (M := T.mo 40 (j + 4 + 1)) y
    have f2 := ixF2 (h := h') (M := T.mo 40 (j + 4 + 1)) y
    have k1 := field_1 (j := j) (many := (many : Nat)) (l := .d (encF y)) (t := y.t) n hn py.2.1 py.2.2.2
    have k2 := field_b (j := j) m3' (l := .d (encF y)) n hn
    clear nx v0 v1
    walk_at "wps"
    split
    · trivial
    · trivial
end
end K02

end
section
set_option Elab.async false
set_option linter.all false
set_option maxRecDepth 100000
set_option maxHeartbeats 1000000
namespace K02
open PySem PySem.Spec PyProof.Rows L2 PM
local macro_rules | `(tactic| walk_at "wps") => `(tactic| try simp only [↓wp_fn, ↓ws_seq, ↓ws_ret, ↓ws_asg, ↓ws_if, ↓ws_expr, ↓ws_for, ↓ws_par, ↓ws_skip, ↓ws_raise, ↓ws_raiseL, ↓ws_try, ↓seqK_nx, ↓seqK_rt, ↓seqK_exc, ↓fnK_rt, ↓fnK_nx, ↓fnK_exc, ↓loopK_nx, ↓loopK_rt, ↓loopK_exc, ↓wp_var, ↓wp_c, ↓wp_bin, ↓wp_un, ↓wp_nil, ↓wp_cons, ↓wp_star, ↓wp_cb, ↓wp_b, ↓wp_notT, ↓wp_andT, ↓wp_orT, ↓wp_yes, ↓wp_andV, ↓wp_orV, ↓wp_notV, ↓wp_if, ↓wp_chain, ↓wp_neg, ↓wp_tup, ↓wp_lst, ↓wp_lstR, ↓wp_slice, ↓wp_noPart, ↓wp_part, ↓wp_comp, ↓wp_lenSc, ↓wp_frzQ, ↓wp_items, ↓wp_enum, ↓wp_rng1, ↓wp_zip, zipD_tup, zipD_lst, ↓ws_match, ws_cs1, ↓ws_cs2, ↓wp_lstRgR, ↓wp_dc2, ↓wp_comp2, ↓wp_rng3, ↓wp_lstRg1, ↓wp_mthA, ↓ws_putK, oB_mulI, oB_modI, oB_addL, oB_addT, Int.reducePow, Int.reduceNeg, or_true, true_or, ↓tryK_rt, ↓tryK_nx, tryK_exc, ↓suiteK_rtD, setO_none, setO_some, ↓ws_stoA, ↓wp_make, ↓wp_bind, ↓mthK_cnt, fCnt_eq, fBs_map, wp_ok, wp_exc, wp_of, wp_pure, ws_some, gv0, gvS, unB_bl, if_true, if_false, Bool.false_eq_true, Bool.not_true, Bool.not_false, wp_cutD, wp_cutXD,
  oC_eqI, oC_neI, oC_eqB, oC_neB, oC_lt, oC_le, oC_gt, oC_ge, oC_is, oC_isNot, oB_addI, oB_subI, lenA_tup, lenA_lst, fInt_int, fTuple_lst, asgK_some, startA, List.map_cons, List.map_nil, List.replicate, List.length_cons, List.length_nil, List.length_map, List.cons_append, List.nil_append, List.append_nil, List.set_cons_zero, List.set_cons_succ, mgTup_d, mgCons_c, mgNil_n, mgName_n, bind_some', wipeA, setAll, mLen, isN_optS, isN_optI, isN_str, isN_int, isN_tup, isN_non, loopI, true_and, and_true, and_self, Nat.reduceAdd, Nat.reduceLT, Nat.reduceLeDiff, Nat.reduceEqDiff, Nat.reduceSub, Int.reduceEq, Int.reduceLT, Int.reduceLE, Int.reduceSub, Int.reduceAdd, Int.cast_ofNat_Int, decide_true, decide_false, not_true, not_false_iff, Nat.zero_add, unD_nil, unD_cons, Option.map_some, sizeLine, Nat.reducePow, Option.isNone_none, Option.isNone_some, *])
section
variable {j k : Nat} {h h1 h2 t H H1 : AHp} {M : Mo}
structure SpR (fs : List Fld) (y x : Fld) : Prop where
  n : x.n = y.n
  t : x.t = y.t
  f : x.f = y.f
  m : x.m = y.m
  s : x.s = none ∨ ∃ o ∈ fs, o.n ≠ y.n ∧ likeF o y = true ∧ x.s = some o.n
def spared_t (j : Nat) (M : Mo) : MS := (mSeq (mExpr (mMthA M "append" 2 (mVar 2) (mCons (mBin (oB M .Add) (mSlice (mVar 3) (mNoPart) (mPart (mC (.int (4))))) (mTup (mCons (mVar 5) (mNil)))) (mNil)))) (mSkip))
def spared_b (j : Nat) (M : Mo) : MS := (mSeq (mAsg (mComp (mItems (mVar 1)) (mgName 6) (mAndT (mB (mBin (oC M .NotEq) (mBin (oIx M) (mVar 6) (mC (.int (0)))) (mBin (oIx M) (mVar 3) (mC (.int (0)))))) (mB (mBin (oC M .Eq) (mBin (oIx M) (mVar 6) (mC (.int (1)))) (mBin (oIx M) (mVar 3) (mC (.int (1))))))) (mVar 6) [6]) (mgName 4)) (mSeq (mAsg (mComp (mItems (mVar 4)) (mgName 6) (mB (mBin (oC M .Eq) (mBin (oC M .Eq) (mBin (oIx M) (mVar 6) (mC (.int (2)))) (mC (.str "one"))) (mBin (oC M .Eq) (mBin (oIx M) (mVar 3) (mC (.int (2)))) (mC (.str "one"))))) (mBin (oIx M) (mVar 6) (mC (.int (0)))) [6]) (mgName 4)) (mSeq (mAsg (mC (.non)) (mgName 5)) (mSeq (mIfS (mAndT (mB (mBin (oC M .NotEq) (mVar 4) (mLst (mNil)))) (mB (mBin (oC M .Gt) (mCB (mLen 2 (fun ws => r__law_next j (ws ++ []))) (mCons (mVar 0) (mCons (mC (.int (3))) (mNil)))) (mC (.int (0)))))) (mSeq (mAsg (mCB (mLen 2 (fun ws => r__law_pick j (ws ++ []))) (mCons (mVar 0) (mCons (mBin (oB M .Add) (mVar 4) (mLst (mCons (mC (.non)) (mNil)))) (mNil)))) (mgName 5)) (mSkip)) (mSkip)) (mSeq (mExpr (mMthA M "append" 2 (mVar 2) (mCons (mBin (oB M .Add) (mSlice (mVar 3) (mNoPart) (mPart (mC (.int (4))))) (mTup (mCons (mVar 5) (mNil)))) (mNil)))) (mSkip))))))
theorem spared_e (j : Nat) (M : Mo) : s__law_spared j M = mSeq (mAsg (mLstR (mNil)) (mgName 2)) (mSeq (mFor (mItems (mVar 1)) (mgName 3) (spared_b j M)) (mSeq (mRet (mCB (fTuple) (mCons (mVar 2) (mNil)))) (mSkip))) := rfl
theorem spared_be (j : Nat) (M : Mo) : spared_b j M = mSeq (mAsg (mComp (mItems (mVar 1)) (mgName 6) (mAndT (mB (mBin (oC M .NotEq) (mBin (oIx M) (mVar 6) (mC (.int (0)))) (mBin (oIx M) (mVar 3) (mC (.int (0)))))) (mB (mBin (oC M .Eq) (mBin (oIx M) (mVar 6) (mC (.int (1)))) (mBin (oIx M) (mVar 3) (mC (.int (1))))))) (mVar 6) [6]) (mgName 4)) (mSeq (mAsg (mComp (mItems (mVar 4)) (mgName 6) (mB (mBin (oC M .Eq) (mBin (oC M .Eq) (mBin (oIx M) (mVar 6) (mC (.int (2)))) (mC (.str "one"))) (mBin (oC M .Eq) (mBin (oIx M) (mVar 3) (mC (.int (2)))) (mC (.str "one"))))) (mBin (oIx M) (mVar 6) (mC (.int (0)))) [6]) (mgName 4)) (mSeq (mAsg (mC (.non)) (mgName 5)) (mSeq (mIfS (mAndT (mB (mBin (oC M .NotEq) (mVar 4) (mLst (mNil)))) (mB (mBin (oC M .Gt) (mCB (mLen 2 (fun ws => r__law_next j (ws ++ []))) (mCons (mVar 0) (mCons (mC (.int (3))) (mNil)))) (mC (.int (0)))))) (mSeq (mAsg (mCB (mLen 2 (fun ws => r__law_pick j (ws ++ []))) (mCons (mVar 0) (mCons (mBin (oB M .Add) (mVar 4) (mLst (mCons (mC (.non)) (mNil)))) (mNil)))) (mgName 5)) (mSkip)) (mSkip)) (spared_t j M)))) := rfl
theorem spared_step (d : Dw k h) {fs : List Fld} (pf : ∀ x ∈ fs, OkF x) (hf : fs.length ≤ 20) {y : Fld} (py : OkF y) (l : Lo k h H) {acc : List Fld} (ea : H[h.length]? = some (.lst ((acc.map encF).map .d))) (ha : acc.length ≤ 20) {a b c : Option W} {Q : RS → AHp → Prop}
    (fin : ∀ H' x a b c, Lo k h H' → SpR fs y x → H'[h.length]? = some (.lst (((acc ++ [x]).map encF).map .d)) → Q (.nx [some (.ref k), some (.d (.lst (fs.map encF))), some (.ref h.length), some (.d (encF y)), a, b, c]) H') :
    WS (spared_b (j + 4) (T.mo 40 (j + 4 + 1)) [some (.ref k), some (.d (.lst (fs.map encF))), some (.ref h.length), some (.d (encF y)), a, b, c] H) Q := by
  have hk := d.lt
  have app : ∀ (H : AHp) (s : Option Str) (a c : Option W), Lo k h H → (s = none ∨ ∃ o ∈ fs, o.n ≠ y.n ∧ likeF o y = true ∧ s = some o.n) → H[h.length]? = some (.lst ((acc.map encF).map .d)) → WS (spared_t (j + 4) (T.mo 40 (j + 4 + 1)) [some (.ref k), some (.d (.lst (fs.map encF))), some (.ref h.length), some (.d (encF y)), a, some (.d (optD .str s)), c] H) Q := by
    intro H s a c l hs ea
    have e1 := fun ma σ => app_ref (M := T.mo 40 (j + 4 + 1)) (n := 2) (ma := ma) (σ := σ) ea
    have e2 := slF4 (H := H) y
    have e3 := oB_addT (M := T.mo 40 (j + 4 + 1)) (h := H) [.str y.n, optD .int y.t, .str y.f, .str y.m] [optD .str s] (by show 5 ≤ sizeLine; decide)
    have e4 := app_eq (x := encF ⟨y.n, y.t, y.f, y.m, s⟩) ea (by rw [List.length_map]; omega)
    have ex : encF ⟨y.n, y.t, y.f, y.m, s⟩ = .tup ([.str y.n, optD .int y.t, .str y.f, .str y.m] ++ [optD .str s]) := rfl
    have lH := l.len
    have hlt : h.length < H.length := (List.getElem?_eq_some_iff.mp ea).1
    have fq := fin (H.set h.length (.lst ((acc.map encF ++ [encF ⟨y.n, y.t, y.f, y.m, s⟩]).map .d))) ⟨y.n, y.t, y.f, y.m, s⟩ a (some (.d (optD .str s))) c (l.put hk (Nat.le_refl _) (lowL _ _) (clnL _)) ⟨rfl, rfl, rfl, rfl, hs⟩ (by
      rw [List.getElem?_set_self hlt, List.map_append (f := encF)]
      rfl)
    rw [ex] at e4 fq
    rw [← ex] at e4 fq
    simp only [List.cons_append, List.nil_append] at e3
    have ex' : encF ⟨y.n, y.t, y.f, y.m, s⟩ = .tup [.str y.n, optD .int y.t, .str y.f, .str y.m, optD .str s] := rfl
    rw [ex'] at e4 fq
    clear ex ex' fin ea lH hlt hs
    unfold spared_t
    walk_at "wps"
  rw [spared_be]
  have il := items_lF fs
  have f0 := fun x => ixF0 (h := H) (M := T.mo 40 (j + 4 + 1)) x
  have f1 := fun x => ixF1 (h := H) (M := T.mo 40 (j + 4 + 1)) x
  have f2 := fun x => ixF2 (h := H) (M := T.mo 40 (j + 4 + 1)) x
  clear fin
  have ea' := ea
  clear ea
  have keep : ∀ (s : Option Str) (a c : Option W), (s = none ∨ ∃ o ∈ fs, o.n ≠ y.n ∧ likeF o y = true ∧ s = some o.n) → WS (spared_t (j + 4) (T.mo 40 (j + 4 + 1)) [some (.ref k), some (.d (.lst (fs.map encF))), some (.ref h.length), some (.d (encF y)), a, some (.d (optD .str s)), c] H) Q := fun s a c hs => app H s a c l hs ea'
  have app' := app
  clear app
  walk_at "wps"
  rw [comp_eq (fun x => W.d (encF x)) (fun x => !decide (x.n = y.n) && decide (x.t = y.t)) encF fs [] (fun x hx => ⟨_, rfl, by
    have e1 := oC_neS (M := T.mo 40 (j + 4 + 1)) (h := H) (ok9 _ (pf x hx).1) (ok9 _ py.1)
    have e2 := cmOI.oEq (M := T.mo 40 (j + 4 + 1)) (h := H) (a := x.t) (b := y.t) (by decide) (fun _ _ => trivial) (fun _ _ => trivial)
    clear app' keep
    walk_at "wps"
    cases decide (x.n = y.n) <;> simp, fun _ => by clear app' keep; walk_at "wps"⟩) (szLine (by simp; omega))]
  have p2 := memSub (f := fun x => !decide (x.n = y.n) && decide (x.t = y.t)) pf
  have q2 : ∀ x ∈ fs.filter (fun x => !decide (x.n = y.n) && decide (x.t = y.t)), x ∈ fs ∧ x.n ≠ y.n ∧ x.t = y.t := fun x hx => by
    obtain ⟨h1, h2⟩ := List.mem_filter.mp hx
    simp only [Bool.and_eq_true, Bool.not_eq_true', decide_eq_false_iff_not, decide_eq_true_eq] at h2
    exact ⟨h1, h2.1, h2.2⟩
  have hl2 : (fs.filter fun x => !decide (x.n = y.n) && decide (x.t = y.t)).length ≤ 20 := Nat.le_trans (List.length_filter_le _ _) hf
  generalize (fs.filter fun x => !decide (x.n = y.n) && decide (x.t = y.t)) = l2 at p2 hl2 q2 ⊢
  have il2 := items_lF l2
  have q2' : ∀ x ∈ l2, x ∈ fs ∧ x.n ≠ y.n ∧ x.t = y.t := q2
  clear q2
  have q2 := 0
  clear q2
  revert q2'
  walk_at "wps"
  intro q2
  rw [comp_eq (fun x => W.d (encF x)) (fun x : Fld => decide (decide (x.f = ("one" : Str)) = decide (y.f = ("one" : Str)))) (fun x => .str x.n) l2 [] (fun x hx => ⟨_, rfl, by
    have e1 := oC_eqS (M := T.mo 40 (j + 4 + 1)) (h := H) (ok5 _ (p2 x hx).2.1) okOne
    have e2 := oC_eqS (M := T.mo 40 (j + 4 + 1)) (h := H) (ok5 _ py.2.1) okOne
    clear app' keep
    walk_at "wps", fun _ => by clear app' keep; walk_at "wps"⟩) (szLine (by simp; omega))]
  have p3 := memSub (f := fun x : Fld => decide (decide (x.f = ("one" : Str)) = decide (y.f = ("one" : Str)))) p2
  have q3 : ∀ x ∈ l2.filter (fun x : Fld => decide (decide (x.f = ("one" : Str)) = decide (y.f = ("one" : Str)))), x ∈ fs ∧ x.n ≠ y.n ∧ likeF x y = true := fun x hx => by
    obtain ⟨h1, h2⟩ := List.mem_filter.mp hx
    obtain ⟨g1, g2, g3⟩ := q2 x h1
    refine ⟨g1, g2, ?_⟩
    unfold likeF
    rw [decide_eq_true g3, Bool.true_and]
    exact h2
  have hl3 : (l2.filter fun x : Fld => decide (decide (x.f = ("one" : Str)) = decide (y.f = ("one" : Str)))).length ≤ 20 := Nat.le_trans (List.length_filter_le _ _) hl2
  generalize (l2.filter fun x : Fld => decide (decide (x.f = ("one" : Str)) = decide (y.f = ("one" : Str)))) = l3 at p3 hl3 q3 ⊢
  have e5 := (cmLst cmStr).oNe (M := T.mo 40 (j + 4 + 1)) (h := H) (a := l3.map (·.n)) (b := []) (by decide) (fun x hx => by
    obtain ⟨z, hz, rfl⟩ := List.mem_map.mp hx
    exact ok9 _ (p3 z hz).1) (fun _ z => nomatch z)
  rw [List.map_map, List.map_nil] at e5
  have e5' : oC (T.mo 40 (j + 4 + 1)) .NotEq (.d (.lst (l3.map fun x => .str x.n))) (.d (.lst [])) H = some (.ok (.d (.bl (!decide (l3.map (·.n) = [])))), H) := e5
  have e6 := oB_addL (M := T.mo 40 (j + 4 + 1)) (h := H) (l3.map fun x => .str x.n) [.non] (szLine (by simp; omega))
  have nx := next_ok (j := j + 1) l.d (b := 3) (by decide)
  clear il il2 f0 f1 f2 e5 q2
  revert q3
  walk_at "wps"
  intro q3
  split
  · refine nx.imp ?_
    rintro w h' ⟨v, rfl, v0, v1, n⟩
    have ll := l.nx n
    have ee : h'[h.length]? = _ := (n.get (by omega)).trans ea'
    have e6 := oB_addL (M := T.mo 40 (j + 4 + 1)) (h := h') (l3.map fun x => .str x.n) [.non] (szLine (by simp; omega))
    have pk := pick_ok (j := j) ll.d (ds := (l3.map fun x => .str x.n) ++ [.non]) (by simp)
    have kk := app' h' none
    simp only [optD] at kk
    revert q3
    walk_at "wps"
    intro q3
    split
    · refine pk.imp ?_
      rintro w h'' ⟨x, hx, rfl, n'⟩
      have : ∃ s : Option Str, x = optD .str s ∧ (s = none ∨ ∃ o ∈ fs, o.n ≠ y.n ∧ likeF o y = true ∧ s = some o.n) := by
        rw [List.mem_append, List.mem_singleton] at hx
        rcases hx with hx | rfl
        · obtain ⟨z, hz, rfl⟩ := List.mem_map.mp hx
          exact ⟨some z.n, rfl, .inr ⟨z, (q3 z hz).1, (q3 z hz).2.1, (q3 z hz).2.2, rfl⟩⟩
        · exact ⟨none, rfl, .inl rfl⟩
      obtain ⟨s, rfl, hs⟩ := this
      exact app' _ _ _ _ (ll.nx n') hs ((n'.get (by omega)).trans ee)
    · first | trivial | exact kk _ _ ll (by simp) ee
  · exact keep none _ _ (.inl rfl)
theorem spared_ok (d : Dw k h) {fs : List Fld} (pf : ∀ x ∈ fs, OkF x) (hf : fs.length ≤ 20) : WP (r__law_spared (j + 5) [.ref k, .d (.lst (fs.map encF))] h) (fun w h' => ∃ x : List Fld, w = .d (encK x) ∧ Paired (SpR fs) fs x ∧ Nx k h h') E0' := by
  rw [sh__law_spared, spared_e]
  have il := items_lF fs
  have hk := d.lt
  walk_at "wps"
  refine loop_inv (fun x => W.d (encF x)) (fun r σ H => Lo k h H ∧ (∃ a b c e, σ = [some (.ref k), some (.d (.lst (fs.map encF))), some (.ref h.length), a, b, c, e]) ∧ ∃ done acc : List Fld, H[h.length]? = some (.lst ((acc.map encF).map .d)) ∧ fs = done ++ r ∧ Paired (SpR fs) done acc) ?_ ?_ fs _ _ ⟨(Lo.refl d).pushN, ⟨_, _, _, _, rfl⟩, ([] : List Fld), ([] : List Fld), get_app0, rfl, .nil⟩
  · rintro y r σ H ⟨l, ⟨a, b, c, e, rfl⟩, done, acc, ea, efs, pr⟩
    refine ⟨_, rfl, ?_⟩
    have hl : done.length = acc.length := Paired.length pr
    have hlen : done.length + r.length + 1 ≤ 20 := by rw [efs] at hf; simp at hf; omega
    refine spared_step (j := j) d pf hf (pf y (by rw [efs]; simp)) l ea (by omega) ?_
    intro H' x a b c l' ox ea'
    exact ⟨l', ⟨_, _, _, _, rfl⟩, done ++ [y], acc ++ [x], ea', by rw [efs, List.append_assoc]; rfl, Paired.snoc pr ox⟩
  · rintro σ H ⟨l, ⟨a, b, c, e, rfl⟩, done, acc, ea, efs, pr⟩
    have e1 := fTuple_ref ea
    rw [List.append_nil] at efs
    have pr' : Paired (SpR fs) fs acc := by have := pr; rw [← efs] at this; exact this
    clear ea il efs pr
    walk_at "wps"
    refine l.wp d fun h' n => ⟨acc, rfl, pr', n⟩
end
end K02

end
section
set_option Elab.async false
set_option linter.all false
set_option maxRecDepth 100000
set_option maxHeartbeats 1000000
namespace K02
open PySem PySem.Spec PyProof.Rows L2 PM
local macro_rules | `(tactic| walk_at "wps") => `(tactic| try simp only [↓wp_fn, ↓ws_seq, ↓ws_ret, ↓ws_asg, ↓ws_if, ↓ws_expr, ↓ws_for, ↓ws_par, ↓ws_skip, ↓ws_raise, ↓ws_raiseL, ↓ws_try, ↓seqK_nx, ↓seqK_rt, ↓seqK_exc, ↓fnK_rt, ↓fnK_nx, ↓fnK_exc, ↓loopK_nx, ↓loopK_rt, ↓loopK_exc, ↓wp_var, ↓wp_c, ↓wp_bin, ↓wp_un, ↓wp_nil, ↓wp_cons, ↓wp_star, ↓wp_cb, ↓wp_b, ↓wp_notT, ↓wp_andT, ↓wp_orT, ↓wp_yes, ↓wp_andV, ↓wp_orV, ↓wp_notV, ↓wp_if, ↓wp_chain, ↓wp_neg, ↓wp_tup, ↓wp_lst, ↓wp_lstR, ↓wp_slice, ↓wp_noPart, ↓wp_part, ↓wp_comp, ↓wp_lenSc, ↓wp_frzQ, ↓wp_items, ↓wp_enum, ↓wp_rng1, ↓wp_zip, zipD_tup, zipD_lst, ↓ws_match, ws_cs1, ↓ws_cs2, ↓wp_lstRgR, ↓wp_dc2, ↓wp_comp2, ↓wp_rng3, ↓wp_lstRg1, ↓wp_mthA, ↓ws_putK, oB_mulI, oB_modI, oB_addL, oB_addT, Int.reducePow, Int.reduceNeg, or_true, true_or, ↓tryK_rt, ↓tryK_nx, tryK_exc, ↓suiteK_rtD, setO_none, setO_some, ↓ws_stoA, ↓wp_make, ↓wp_bind, ↓mthK_cnt, fCnt_eq, fBs_map, wp_ok, wp_exc, wp_of, wp_pure, ws_some, gv0, gvS, unB_bl, if_true, if_false, Bool.false_eq_true, Bool.not_true, Bool.not_false, wp_cutD, wp_cutXD,
  oC_eqI, oC_neI, oC_eqB, oC_neB, oC_lt, oC_le, oC_gt, oC_ge, oC_is, oC_isNot, oB_addI, oB_subI, lenA_tup, lenA_lst, fInt_int, fTuple_lst, asgK_some, startA, List.map_cons, List.map_nil, List.replicate, List.length_cons, List.length_nil, List.length_map, List.cons_append, List.nil_append, List.append_nil, List.set_cons_zero, List.set_cons_succ, mgTup_d, mgCons_c, mgNil_n, mgName_n, bind_some', wipeA, setAll, mLen, isN_optS, isN_optI, isN_str, isN_int, isN_tup, isN_non, loopI, true_and, and_true, and_self, Nat.reduceAdd, Nat.reduceLT, Nat.reduceLeDiff, Nat.reduceEqDiff, Nat.reduceSub, Int.reduceEq, Int.reduceLT, Int.reduceLE, Int.reduceSub, Int.reduceAdd, Int.cast_ofNat_Int, decide_true, decide_false, not_true, not_false_iff, Nat.zero_add, unD_nil, unD_cons, Option.map_some, sizeLine, Nat.reducePow, Option.isNone_none, Option.isNone_some, *])
section
variable {j k : Nat} {h h1 h2 t H H1 : AHp} {M : Mo}
def L6 (v : Int) : Str := S6.getD v.toNat "a"
theorem letterE (v : Int) (v0 : 0 ≤ v) (v1 : v < 6) : L6 v ∈ S6 ∧ oIx M (.d (.str "abcdef")) (.d (.int v)) h = some (.ok (.d (.str (L6 v))), h) := by
  have : v = 0 ∨ v = 1 ∨ v = 2 ∨ v = 3 ∨ v = 4 ∨ v = 5 := by omega
  rcases this with rfl | rfl | rfl | rfl | rfl | rfl <;> exact ⟨by decide +kernel, by kernel_rfl⟩
def nms (st : Int) (n : Nat) : List Str := (List.range n).map fun i => L6 ((st + (i : Nat)) % 6)
theorem L6_inj : ∀ a b : Nat, a < 6 → b < 6 → L6 (a : Int) = L6 (b : Int) → a = b := by
  intro a b ha hb
  have : ∀ a : Fin 6, ∀ b : Fin 6, S6.getD a.val "a" = S6.getD b.val "a" → a.val = b.val := by decide +kernel
  exact fun e => this ⟨a, ha⟩ ⟨b, hb⟩ e
theorem nms_nd (st : Int) {n : Nat} (hn : n ≤ 6) : (nms st n).Nodup := by
  unfold nms
  rw [List.nodup_iff_pairwise_ne, List.pairwise_map]
  refine List.Pairwise.imp_of_mem ?_ (List.nodup_iff_pairwise_ne.mp (List.nodup_range (n := n)))
  intro a b ha hb hab e
  rw [List.mem_range] at ha hb
  have e1 : ((st + (a : Int)) % 6) = ((((st + (a : Int)) % 6).toNat : Nat) : Int) := by omega
  have e2 : ((st + (b : Int)) % 6) = ((((st + (b : Int)) % 6).toNat : Nat) : Int) := by omega
  rw [e1, e2] at e
  have := L6_inj _ _ (by omega) (by omega) e
  omega
structure DF (many : Nat) (st : Int) (fs : List Fld) : Prop where
  gf : ∀ y ∈ fs, GF many y ∧ y.s = none
  nm : fs.map (·.n) = nms st fs.length
  first : ∀ y, fs.head? = some y → y.t = none ∧ y.f = "one"
theorem DF.ok {many : Nat} {st : Int} {fs : List Fld} (d : DF many st fs) : ∀ y ∈ fs, OkF y := fun y hy => (d.gf y hy).1.ok0 (d.gf y hy).2
theorem DF.snoc {many : Nat} {st : Int} {fs : List Fld} (d : DF many st fs) {x : Fld} (g : GF many x) (hs : x.s = none) (hn : x.n = L6 ((st + (fs.length : Nat)) % 6)) (h0 : fs = [] → x.t = none ∧ x.f = "one") : DF many st (fs ++ [x]) := by
  refine ⟨fun y hy => ?_, ?_, fun y hy => ?_⟩
  · rcases List.mem_append.mp hy with z | z
    · exact d.gf y z
    · rw [List.mem_singleton.mp z]; exact ⟨g, hs⟩
  · rw [List.map_append, d.nm, List.length_append]
    unfold nms
    rw [List.length_singleton, List.range_succ, List.map_append]
    simp [hn]
  · cases fs with
    | nil => cases hy; exact h0 rfl
    | cons a r => exact d.first y hy
structure GK (many : Nat) (x : List Fld) : Prop where
  len : 2 ≤ x.length ∧ x.length ≤ 4
  nd : (x.map (·.n)).Nodup
  gf : ∀ y ∈ x, GF many y
  sp : ∀ y ∈ x, ∀ s, y.s = some s → ∃ o ∈ x, o.n = s ∧ o.n ≠ y.n ∧ likeF o y = true
  first : ∀ y, x.head? = some y → y.t = none ∧ y.f = "one"
theorem sp_get {fs : List Fld} : ∀ {a b : List Fld}, Paired (SpR fs) a b → ∀ y ∈ b, ∃ z ∈ a, SpR fs z y
  | _, _, .nil, y, hy => nomatch hy
  | _, _, .cons r rs, y, hy => by
    rcases List.mem_cons.mp hy with rfl | hy
    · exact ⟨_, List.mem_cons_self, r⟩
    · obtain ⟨z, hz, q⟩ := sp_get rs y hy
      exact ⟨z, List.mem_cons_of_mem _ hz, q⟩
theorem sp_get' {fs : List Fld} : ∀ {a b : List Fld}, Paired (SpR fs) a b → ∀ z ∈ a, ∃ y ∈ b, SpR fs z y
  | _, _, .nil, y, hy => nomatch hy
  | _, _, .cons r rs, y, hy => by
    rcases List.mem_cons.mp hy with rfl | hy
    · exact ⟨_, List.mem_cons_self, r⟩
    · obtain ⟨z, hz, q⟩ := sp_get' rs y hy
      exact ⟨z, List.mem_cons_of_mem _ hz, q⟩
theorem sp_names {fs : List Fld} : ∀ {a b : List Fld}, Paired (SpR fs) a b → b.map (·.n) = a.map (·.n)
  | _, _, .nil => rfl
  | _, _, .cons r rs => by rw [List.map_cons, List.map_cons, sp_names rs, r.n]
theorem like_eq {o o' y y' : Fld} (h1 : o'.t = o.t) (h2 : o'.f = o.f) (h3 : y'.t = y.t) (h4 : y'.f = y.f) : likeF o' y' = likeF o y := by
  unfold likeF
  rw [h1, h2, h3, h4]
theorem DF.kind {many : Nat} {st : Int} {fs x : List Fld} (d : DF many st fs) (h2 : 2 ≤ fs.length) (h4 : fs.length ≤ 4) (p : Paired (SpR fs) fs x) : GK many x := by
  have hl : fs.length = x.length := Paired.length p
  refine ⟨by omega, ?_, fun y hy => ?_, fun y hy s e => ?_, fun y hy => ?_⟩
  · rw [sp_names p, d.nm]
    exact nms_nd st (by omega)
  · obtain ⟨z, hz, r⟩ := sp_get p y hy
    have g := (d.gf z hz).1
    exact ⟨by rw [r.n]; exact g.1, by rw [r.f]; exact g.2.1, by rw [r.m]; exact g.2.2.1, by rw [r.t]; exact g.2.2.2⟩
  · obtain ⟨z, hz, r⟩ := sp_get p y hy
    rcases r.s with q | ⟨o, ho, n1, n2, n3⟩
    · rw [q] at e; cases e
    · rw [n3] at e
      cases e
      obtain ⟨o', ho', r'⟩ := sp_get' p o ho
      exact ⟨o', ho', r'.n, by rw [r'.n, r.n]; exact n1, by rw [like_eq r'.t r'.f r.t r.f]; exact n2⟩
  · cases p with
    | nil => cases hy
    | cons r rs =>
      cases hy
      obtain ⟨f1, f2⟩ := d.first _ rfl
      exact ⟨by rw [r.t]; exact f1, by rw [r.f]; exact f2⟩
theorem GK.ok {many : Nat} {x : List Fld} (g : GK many x) : ∀ y ∈ x, OkF y := fun y hy => (g.gf y hy).ok fun s e => by
  obtain ⟨o, ho, e1, _⟩ := g.sp y hy s e
  rw [← e1]
  exact (g.gf o ho).1
theorem find_nd {x : List Fld} (nd : (x.map (·.n)).Nodup) {o : Fld} (ho : o ∈ x) : x.find? (fun a => decide (a.n = o.n)) = some o := by
  induction x with
  | nil => cases ho
  | cons a r ih =>
    rw [List.map_cons, List.nodup_cons] at nd
    rcases List.mem_cons.mp ho with rfl | ho
    · simp
    · have : a.n ≠ o.n := fun e => nd.1 (by rw [e]; exact List.mem_map.mpr ⟨o, ho, rfl⟩)
      rw [List.find?_cons, decide_eq_false this]
      exact ih nd.2 ho
end
end K02

end
section
set_option Elab.async false
set_option linter.all false
set_option maxRecDepth 100000
set_option maxHeartbeats 1000000
namespace K02
open PySem PySem.Spec PyProof.Rows L2 PM
local macro_rules | `(tactic| walk_at "wps") => `(tactic| try simp only [↓wp_fn, ↓ws_seq, ↓ws_ret, ↓ws_asg, ↓ws_if, ↓ws_expr, ↓ws_for, ↓ws_par, ↓ws_skip, ↓ws_raise, ↓ws_raiseL, ↓ws_try, ↓seqK_nx, ↓seqK_rt, ↓seqK_exc, ↓fnK_rt, ↓fnK_nx, ↓fnK_exc, ↓loopK_nx, ↓loopK_rt, ↓loopK_exc, ↓wp_var, ↓wp_c, ↓wp_bin, ↓wp_un, ↓wp_nil, ↓wp_cons, ↓wp_star, ↓wp_cb, ↓wp_b, ↓wp_notT, ↓wp_andT, ↓wp_orT, ↓wp_yes, ↓wp_andV, ↓wp_orV, ↓wp_notV, ↓wp_if, ↓wp_chain, ↓wp_neg, ↓wp_tup, ↓wp_lst, ↓wp_lstR, ↓wp_slice, ↓wp_noPart, ↓wp_part, ↓wp_comp, ↓wp_lenSc, ↓wp_frzQ, ↓wp_items, ↓wp_enum, ↓wp_rng1, ↓wp_zip, zipD_tup, zipD_lst, ↓ws_match, ws_cs1, ↓ws_cs2, ↓wp_lstRgR, ↓wp_dc2, ↓wp_comp2, ↓wp_rng3, ↓wp_lstRg1, ↓wp_mthA, ↓ws_putK, oB_mulI, oB_modI, oB_addL, oB_addT, Int.reducePow, Int.reduceNeg, or_true, true_or, ↓tryK_rt, ↓tryK_nx, tryK_exc, ↓suiteK_rtD, setO_none, setO_some, ↓ws_stoA, ↓wp_make, ↓wp_bind, ↓mthK_cnt, fCnt_eq, fBs_map, wp_ok, wp_exc, wp_of, wp_pure, ws_some, gv0, gvS, unB_bl, if_true, if_false, Bool.false_eq_true, Bool.not_true, Bool.not_false, wp_cutD, wp_cutXD,
  oC_eqI, oC_neI, oC_eqB, oC_neB, oC_lt, oC_le, oC_gt, oC_ge, oC_is, oC_isNot, oB_addI, oB_subI, lenA_tup, lenA_lst, fInt_int, fTuple_lst, asgK_some, startA, List.map_cons, List.map_nil, List.replicate, List.length_cons, List.length_nil, List.length_map, List.cons_append, List.nil_append, List.append_nil, List.set_cons_zero, List.set_cons_succ, mgTup_d, mgCons_c, mgNil_n, mgName_n, bind_some', wipeA, setAll, mLen, isN_optS, isN_optI, isN_str, isN_int, isN_tup, isN_non, loopI, true_and, and_true, and_self, Nat.reduceAdd, Nat.reduceLT, Nat.reduceLeDiff, Nat.reduceEqDiff, Nat.reduceSub, Int.reduceEq, Int.reduceLT, Int.reduceLE, Int.reduceSub, Int.reduceAdd, Int.cast_ofNat_Int, decide_true, decide_false, not_true, not_false_iff, Nat.zero_add, unD_nil, unD_cons, Option.map_some, sizeLine, Nat.reducePow, Option.isNone_none, Option.isNone_some, *])
section
variable {j k : Nat} {h h1 h2 t H H1 : AHp} {M : Mo}
theorem GK.spare {many : Nat} {x : List Fld} (g : GK many x) : ∀ y ∈ x, isSpare x y = true := fun y hy => by
  unfold isSpare
  cases e : y.s with
  | none => rfl
  | some s =>
    obtain ⟨o, ho, e1, e2, e3⟩ := g.sp y hy s e
    subst e1
    dsimp only
    rw [decide_eq_true (g.gf o ho).1, decide_eq_false e2, find_nd g.nd ho]
    exact e3
theorem GK.kind {many : Nat} {x : List Fld} (g : GK many x) : isKind (many : Nat) x = true := by
  unfold isKind
  rw [decide_eq_true ⟨by have := g.len; omega, g.len.2⟩, decide_eq_true g.nd, List.all_eq_true.mpr fun y hy => (g.gf y hy).tgt, List.all_eq_true.mpr g.spare]
  rfl
def GKs (K : List (List Fld)) : Prop := (∀ x ∈ K, GK K.length x) ∧ 1 ≤ K.length ∧ K.length ≤ 3
theorem wrongAt_none {many : Nat} : ∀ {K : List (List Fld)} (i : Nat), (∀ x ∈ K, GK many x) → wrongAt (many : Nat) i K = none
  | [], _, _ => rfl
  | x :: K, i, g => by
    unfold wrongAt
    rw [(g x List.mem_cons_self).kind]
    exact wrongAt_none (i + 1) fun z hz => g z (List.mem_cons_of_mem _ hz)
theorem GKs.wrong {K : List (List Fld)} (g : GKs K) : wrong K = none := wrongAt_none 0 g.1
theorem GKs.ok {K : List (List Fld)} (g : GKs K) : OkKs K := ⟨fun x hx => (g.1 x hx).ok, fun x hx => by have := (g.1 x hx).len; omega⟩
def kinds_c (j : Nat) (M : Mo) : MS := (mSeq (mAsg (mBin (oIx M) (mC (.str "abcdef")) (mBin (oB M .Mod) (mCB (fInt) (mCons (mBin (oB M .Add) (mVar 6) (mVar 5)) (mNil))) (mC (.int (6))))) (mgName 8)) (mSeq (mAsg (mIf (mB (mBin (oC M .NotEq) (mVar 7) (mLst (mNil)))) (mBin (oIx M) (mVar 7) (mNeg (mC (.int (1))))) (mC (.non))) (mgName 9)) (mSeq (mAsg (mTup (mCons (mVar 8) (mCons (mC (.non)) (mCons (mC (.str "one")) (mCons (mCB (mLen 2 (fun ws => r__law_pick j (ws ++ []))) (mCons (mVar 0) (mCons (mLst (mCons (mC (.str "must")) (mCons (mC (.str "may")) (mNil)))) (mNil)))) (mCons (mC (.non)) (mNil))))))) (mgName 10)) (mSeq (mIfS (mB (mBin (oC M .Gt) (mVar 5) (mC (.int (0))))) (mSeq (mAsg (mCB (mLen 4 (fun ws => r__law_field j (ws ++ []))) (mCons (mVar 0) (mCons (mVar 3) (mCons (mVar 8) (mCons (mVar 9) (mNil)))))) (mgName 10)) (mSkip)) (mSkip)) (mSeq (mExpr (mMthA M "append" 2 (mVar 7) (mCons (mVar 10) (mNil)))) (mSkip))))))
def kinds_c2 (j : Nat) (M : Mo) : MS := (mSeq (mAsg (mTup (mCons (mVar 8) (mCons (mC (.non)) (mCons (mC (.str "one")) (mCons (mCB (mLen 2 (fun ws => r__law_pick j (ws ++ []))) (mCons (mVar 0) (mCons (mLst (mCons (mC (.str "must")) (mCons (mC (.str "may")) (mNil)))) (mNil)))) (mCons (mC (.non)) (mNil))))))) (mgName 10)) (mSeq (mIfS (mB (mBin (oC M .Gt) (mVar 5) (mC (.int (0))))) (mSeq (mAsg (mCB (mLen 4 (fun ws => r__law_field j (ws ++ []))) (mCons (mVar 0) (mCons (mVar 3) (mCons (mVar 8) (mCons (mVar 9) (mNil)))))) (mgName 10)) (mSkip)) (mSkip)) (mSeq (mExpr (mMthA M "append" 2 (mVar 7) (mCons (mVar 10) (mNil)))) (mSkip))))
def kinds_c4 (j : Nat) (M : Mo) : MS := (mSeq (mExpr (mMthA M "append" 2 (mVar 7) (mCons (mVar 10) (mNil)))) (mSkip))
theorem kinds_ce (j : Nat) (M : Mo) : kinds_c j M = mSeq (mAsg (mBin (oIx M) (mC (.str "abcdef")) (mBin (oB M .Mod) (mCB (fInt) (mCons (mBin (oB M .Add) (mVar 6) (mVar 5)) (mNil))) (mC (.int (6))))) (mgName 8)) (mSeq (mAsg (mIf (mB (mBin (oC M .NotEq) (mVar 7) (mLst (mNil)))) (mBin (oIx M) (mVar 7) (mNeg (mC (.int (1))))) (mC (.non))) (mgName 9)) (kinds_c2 j M)) := rfl
theorem kinds_c2e (j : Nat) (M : Mo) : kinds_c2 j M = mSeq (mAsg (mTup (mCons (mVar 8) (mCons (mC (.non)) (mCons (mC (.str "one")) (mCons (mCB (mLen 2 (fun ws => r__law_pick j (ws ++ []))) (mCons (mVar 0) (mCons (mLst (mCons (mC (.str "must")) (mCons (mC (.str "may")) (mNil)))) (mNil)))) (mCons (mC (.non)) (mNil))))))) (mgName 10)) (mSeq (mIfS (mB (mBin (oC M .Gt) (mVar 5) (mC (.int (0))))) (mSeq (mAsg (mCB (mLen 4 (fun ws => r__law_field j (ws ++ []))) (mCons (mVar 0) (mCons (mVar 3) (mCons (mVar 8) (mCons (mVar 9) (mNil)))))) (mgName 10)) (mSkip)) (mSkip)) (kinds_c4 j M)) := rfl
theorem kinds_step (d : Dw k h) (l : Lo k h H) {a7 : Nat} (h7 : h.length < a7) {many : Nat} (m3 : many ≤ 3) {st : Int} {fs : List Fld} (ef : H[a7]? = some (.lst ((fs.map encF).map .d))) (df : DF many st fs) (hf : fs.length ≤ 20) {kd kh x8 x9 x10 : Option W} {Ks : AO} (ek : H[h.length]? = some Ks) {Q : RS → AHp → Prop}
    (fin : ∀ H' x x8 x9 x10, Lo k h H' → DF many st (fs ++ [x]) → H'[h.length]? = some Ks → H'[a7]? = some (.lst (((fs ++ [x]).map encF).map .d)) → Q (.nx [some (.ref k), some (.d (.int 3)), kd, some (.d (.int (many : Nat))), kh, some (.d (.int (fs.length : Nat))), some (.d (.int st)), some (.ref a7), x8, x9, x10]) H') :
    WS (kinds_c (j + 5) (T.mo 40 (j + 5 + 1)) [some (.ref k), some (.d (.int 3)), kd, some (.d (.int (many : Nat))), kh, some (.d (.int (fs.length : Nat))), some (.d (.int st)), some (.ref a7), x8, x9, x10] H) Q := by
  have hk := d.lt
  have app : ∀ (H : AHp) (x : Fld) (x8 x9 : Option W), Lo k h H → DF many st (fs ++ [x]) → H[h.length]? = some Ks → H[a7]? = some (.lst ((fs.map encF).map .d)) → WS (kinds_c4 (j + 5) (T.mo 40 (j + 5 + 1)) [some (.ref k), some (.d (.int 3)), kd, some (.d (.int (many : Nat))), kh, some (.d (.int (fs.length : Nat))), some (.d (.int st)), some (.ref a7), x8, x9, some (.d (encF x))] H) Q := by
    intro H x x8 x9 l ox ek ef
    have e1 := fun ma σ => app_ref (M := T.mo 40 (j + 5 + 1)) (n := 2) (ma := ma) (σ := σ) ef
    have e4 := app_eq (x := encF x) ef (by rw [List.length_map]; omega)
    have hlt : a7 < H.length := (List.getElem?_eq_some_iff.mp ef).1
    have fq := fin (H.set a7 (.lst ((fs.map encF ++ [encF x]).map .d))) x x8 x9 (some (.d (encF x))) (l.put hk (by omega) (lowL _ _) (clnL _)) ox (by
      rw [List.getElem?_set_ne (by omega)]
      exact ek) (by
      rw [List.getElem?_set_self hlt, List.map_append (f := encF)]
      rfl)
    unfold kinds_c4
    clear fin ef ek hlt
    walk_at "wps"
  clear fin
  obtain ⟨hnm, en⟩ := letterE (M := T.mo 40 (j + 5 + 1)) (h := H) ((st + (fs.length : Nat)) % 6) (by omega) (by omega)
  have hn9 := hnm
  have enm : L6 ((st + (fs.length : Nat)) % 6) = L6 ((st + (fs.length : Nat)) % 6) := rfl
  generalize hnmE : L6 ((st + (fs.length : Nat)) % 6) = nm at en hnm hn9
  clear enm
  have c2 : ∀ last : Option Fld, (∀ x, last = some x → GF many x) → WS (kinds_c2 (j + 5) (T.mo 40 (j + 5 + 1)) [some (.ref k), some (.d (.int 3)), kd, some (.d (.int (many : Nat))), kh, some (.d (.int (fs.length : Nat))), some (.d (.int st)), some (.ref a7), some (.d (.str nm)), some (.d (optD encF last)), x10] H) Q := by
    intro last pl
    rw [kinds_c2e]
    have pk := pick_ok (j := j + 1) l.d (ds := [.str "must", .str "may"]) (by simp)
    have app' := app
    clear app en
    have ek' := ek
    have ef' := ef
    have hn9' := hn9
    have hnmE' := hnmE
    have df' := df
    clear ek ef hn9 hnm hnmE df
    walk_at "wps"
    refine pk.imp ?_
    rintro w h' ⟨x, hx, rfl, n⟩
    have : ∃ m ∈ M2, x = .str m := by
      simp only [List.mem_cons, List.not_mem_nil, or_false] at hx
      rcases hx with rfl | rfl
      · exact ⟨"must", by decide +kernel, rfl⟩
      · exact ⟨"may", by decide +kernel, rfl⟩
    obtain ⟨m, hm, rfl⟩ := this
    have ll := l.nx n
    have ek2 := (n.get (a := h.length) (by omega)).trans ek'
    have ef2 := (n.get (a := a7) (by omega)).trans ef'
    have g1 : GF many ⟨nm, none, "one", m, none⟩ := ⟨hn9', (by decide +kernel : ("one" : Str) ∈ F4), hm, .inl rfl⟩
    have a1 := app' h' ⟨nm, none, "one", m, none⟩ (some (.d (.str nm))) (some (.d (optD encF last))) ll (df'.snoc g1 rfl hnmE'.symm fun _ => ⟨rfl, rfl⟩) ek2 ef2
    have fo := field_ok (j := j) ll.d m3 hn9' last pl
    clear pk hx
    have ex : encF ⟨nm, none, "one", m, none⟩ = .tup [.str nm, .non, .str "one", .str m, .non] := rfl
    rw [ex] at a1
    clear ex g1
    revert hnmE' df'
    walk_at "wps"
    intro hnmE' df'
    split
    · rename_i hpos
      refine fo.imp ?_
      rintro w h'' ⟨x, rfl, ox, xn, xs, n'⟩
      exact app' h'' x _ _ (ll.nx n') (df'.snoc ox xs (xn.trans hnmE'.symm) fun z => by rw [z] at hpos; simp at hpos) ((n'.get (by omega)).trans ek2) ((n'.get (by omega)).trans ef2)
    · first | trivial | exact a1
  rw [kinds_ce]
  have e2 := ne_ref (M := T.mo 40 (j + 5 + 1)) df.ok ef
  cases el : fs.getLast? with
  | none =>
    rw [List.getLast?_eq_none_iff] at el
    have c2' := c2 none (fun _ q => nomatch q)
    simp only [optD] at c2'
    have ei : fs.isEmpty = true := by rw [el]; rfl
    rw [ei] at e2
    clear app c2 ek ef el hnm hn9 hnmE df
    walk_at "wps"
  | some y =>
    have e3 := last_ref (M := T.mo 40 (j + 5 + 1)) ef el
    have c2' := c2 (some y) (fun x q => by cases q; exact (df.gf _ (List.mem_of_getLast? el)).1)
    simp only [optD] at c2'
    have ei : fs.isEmpty = false := by cases fs with | nil => cases el | cons _ _ => rfl
    rw [ei] at e2
    clear app c2 ek ef el hnm hn9 hnmE df
    walk_at "wps"
end
end K02

end
section
set_option Elab.async false
set_option linter.all false
set_option maxRecDepth 100000
set_option maxHeartbeats 1000000
namespace K02
open PySem PySem.Spec PyProof.Rows L2 PM
local macro_rules | `(tactic| walk_at "wps") => `(tactic| try simp only [↓wp_fn, ↓ws_seq, ↓ws_ret, ↓ws_asg, ↓ws_if, ↓ws_expr, ↓ws_for, ↓ws_par, ↓ws_skip, ↓ws_raise, ↓ws_raiseL, ↓ws_try, ↓seqK_nx, ↓seqK_rt, ↓seqK_exc, ↓fnK_rt, ↓fnK_nx, ↓fnK_exc, ↓loopK_nx, ↓loopK_rt, ↓loopK_exc, ↓wp_var, ↓wp_c, ↓wp_bin, ↓wp_un, ↓wp_nil, ↓wp_cons, ↓wp_star, ↓wp_cb, ↓wp_b, ↓wp_notT, ↓wp_andT, ↓wp_orT, ↓wp_yes, ↓wp_andV, ↓wp_orV, ↓wp_notV, ↓wp_if, ↓wp_chain, ↓wp_neg, ↓wp_tup, ↓wp_lst, ↓wp_lstR, ↓wp_slice, ↓wp_noPart, ↓wp_part, ↓wp_comp, ↓wp_lenSc, ↓wp_frzQ, ↓wp_items, ↓wp_enum, ↓wp_rng1, ↓wp_zip, zipD_tup, zipD_lst, ↓ws_match, ws_cs1, ↓ws_cs2, ↓wp_lstRgR, ↓wp_dc2, ↓wp_comp2, ↓wp_rng3, ↓wp_lstRg1, ↓wp_mthA, ↓ws_putK, oB_mulI, oB_modI, oB_addL, oB_addT, Int.reducePow, Int.reduceNeg, or_true, true_or, ↓tryK_rt, ↓tryK_nx, tryK_exc, ↓suiteK_rtD, setO_none, setO_some, ↓ws_stoA, ↓wp_make, ↓wp_bind, ↓mthK_cnt, fCnt_eq, fBs_map, wp_ok, wp_exc, wp_of, wp_pure, ws_some, gv0, gvS, unB_bl, if_true, if_false, Bool.false_eq_true, Bool.not_true, Bool.not_false, wp_cutD, wp_cutXD,
  oC_eqI, oC_neI, oC_eqB, oC_neB, oC_lt, oC_le, oC_gt, oC_ge, oC_is, oC_isNot, oB_addI, oB_subI, lenA_tup, lenA_lst, fInt_int, fTuple_lst, asgK_some, startA, List.map_cons, List.map_nil, List.replicate, List.length_cons, List.length_nil, List.length_map, List.cons_append, List.nil_append, List.append_nil, List.set_cons_zero, List.set_cons_succ, mgTup_d, mgCons_c, mgNil_n, mgName_n, bind_some', wipeA, setAll, mLen, isN_optS, isN_optI, isN_str, isN_int, isN_tup, isN_non, loopI, true_and, and_true, and_self, Nat.reduceAdd, Nat.reduceLT, Nat.reduceLeDiff, Nat.reduceEqDiff, Nat.reduceSub, Int.reduceEq, Int.reduceLT, Int.reduceLE, Int.reduceSub, Int.reduceAdd, Int.cast_ofNat_Int, decide_true, decide_false, not_true, not_false_iff, Nat.zero_add, unD_nil, unD_cons, Option.map_some, sizeLine, Nat.reducePow, Option.isNone_none, Option.isNone_some, *])
section
variable {j k : Nat} {h h1 h2 t H H1 : AHp} {M : Mo}
def kinds_b (j : Nat) (M : Mo) : MS := (mSeq (mPar [6, 7] (mCons (mCB (mLen 2 (fun ws => r__law_next j (ws ++ []))) (mCons (mVar 0) (mCons (mC (.int (6))) (mNil)))) (mCons (mLstR (mNil)) (mNil)))) (mSeq (mFor (mRng1 (mCons (mBin (oB M .Add) (mC (.int (2))) (mCB (mLen 2 (fun ws => r__law_next j (ws ++ []))) (mCons (mVar 0) (mCons (mBin (oB M .Sub) (mVar 1) (mC (.int (1)))) (mNil))))) (mNil))) (mgName 5) (mSeq (mAsg (mBin (oIx M) (mC (.str "abcdef")) (mBin (oB M .Mod) (mCB (fInt) (mCons (mBin (oB M .Add) (mVar 6) (mVar 5)) (mNil))) (mC (.int (6))))) (mgName 8)) (mSeq (mAsg (mIf (mB (mBin (oC M .NotEq) (mVar 7) (mLst (mNil)))) (mBin (oIx M) (mVar 7) (mNeg (mC (.int (1))))) (mC (.non))) (mgName 9)) (mSeq (mAsg (mTup (mCons (mVar 8) (mCons (mC (.non)) (mCons (mC (.str "one")) (mCons (mCB (mLen 2 (fun ws => r__law_pick j (ws ++ []))) (mCons (mVar 0) (mCons (mLst (mCons (mC (.str "must")) (mCons (mC (.str "may")) (mNil)))) (mNil)))) (mCons (mC (.non)) (mNil))))))) (mgName 10)) (mSeq (mIfS (mB (mBin (oC M .Gt) (mVar 5) (mC (.int (0))))) (mSeq (mAsg (mCB (mLen 4 (fun ws => r__law_field j (ws ++ []))) (mCons (mVar 0) (mCons (mVar 3) (mCons (mVar 8) (mCons (mVar 9) (mNil)))))) (mgName 10)) (mSkip)) (mSkip)) (mSeq (mExpr (mMthA M "append" 2 (mVar 7) (mCons (mVar 10) (mNil)))) (mSkip))))))) (mSeq (mExpr (mMthA M "append" 2 (mVar 4) (mCons (mCB (mLen 2 (fun ws => r__law_spared j (ws ++ []))) (mCons (mVar 0) (mCons (mFrzQ (mVar 7)) (mNil)))) (mNil)))) (mSkip))))
def kinds_b2 (j : Nat) (M : Mo) : MS := (mSeq (mExpr (mMthA M "append" 2 (mVar 4) (mCons (mCB (mLen 2 (fun ws => r__law_spared j (ws ++ []))) (mCons (mVar 0) (mCons (mFrzQ (mVar 7)) (mNil)))) (mNil)))) (mSkip))
theorem kinds_be (j : Nat) (M : Mo) : kinds_b j M = mSeq (mPar [6, 7] (mCons (mCB (mLen 2 (fun ws => r__law_next j (ws ++ []))) (mCons (mVar 0) (mCons (mC (.int (6))) (mNil)))) (mCons (mLstR (mNil)) (mNil)))) (mSeq (mFor (mRng1 (mCons (mBin (oB M .Add) (mC (.int (2))) (mCB (mLen 2 (fun ws => r__law_next j (ws ++ []))) (mCons (mVar 0) (mCons (mBin (oB M .Sub) (mVar 1) (mC (.int (1)))) (mNil))))) (mNil))) (mgName 5) (kinds_c j M)) (kinds_b2 j M)) := rfl
theorem kinds_e (j : Nat) (M : Mo) : s__law_kinds j M = mSeq (mPar [3, 4] (mCons (mBin (oB M .Add) (mC (.int (1))) (mCB (mLen 2 (fun ws => r__law_next j (ws ++ []))) (mCons (mVar 0) (mCons (mC (.int (3))) (mNil))))) (mCons (mLstR (mNil)) (mNil)))) (mSeq (mFor (mRng1 (mCons (mVar 3) (mNil))) (mgName 2) (kinds_b j M)) (mSeq (mRet (mCB (fTuple) (mCons (mVar 4) (mNil)))) (mSkip))) := rfl
theorem kinds_bstep (d : Dw k h) (l : Lo k h H) {many : Nat} (m3 : many ≤ 3) {K : List (List Fld)} (ek : H[h.length]? = some (.lst ((K.map encK).map .d))) (hK : K.length ≤ 3) {kd x5 x6 x7 x8 x9 x10 : Option W} {Q : RS → AHp → Prop}
    (fin : ∀ H' x x5 x6 x7 x8 x9 x10, Lo k h H' → GK many x → H'[h.length]? = some (.lst (((K ++ [x]).map encK).map .d)) → Q (.nx [some (.ref k), some (.d (.int 3)), kd, some (.d (.int (many : Nat))), some (.ref h.length), x5, x6, x7, x8, x9, x10]) H') :
    WS (kinds_b (j + 6) (T.mo 40 (j + 6 + 1)) [some (.ref k), some (.d (.int 3)), kd, some (.d (.int (many : Nat))), some (.ref h.length), x5, x6, x7, x8, x9, x10] H) Q := by
  have hk := d.lt
  rw [kinds_be]
  have nx := next_ok (j := j + 3) l.d (b := 6) (by decide)
  have fin' := fin
  have ek' := ek
  clear fin ek
  walk_at "wps"
  refine nx.imp ?_
  rintro w h' ⟨v, rfl, v0, v1, n⟩
  have ll := l.nx n
  have ek2 := (n.get (a := h.length) (by omega)).trans ek'
  have l3 := ll.pushN
  have hlt : h.length < h'.length := (List.getElem?_eq_some_iff.mp ek2).1
  have ek3 : (h' ++ [AO.lst []])[h.length]? = some (.lst ((K.map encK).map .d)) := by rw [List.getElem?_append_left hlt]; exact ek2
  have ef3 : (h' ++ [AO.lst []])[h'.length]? = some (.lst ((([] : List Fld).map encF).map .d)) := get_app0
  generalize h' ++ [AO.lst []] = H2 at l3 ek3 ef3
  have nx2 := next_ok (j := j + 3) l3.d (b := 2) (by decide)
  clear nx
  walk_at "wps"
  refine nx2.imp ?_
  rintro w h'' ⟨v2, rfl, v20, v21, n2⟩
  have l4 := l3.nx n2
  have ek4 := (n2.get (a := h.length) (by omega)).trans ek3
  have ef4 := (n2.get (a := h'.length) (by omega)).trans ef3
  have hr : -4611686018427387904 ≤ 2 + v2 ∧ 2 + v2 < 4611686018427387904 := by omega
  have tot : 2 ≤ (2 + v2).toNat ∧ (2 + v2).toNat ≤ 3 := by omega
  clear nx2 ek2 ek3 ef3 v20 v21 v0 v1
  walk_at "wps"
  rw [rng_map]
  refine loop_inv (fun i : Nat => W.d (.int ((i : Nat) : Int))) (fun r σ H => Lo k h H ∧ (∃ i, r = List.range' i ((2 + v2).toNat - i) ∧ i ≤ (2 + v2).toNat ∧ ∃ fs : List Fld, fs.length = i ∧ H[h'.length]? = some (.lst ((fs.map encF).map .d)) ∧ DF many v fs) ∧ H[h.length]? = some (.lst ((K.map encK).map .d)) ∧ (∃ x5 x8 x9 x10, σ = [some (.ref k), some (.d (.int 3)), kd, some (.d (.int (many : Nat))), some (.ref h.length), x5, some (.d (.int v)), some (.ref h'.length), x8, x9, x10])) ?_ ?_ (List.range (2 + v2).toNat) _ _ ⟨l4, ⟨0, by rw [Nat.sub_zero, List.range_eq_range'], Nat.zero_le _, [], rfl, ef4, ⟨by simp, rfl, fun y z => nomatch z⟩⟩, ek4, ⟨_, _, _, _, rfl⟩⟩
  · rintro i r σ H ⟨l5, ⟨i', er, hi, fs, hfl, ef5, df⟩, ek5, ⟨y5, y8, y9, y10, rfl⟩⟩
    refine ⟨_, rfl, ?_⟩
    have hpos : (2 + v2).toNat - i' = ((2 + v2).toNat - (i' + 1)) + 1 := by
      have := congrArg List.length er
      simp at this
      omega
    rw [hpos, List.range'_succ] at er
    injection er with e1 e2
    subst e1 e2
    subst hfl
    refine kinds_step (j := j + 1) d l5 hlt m3 ef5 df (by omega) ek5 ?_
    intro H' x x8 x9 x10 l6 df' ek6 ef6
    exact ⟨l6, ⟨fs.length + 1, rfl, by omega, fs ++ [x], by simp, ef6, df'⟩, ek6, ⟨_, _, _, _, rfl⟩⟩
  · rintro σ H ⟨l5, ⟨i', er, hi, fs, hfl, ef5, df⟩, ek5, ⟨y5, y8, y9, y10, rfl⟩⟩
    have hl : fs.length = (2 + v2).toNat := by
      have := congrArg List.length er
      simp at this
      omega
    have pf := df.ok
    have e1 := fun ma σ => app_ref (M := T.mo 40 (j + 6 + 1)) (n := 2) (ma := ma) (σ := σ) ek5
    have fz := frz_ref ef5
    have l6 : Lo k h (H.set h'.length .dead) := l5.put hk (by omega) rfl rfl
    have sp := spared_ok (j := j + 1) l6.d pf (by omega)
    have ek6 : (H.set h'.length .dead)[h.length]? = some (.lst ((K.map encK).map .d)) := by rw [List.getElem?_set_ne (by omega)]; exact ek5
    generalize H.set h'.length .dead = H5 at fz l6 sp ek6
    unfold kinds_b2
    have df' := df
    clear hr ef5 ef4 ek4 ek5 ek' df er pf
    revert df'
    walk_at "wps"
    intro df'
    refine sp.imp ?_
    rintro w H6 ⟨x, rfl, px, n6⟩
    have l7 := l6.nx n6
    have ek7 := (n6.get (a := h.length) (by omega)).trans ek6
    have e4 := app_eq (x := encK x) ek7 (by rw [List.length_map]; omega)
    have hlt7 : h.length < H6.length := (List.getElem?_eq_some_iff.mp ek7).1
    have fq := fin' (H6.set h.length (.lst ((K.map encK ++ [encK x]).map .d))) x y5 (some (.d (.int v))) (some (.ref h'.length)) y8 y9 y10 (l7.put hk (Nat.le_refl _) (lowL _ _) (clnL _)) (df'.kind (by omega) (by omega) px) (by
      rw [List.getElem?_set_self hlt7, List.map_append (f := encK)]
      rfl)
    clear fin' ek7 ek6 sp fz e1
    walk_at "wps"
theorem kinds_ok' (d : Dw k h) : WP (r__law_kinds (j + 7) [.ref k, .d (.int 3)] h) (fun w h' => ∃ K : List (List Fld), w = .d (encKs K) ∧ GKs K ∧ Nx k h h') E0' := by
  have hk := d.lt
  rw [sh__law_kinds, kinds_e]
  have nx := next_ok (j := j + 3) d (b := 3) (by decide)
  walk_at "wps"
  refine nx.imp ?_
  rintro w h' ⟨v, rfl, v0, v1, n⟩
  obtain ⟨many, hm, m1, m3⟩ : ∃ many : Nat, 1 + v = ((many : Nat) : Int) ∧ 1 ≤ many ∧ many ≤ 3 := ⟨(1 + v).toNat, by omega, by omega, by omega⟩
  rw [oB_addI, hm, wp_ok]
  dsimp only
  have hr : -4611686018427387904 ≤ ((many : Nat) : Int) ∧ ((many : Nat) : Int) < 4611686018427387904 := by omega
  have l := ((Lo.refl d).nx n).pushN
  have hl' : h'.length = h.length := n.len
  have ek : (h' ++ [AO.lst []])[h.length]? = some (.lst ((([] : List (List Fld)).map encK).map .d)) := by rw [← hl']; exact get_app0
  rw [hl']
  generalize h' ++ [AO.lst []] = H2 at l ek
  clear nx hm v0 v1
  have ek' := ek
  clear ek
  walk_at "wps"
  rw [rng_map, Int.toNat_natCast]
  refine loop_inv (fun i : Nat => W.d (.int ((i : Nat) : Int))) (fun r σ H => Lo k h H ∧ (∃ x2 x5 x6 x7 x8 x9 x10, σ = [some (.ref k), some (.d (.int 3)), x2, some (.d (.int (many : Nat))), some (.ref h.length), x5, x6, x7, x8, x9, x10]) ∧ ∃ K : List (List Fld), H[h.length]? = some (.lst ((K.map encK).map .d)) ∧ (∀ x ∈ K, GK many x) ∧ K.length + r.length = many) ?_ ?_ (List.range many) _ _ ⟨l, ⟨_, _, _, _, _, _, _, rfl⟩, [], ek', by simp, by simp⟩
  · rintro i r σ H ⟨l5, ⟨y2, y5, y6, y7, y8, y9, y10, rfl⟩, K, ek5, pK, hl⟩
    refine ⟨_, rfl, ?_⟩
    rw [List.length_cons] at hl
    refine kinds_bstep (j := j) d l5 m3 ek5 (by omega) ?_
    intro H' x x5 x6 x7 x8 x9 x10 l6 px ek6
    exact ⟨l6, ⟨_, _, _, _, _, _, _, rfl⟩, K ++ [x], ek6, fun z hz => by
      rcases List.mem_append.mp hz with hz | hz
      · exact pK z hz
      · rw [List.mem_singleton.mp hz]; exact px, by rw [List.length_append, List.length_singleton]; omega⟩
  · rintro σ H ⟨l5, ⟨y2, y5, y6, y7, y8, y9, y10, rfl⟩, K, ek5, pK, hl⟩
    rw [List.length_nil, Nat.add_zero] at hl
    have e1 := fTuple_ref ek5
    clear ek5 ek' hr
    revert pK
    walk_at "wps"
    intro pK
    refine l5.wp d fun h' n => ⟨K, rfl, ⟨by rw [hl]; exact pK, by omega, by omega⟩, n⟩
end
end K02

end
section
set_option Elab.async false
set_option linter.all false
set_option maxRecDepth 100000
set_option maxHeartbeats 1000000
namespace K02
open PySem PySem.Spec PyProof.Rows L2 PM
local macro_rules | `(tactic| walk_at "wps") => `(tactic| try simp only [↓wp_fn, ↓ws_seq, ↓ws_ret, ↓ws_asg, ↓ws_if, ↓ws_expr, ↓ws_for, ↓ws_par, ↓ws_skip, ↓ws_raise, ↓ws_raiseL, ↓ws_try, ↓seqK_nx, ↓seqK_rt, ↓seqK_exc, ↓fnK_rt, ↓fnK_nx, ↓fnK_exc, ↓loopK_nx, ↓loopK_rt, ↓loopK_exc, ↓wp_var, ↓wp_c, ↓wp_bin, ↓wp_un, ↓wp_nil, ↓wp_cons, ↓wp_star, ↓wp_cb, ↓wp_b, ↓wp_notT, ↓wp_andT, ↓wp_orT, ↓wp_yes, ↓wp_andV, ↓wp_orV, ↓wp_notV, ↓wp_if, ↓wp_chain, ↓wp_neg, ↓wp_tup, ↓wp_lst, ↓wp_lstR, ↓wp_slice, ↓wp_noPart, ↓wp_part, ↓wp_comp, ↓wp_lenSc, ↓wp_frzQ, ↓wp_items, ↓wp_enum, ↓wp_rng1, ↓wp_zip, zipD_tup, zipD_lst, ↓ws_match, ws_cs1, ↓ws_cs2, ↓wp_lstRgR, ↓wp_dc2, ↓wp_comp2, ↓wp_rng3, ↓wp_lstRg1, ↓wp_mthA, ↓ws_putK, oB_mulI, oB_modI, oB_addL, oB_addT, Int.reducePow, Int.reduceNeg, or_true, true_or, ↓tryK_rt, ↓tryK_nx, tryK_exc, ↓suiteK_rtD, setO_none, setO_some, ↓ws_stoA, ↓wp_make, ↓wp_bind, ↓mthK_cnt, fCnt_eq, fBs_map, wp_ok, wp_exc, wp_of, wp_pure, ws_some, gv0, gvS, unB_bl, if_true, if_false, Bool.false_eq_true, Bool.not_true, Bool.not_false, wp_cutD, wp_cutXD,
  oC_eqI, oC_neI, oC_eqB, oC_neB, oC_lt, oC_le, oC_gt, oC_ge, oC_is, oC_isNot, oB_addI, oB_subI, lenA_tup, lenA_lst, fInt_int, fTuple_lst, asgK_some, startA, List.map_cons, List.map_nil, List.replicate, List.length_cons, List.length_nil, List.length_map, List.cons_append, List.nil_append, List.append_nil, List.set_cons_zero, List.set_cons_succ, mgTup_d, mgCons_c, mgNil_n, mgName_n, bind_some', wipeA, setAll, mLen, isN_optS, isN_optI, isN_str, isN_int, isN_tup, isN_non, loopI, true_and, and_true, and_self, Nat.reduceAdd, Nat.reduceLT, Nat.reduceLeDiff, Nat.reduceEqDiff, Nat.reduceSub, Int.reduceEq, Int.reduceLT, Int.reduceLE, Int.reduceSub, Int.reduceAdd, Int.cast_ofNat_Int, decide_true, decide_false, not_true, not_false_iff, Nat.zero_add, unD_nil, unD_cons, Option.map_some, sizeLine, Nat.reducePow, Option.isNone_none, Option.isNone_some, *])
inductive Vl where
  | one (i : Int)
  | many (is : List Int)
  deriving DecidableEq
def encV : Vl → D
  | .one i => .int i
  | .many is => .tup (is.map .int)
abbrev Ob := Int × List Vl
def encO (o : Ob) : D := .tup [.int o.1, .tup (o.2.map encV)]
def encOs (os : List Ob) : D := .tup (os.map encO)
section
variable {j : Nat} {h : AHp} {M : Mo}
def sglB (os : List Ob) (t : Option Int) (v : Int) : Bool := match t with
  | none => decide (0 ≤ v ∧ v ≤ 9)
  | some t => decide (0 ≤ v ∧ v < os.length) && (match os[v.toNat]? with | some o => decide (o.1 = t) | none => false)
def sglV (os : List Ob) (t : Option Int) (v : Vl) : Bool := match v with | .one i => sglB os t i | .many _ => false
def valN (os : List Ob) (t : Option Int) (v : Vl) : Bool := match v with | .one _ => false | .many is => decide (is.length ≤ 3) && is.all (sglB os t)
def valB (os : List Ob) (f : Fld) (v : Vl) : Bool := if f.f = "one" then sglV os f.t v else valN os f.t v
def valsB (os : List Ob) (x : List Fld) (vs : List Vl) : Bool := (x.zip vs).all fun p => valB os p.1 p.2
def inK (K : List (List Fld)) (i : Int) : Option (List Fld) := if 0 ≤ i ∧ i < K.length then K[i.toNat]? else none
def objB (K : List (List Fld)) (os : List Ob) (o : Ob) : Bool := match inK K o.1 with
  | some x => decide (o.2.length = x.length) && valsB os x o.2
  | none => false
theorem isi_int_t (x : List D) : isiM M false (.ty "int") (.d (.tup x)) h = some (.ok (.d (.bl false)), h) := by kernel_rfl
theorem isi_tup_i (i : Int) : isiM M false (.ty "tuple") (.d (.int i)) h = some (.ok (.d (.bl false)), h) := by kernel_rfl
def vnum (v : Vl) (a b : Int) : Bool := match v with | .one i => decide (a ≤ i ∧ i ≤ b) | .many _ => false
theorem is_numberV (g : Gd h) (v : Vl) (a b : Int) : r_is_number (j + 1) [.d (encV v), .d (.int a), .d (.int b)] h = some (.ok (.d (.bl (vnum v a b))), h) := by
  cases v with
  | one i => exact is_number_ok g i a b
  | many is =>
    rw [sh_is_number]
    refine WP.eq ?_
    have e1 := isi_int_t (h := h) (M := T.mo 40 (j + 1)) (is.map .int)
    unfold s_is_number encV vnum
    walk_at "wps"
theorem ixO0 (o : Ob) : oIx M (.d (encO o)) (.d (.int 0)) h = some (.ok (.d (.int o.1)), h) := rfl
theorem ixO1 (o : Ob) : oIx M (.d (encO o)) (.d (.int 1)) h = some (.ok (.d (.tup (o.2.map encV))), h) := rfl
theorem lenA_O (o : Ob) : lenA M [.d (encO o)] h = some (.ok (.d (.int 2)), h) := rfl
theorem lenA_Os (os : List Ob) : lenA M [.d (encOs os)] h = some (.ok (.d (.int (os.length : Nat))), h) := by
  show some (R.ok (W.d (.int ((os.map encO).length : Nat))), h) = _
  rw [List.length_map]
theorem lenA_Vs (vs : List Vl) : lenA M [.d (.tup (vs.map encV))] h = some (.ok (.d (.int (vs.length : Nat))), h) := by
  show some (R.ok (W.d (.int ((vs.map encV).length : Nat))), h) = _
  rw [List.length_map]
theorem ix_map {α : Type} (f : α → D) {l : List α} {i : Int} (h0 : 0 ≤ i) {a : α} (e : l[i.toNat]? = some a) : oIx M (.d (.tup (l.map f))) (.d (.int i)) h = some (.ok (.d (f a)), h) := by
  show mOf ((atI (l.map f) i).map W.d) h = _
  unfold atI ixN
  have hl := (List.getElem?_eq_some_iff.mp e).1
  rw [List.length_map, if_pos h0, if_pos (by omega)]
  show mOf ((((l.map f)[i.toNat]?)).map W.d) h = _
  rw [List.getElem?_map, e]
  rfl
def kof (K : List (List Fld)) (o : Ob) : Option Int := if 0 ≤ o.1 ∧ o.1 ≤ (K.length : Int) - 1 then some o.1 else none
theorem kind_of_ok (g : Gd h) {K : List (List Fld)} (hk : K.length ≤ 20) (o : Ob) : r_kind_of (j + 2) [.d (sch K), .d (encO o)] h = some (.ok (.d (optD .int (kof K o))), h) := by
  rw [sh_kind_of]
  refine WP.eq ?_
  have e1 := isi_tup (h := h) (M := T.mo 40 (j + 1 + 1)) [.int o.1, .tup (o.2.map encV)]
  have e1' : isiM (T.mo 40 (j + 1 + 1)) false (.ty "tuple") (.d (encO o)) h = some (.ok (.d (.bl true)), h) := e1
  have e2 := lenA_O (h := h) (M := T.mo 40 (j + 1 + 1)) o
  have e3 := ixO0 (h := h) (M := T.mo 40 (j + 1 + 1)) o
  have e4 := len_ok (j := j) g K hk
  have e5 := is_number_ok (j := j) g o.1 0 ((K.length : Int) - 1)
  clear e1
  unfold s_kind_of kof
  walk_at "wps"
  by_cases c : 0 ≤ o.1 ∧ o.1 ≤ (K.length : Int) - 1
  · simp only [c, and_self, decide_true, if_true]
    walk_at "wps"
    try rfl
  · simp only [c, decide_false]
    walk_at "wps"
    try rfl
def TgI (n : Nat) (t : Option Int) : Prop := ∀ i, t = some i → 0 ≤ i ∧ i < n
theorem is_single_ok (g : Gd h) {K : List (List Fld)} (hk : K.length ≤ 20) (os : List Ob) {t : Option Int} (ht : TgI K.length t) (v : Vl) : r_is_single (j + 3) [.d (sch K), .d (encOs os), .d (optD .int t), .d (encV v)] h = some (.ok (.d (.bl (sglV os t v))), h) := by
  rw [sh_is_single]
  refine WP.eq ?_
  have e1 := is_numberV (j := j + 1) g v 0 9
  have e2 := is_numberV (j := j + 1) g v 0 ((os.length : Int) - 1)
  have e3 := lenA_Os (h := h) (M := T.mo 40 (j + 2 + 1)) os
  have ht' := ht
  clear ht
  unfold s_is_single
  cases t with
  | none =>
    simp only [optD]
    walk_at "wps"
    cases v <;> rfl
  | some t =>
    obtain ⟨t0, t1⟩ := ht' t rfl
    simp only [optD]
    clear ht'
    have t0' := t0
    have t1' := t1
    clear t0 t1
    walk_at "wps"
    cases v with
    | many is => simp [vnum, sglV]
    | one i =>
      by_cases c : 0 ≤ i ∧ i ≤ (os.length : Int) - 1
      · have hlt : i.toNat < os.length := by omega
        have eo : os[i.toNat]? = some os[i.toNat] := List.getElem?_eq_getElem hlt
        have e4 := ix_map (h := h) (M := T.mo 40 (j + 2 + 1)) encO c.1 eo
        have e5 := kind_of_ok (j := j) g hk os[i.toNat]
        have e6 := cmOI.oEq (M := T.mo 40 (j + 2 + 1)) (h := h) (a := kof K os[i.toNat]) (b := some t) (by decide) (fun _ _ => trivial) (fun _ _ => trivial)
        have e4' : oIx (T.mo 40 (j + 2 + 1)) (.d (encOs os)) (.d (.int i)) h = some (.ok (.d (encO os[i.toNat])), h) := e4
        have er : sglV os (some t) (.one i) = decide (kof K os[i.toNat] = some t) := by
          unfold sglV sglB
          dsimp only
          rw [eo]
          dsimp only
          rw [decide_eq_true (show 0 ≤ i ∧ i < os.length by omega), Bool.true_and]
          unfold kof
          by_cases q : 0 ≤ os[i.toNat].1 ∧ os[i.toNat].1 ≤ (K.length : Int) - 1
          · rw [if_pos q]
            by_cases z : os[i.toNat].1 = t <;> simp [z]
          · rw [if_neg q]
            have : os[i.toNat].1 ≠ t := fun z => q (by omega)
            simp [this]
        have ev : vnum (.one i) 0 ((os.length : Int) - 1) = true := decide_eq_true c
        have eV : encV (.one i) = .int i := rfl
        rw [er, ev, eV]
        have e7 : oC (T.mo 40 (j + 2 + 1)) .Eq (.d (optD .int (kof K os[i.toNat]))) (.d (.int t)) h = some (.ok (.d (.bl (decide (kof K os[i.toNat] = some t)))), h) := e6
        clear e6
        clear e4 eo er ev eV e1 e2 e3
        walk_at "wps"
      · have ev : vnum (.one i) 0 ((os.length : Int) - 1) = false := decide_eq_false c
        rw [ev]
        have : sglV os (some t) (.one i) = false := by
          unfold sglV sglB
          have : ¬ (0 ≤ i ∧ i < os.length) := by omega
          simp [this]
        rw [this]
        simp
end
end K02

end
section
set_option Elab.async false
set_option linter.all false
set_option maxRecDepth 100000
set_option maxHeartbeats 1000000
namespace K02
open PySem PySem.Spec PyProof.Rows L2 PM
local macro_rules | `(tactic| walk_at "wps") => `(tactic| try simp only [↓wp_fn, ↓ws_seq, ↓ws_ret, ↓ws_asg, ↓ws_if, ↓ws_expr, ↓ws_for, ↓ws_par, ↓ws_skip, ↓ws_raise, ↓ws_raiseL, ↓ws_try, ↓seqK_nx, ↓seqK_rt, ↓seqK_exc, ↓fnK_rt, ↓fnK_nx, ↓fnK_exc, ↓loopK_nx, ↓loopK_rt, ↓loopK_exc, ↓wp_var, ↓wp_c, ↓wp_bin, ↓wp_un, ↓wp_nil, ↓wp_cons, ↓wp_star, ↓wp_cb, ↓wp_b, ↓wp_notT, ↓wp_andT, ↓wp_orT, ↓wp_yes, ↓wp_andV, ↓wp_orV, ↓wp_notV, ↓wp_if, ↓wp_chain, ↓wp_neg, ↓wp_tup, ↓wp_lst, ↓wp_lstR, ↓wp_slice, ↓wp_noPart, ↓wp_part, ↓wp_comp, ↓wp_lenSc, ↓wp_frzQ, ↓wp_items, ↓wp_enum, ↓wp_rng1, ↓wp_zip, zipD_tup, zipD_lst, ↓ws_match, ws_cs1, ↓ws_cs2, ↓wp_lstRgR, ↓wp_dc2, ↓wp_comp2, ↓wp_rng3, ↓wp_lstRg1, ↓wp_mthA, ↓ws_putK, oB_mulI, oB_modI, oB_addL, oB_addT, Int.reducePow, Int.reduceNeg, or_true, true_or, ↓tryK_rt, ↓tryK_nx, tryK_exc, ↓suiteK_rtD, setO_none, setO_some, ↓ws_stoA, ↓wp_make, ↓wp_bind, ↓mthK_cnt, fCnt_eq, fBs_map, wp_ok, wp_exc, wp_of, wp_pure, ws_some, gv0, gvS, unB_bl, if_true, if_false, Bool.false_eq_true, Bool.not_true, Bool.not_false, wp_cutD, wp_cutXD,
  oC_eqI, oC_neI, oC_eqB, oC_neB, oC_lt, oC_le, oC_gt, oC_ge, oC_is, oC_isNot, oB_addI, oB_subI, lenA_tup, lenA_lst, fInt_int, fTuple_lst, asgK_some, startA, List.map_cons, List.map_nil, List.replicate, List.length_cons, List.length_nil, List.length_map, List.cons_append, List.nil_append, List.append_nil, List.set_cons_zero, List.set_cons_succ, mgTup_d, mgCons_c, mgNil_n, mgName_n, bind_some', wipeA, setAll, mLen, isN_optS, isN_optI, isN_str, isN_int, isN_tup, isN_non, loopI, true_and, and_true, and_self, Nat.reduceAdd, Nat.reduceLT, Nat.reduceLeDiff, Nat.reduceEqDiff, Nat.reduceSub, Int.reduceEq, Int.reduceLT, Int.reduceLE, Int.reduceSub, Int.reduceAdd, Int.cast_ofNat_Int, decide_true, decide_false, not_true, not_false_iff, Nat.zero_add, unD_nil, unD_cons, Option.map_some, sizeLine, Nat.reducePow, Option.isNone_none, Option.isNone_some, *])
section
variable {j : Nat} {h : AHp} {M : Mo}
theorem GF.tgI {n : Nat} {x : Fld} (g : GF n x) : TgI n x.t := fun i e => by
  rcases g.2.2.2 with q | ⟨k, hk, q⟩
  · rw [q] at e; cases e
  · rw [q] at e; cases e; omega
theorem items_I (is : List Int) : itemsOf (.d (.tup (is.map .int))) = some (is.map fun i => .d (.int i)) := by
  show some ((is.map D.int).map W.d) = _
  rw [List.map_map]
  rfl
theorem lenA_I (is : List Int) : lenA M [.d (.tup (is.map .int))] h = some (.ok (.d (.int (is.length : Nat))), h) := by
  show some (R.ok (W.d (.int ((is.map D.int).length : Nat))), h) = _
  rw [List.length_map]
def ShV (v : Vl) : Prop := match v with | .one _ => True | .many is => is.length ≤ 20
theorem is_value_ok (g : Gd h) {K : List (List Fld)} (hk : K.length ≤ 20) (os : List Ob) {f : Fld} (gf : GF K.length f) {v : Vl} (sv : ShV v) : r_is_value (j + 4) [.d (sch K), .d (encOs os), .d (encF f), .d (encV v)] h = some (.ok (.d (.bl (valB os f v))), h) := by
  rw [sh_is_value]
  refine WP.eq ?_
  have f1 := ixF1 (h := h) (M := T.mo 40 (j + 3 + 1)) f
  have f2 := ixF2 (h := h) (M := T.mo 40 (j + 3 + 1)) f
  have e1 := is_single_ok (j := j) g hk os gf.tgI v
  have e2 := fEq_str (h := h) (ok4 _ gf.2.1) okOne
  replace gf := Hd.mk gf
  replace sv := Hd.mk sv
  unfold s_is_value
  walk_at "wps"
  by_cases c : f.f = "one"
  · rw [if_pos (by simpa using c)]
    unfold valB
    rw [if_pos c]
  · rw [if_neg (by simpa using c)]
    unfold valB
    rw [if_neg c]
    cases v with
    | one i =>
      have e3 : isiM (T.mo 40 (j + 3 + 1)) false (.ty "tuple") (.d (encV (.one i))) h = some (.ok (.d (.bl false)), h) := isi_tup_i i
      clear c
      walk_at "wps"
      try rfl
    | many is =>
      have sl : is.length ≤ 20 := sv.of
      replace sl := Hd.mk sl
      have e3 : isiM (T.mo 40 (j + 3 + 1)) false (.ty "tuple") (.d (encV (.many is))) h = some (.ok (.d (.bl true)), h) := isi_tup _
      have e4 : lenA (T.mo 40 (j + 3 + 1)) [.d (encV (.many is))] h = some (.ok (.d (.int (is.length : Nat))), h) := lenA_I is
      have e5 : itemsOf (.d (encV (.many is))) = _ := items_I is
      clear c
      walk_at "wps"
      by_cases c3 : is.length ≤ 3
      · rw [if_neg (by simp; omega)]
        clear e1
        rw [comp_all (fun i : Int => W.d (.int i)) (fun i => .bl (sglB os f.t i)) is (fun i hi => ⟨_, rfl, by
          have e6 := is_single_ok (j := j) g hk os gf.of.tgI (.one i)
          have e7 : r_is_single (j + 3) [.d (sch K), .d (encOs os), .d (optD .int f.t), .d (.int i)] h = some (.ok (.d (.bl (sglB os f.t i))), h) := e6
          clear e6
          walk_at "wps"⟩) (szLine (by omega))]
        walk_at "wps"
        simp [c3, valN, List.all_map, Function.comp_def]
      · rw [if_pos (by simp; omega)]
        simp [c3, valN]
theorem zipW_map (x : List Fld) (vs : List Vl) : zipW (x.map encF) (vs.map encV) = (x.zip vs).map fun p => W.d (.tup [encF p.1, encV p.2]) := by
  unfold zipW
  rw [List.zipWith_map, List.map_zip_eq_zipWith]
  rfl
def ShO (o : Ob) : Prop := o.2.length ≤ 20 ∧ ∀ v ∈ o.2, ShV v
theorem zip_sh {o : Ob} (s : ShO o) {x : List Fld} {p : Fld × Vl} (hp : p ∈ x.zip o.2) : p.1 ∈ x ∧ ShV p.2 := ⟨(List.of_mem_zip hp).1, s.2 _ (List.of_mem_zip hp).2⟩
theorem is_object_ok (g : Gd h) {K : List (List Fld)} (gk : GKs K) (os : List Ob) {o : Ob} (so : ShO o) : r_is_object (j + 5) [.d (sch K), .d (encOs os), .d (encO o)] h = some (.ok (.d (.bl (objB K os o))), h) := by
  rw [sh_is_object]
  refine WP.eq ?_
  have hk : K.length ≤ 20 := by have := gk.2.2; omega
  have e1 := kind_of_ok (j := j + 2) g hk o
  have e2 := ixO1 (h := h) (M := T.mo 40 (j + 4 + 1)) o
  have e3 := isi_tup (h := h) (M := T.mo 40 (j + 4 + 1)) (o.2.map encV)
  have e4 := lenA_Vs (h := h) (M := T.mo 40 (j + 4 + 1)) o.2
  have e5 := at_kinds (j := j + 3) g K
  replace gk := Hd.mk gk
  replace so := Hd.mk so
  replace hk := Hd.mk hk
  unfold s_is_object objB inK
  by_cases c : 0 ≤ o.1 ∧ o.1 < K.length
  · have ek : kof K o = some o.1 := by unfold kof; rw [if_pos (by omega)]
    have hlt : o.1.toNat < K.length := by omega
    have eK : K[o.1.toNat]? = some K[o.1.toNat] := List.getElem?_eq_getElem hlt
    have e6 : oIx (T.mo 40 (j + 4 + 1)) (.d (encKs K)) (.d (.int o.1)) h = some (.ok (.d (encK K[o.1.toNat])), h) := ix_map encK c.1 eK
    rw [if_pos c, eK]
    rw [ek] at e1
    have gx := Hd.mk (gk.of.1 K[o.1.toNat] (List.getElem_mem hlt))
    generalize K[o.1.toNat] = x at e6 gx eK
    have e7 := lenA_K (h := h) (M := T.mo 40 (j + 4 + 1)) x
    simp only [optD] at e1
    clear c ek eK hlt
    walk_at "wps"
    by_cases c2 : o.2.length = x.length
    · rw [if_neg (by simp [c2])]
      have eZ : zipD [.d (encK x), .d (.tup (o.2.map encV))] = some ((x.zip o.2).map fun p => W.d (.tup [encF p.1, encV p.2])) := by
        rw [← zipW_map]
        rfl
      rw [eZ]
      walk_at "wps"
      rw [comp_all (fun p : Fld × Vl => W.d (.tup [encF p.1, encV p.2])) (fun p => .bl (valB os p.1 p.2)) (x.zip o.2) (fun p hp => ⟨_, rfl, by
        have e8 := is_value_ok (j := j) g hk.of os (gx.of.gf p.1 (zip_sh so.of hp).1) (zip_sh so.of hp).2
        clear e1 e2 e3 e4 e5 e6 e7 eZ
        walk_at "wps"⟩) (szLine (by rw [List.length_zip]; have := so.of.1; omega))]
      walk_at "wps"
      simp [c2, valsB, List.all_map, Function.comp_def]
    · rw [if_pos (by simp; omega)]
      simp [c2]
  · have ek : kof K o = none := by unfold kof; rw [if_neg (by omega)]
    rw [if_neg c]
    rw [ek] at e1
    simp only [optD] at e1
    clear c ek
    walk_at "wps"
end
end K02

end
section
set_option Elab.async false
set_option linter.all false
set_option maxRecDepth 100000
set_option maxHeartbeats 1000000
namespace K02
open PySem PySem.Spec PyProof.Rows L2 PM
local macro_rules | `(tactic| walk_at "wps") => `(tactic| try simp only [↓wp_fn, ↓ws_seq, ↓ws_ret, ↓ws_asg, ↓ws_if, ↓ws_expr, ↓ws_for, ↓ws_par, ↓ws_skip, ↓ws_raise, ↓ws_raiseL, ↓ws_try, ↓seqK_nx, ↓seqK_rt, ↓seqK_exc, ↓fnK_rt, ↓fnK_nx, ↓fnK_exc, ↓loopK_nx, ↓loopK_rt, ↓loopK_exc, ↓wp_var, ↓wp_c, ↓wp_bin, ↓wp_un, ↓wp_nil, ↓wp_cons, ↓wp_star, ↓wp_cb, ↓wp_b, ↓wp_notT, ↓wp_andT, ↓wp_orT, ↓wp_yes, ↓wp_andV, ↓wp_orV, ↓wp_notV, ↓wp_if, ↓wp_chain, ↓wp_neg, ↓wp_tup, ↓wp_lst, ↓wp_lstR, ↓wp_slice, ↓wp_noPart, ↓wp_part, ↓wp_comp, ↓wp_lenSc, ↓wp_frzQ, ↓wp_items, ↓wp_enum, ↓wp_rng1, ↓wp_zip, zipD_tup, zipD_lst, ↓ws_match, ws_cs1, ↓ws_cs2, ↓wp_lstRgR, ↓wp_dc2, ↓wp_comp2, ↓wp_rng3, ↓wp_lstRg1, ↓wp_mthA, ↓ws_putK, oB_mulI, oB_modI, oB_addL, oB_addT, Int.reducePow, Int.reduceNeg, or_true, true_or, ↓tryK_rt, ↓tryK_nx, tryK_exc, ↓suiteK_rtD, setO_none, setO_some, ↓ws_stoA, ↓wp_make, ↓wp_bind, ↓mthK_cnt, fCnt_eq, fBs_map, wp_ok, wp_exc, wp_of, wp_pure, ws_some, gv0, gvS, unB_bl, if_true, if_false, Bool.false_eq_true, Bool.not_true, Bool.not_false, wp_cutD, wp_cutXD,
  oC_eqI, oC_neI, oC_eqB, oC_neB, oC_lt, oC_le, oC_gt, oC_ge, oC_is, oC_isNot, oB_addI, oB_subI, lenA_tup, lenA_lst, fInt_int, fTuple_lst, asgK_some, startA, List.map_cons, List.map_nil, List.replicate, List.length_cons, List.length_nil, List.length_map, List.cons_append, List.nil_append, List.append_nil, List.set_cons_zero, List.set_cons_succ, mgTup_d, mgCons_c, mgNil_n, mgName_n, bind_some', wipeA, setAll, mLen, isN_optS, isN_optI, isN_str, isN_int, isN_tup, isN_non, loopI, true_and, and_true, and_self, Nat.reduceAdd, Nat.reduceLT, Nat.reduceLeDiff, Nat.reduceEqDiff, Nat.reduceSub, Int.reduceEq, Int.reduceLT, Int.reduceLE, Int.reduceSub, Int.reduceAdd, Int.cast_ofNat_Int, decide_true, decide_false, not_true, not_false_iff, Nat.zero_add, unD_nil, unD_cons, Option.map_some, sizeLine, Nat.reducePow, Option.isNone_none, Option.isNone_some, *])
section
variable {j : Nat} {h : AHp} {M : Mo}
theorem law_is_single_ok (g : Gd h) (ks : W) (os : List Ob) (t : Option Int) (i : Int) : r__law_is_single (j + 1) [ks, .d (encOs os), .d (optD .int t), .d (.int i)] h = some (.ok (.d (.bl (sglB os t i))), h) := by
  rw [sh__law_is_single]
  refine WP.eq ?_
  have e3 := lenA_Os (h := h) (M := T.mo 40 (j + 1)) os
  unfold s__law_is_single sglB
  cases t with
  | none =>
    simp only [optD]
    walk_at "wps"
    by_cases c0 : 0 ≤ i
    · simp [c0]
    · simp [c0]
  | some t =>
    simp only [optD]
    by_cases c : 0 ≤ i ∧ i < os.length
    · have hlt : i.toNat < os.length := by omega
      have eo : os[i.toNat]? = some os[i.toNat] := List.getElem?_eq_getElem hlt
      have e4 : oIx (T.mo 40 (j + 1)) (.d (encOs os)) (.d (.int i)) h = some (.ok (.d (encO os[i.toNat])), h) := ix_map encO c.1 eo
      have e5 := ixO0 (h := h) (M := T.mo 40 (j + 1)) os[i.toNat]
      rw [eo]
      dsimp only
      obtain ⟨c0, c1⟩ := c
      rw [decide_eq_true (show 0 ≤ i ∧ i < os.length from ⟨c0, c1⟩), Bool.true_and]
      clear eo
      walk_at "wps"
    · rw [decide_eq_false c, Bool.false_and]
      walk_at "wps"
      by_cases c0 : 0 ≤ i
      · have c1 : ¬ i < os.length := fun z => c ⟨c0, z⟩
        simp [c0, c1]
      · simp [c0]
def lawB (K : List (List Fld)) (os : List Ob) (a : Nat) : Bool := match os[a]? with
  | some o => objB K os o && !(decide (a = 0) && !decide (o.1 = 0))
  | none => false
theorem mgO (o : Ob) (σ : Sl) : mgTup (mgCons (mgName 3) (mgCons (mgName 4) mgNil)) 2 (.d (encO o)) σ = mgCons (mgName 3) (mgCons (mgName 4) mgNil) [.d (.int o.1), .d (.tup (o.2.map encV))] σ := by
  rw [encO, mgTup_d]
  rfl
def isob_b (j : Nat) (M : Mo) : MS := (mSeq (mIfS (mB (mBin (oC M .Eq) (mBin (oIx M) (mVar 5) (mC (.int (2)))) (mC (.str "one")))) (mSeq (mIfS (mOrT (mB (mUn (isiM M false (.ty "tuple")) (mVar 6))) (mNotT (mB (mCB (mLen 4 (fun ws => r__law_is_single j (ws ++ []))) (mCons (mVar 0) (mCons (mVar 1) (mCons (mBin (oIx M) (mVar 5) (mC (.int (1)))) (mCons (mVar 6) (mNil))))))))) (mSeq (mRet (mC (.bl false))) (mSkip)) (mSkip)) (mSkip)) (mSeq (mIfS (mOrT (mNotT (mB (mUn (isiM M false (.ty "tuple")) (mVar 6)))) (mB (mBin (oC M .Gt) (mCB (lenA M) (mCons (mVar 6) (mNil))) (mC (.int (3)))))) (mSeq (mRet (mC (.bl false))) (mSkip)) (mSkip)) (mSeq (mIfS (mNotT (mB (mCB (fBs fun bs => bs.all id) (mCons (mComp (mItems (mVar 6)) (mgName 7) (mYes) (mCB (mLen 4 (fun ws => r__law_is_single j (ws ++ []))) (mCons (mVar 0) (mCons (mVar 1) (mCons (mBin (oIx M) (mVar 5) (mC (.int (1)))) (mCons (mVar 7) (mNil)))))) [7]) (mNil))))) (mSeq (mRet (mC (.bl false))) (mSkip)) (mSkip)) (mSkip)))) (mSkip))
theorem isob_e (j : Nat) (M : Mo) : s__law_is_object j M = mSeq (mAsg (mBin (oIx M) (mVar 1) (mVar 2)) (mgTup (mgCons (mgName 3) (mgCons (mgName 4) (mgNil))) 2)) (mSeq (mIfS (mOrT (mNotT (mB (mChain (oC M .LtE) (oC M .Lt) (mC (.int (0))) (mVar 3) (mCB (lenA M) (mCons (mVar 0) (mNil)))))) (mOrT (mAndT (mB (mBin (oC M .Eq) (mVar 2) (mC (.int (0))))) (mB (mBin (oC M .NotEq) (mVar 3) (mC (.int (0)))))) (mB (mBin (oC M .NotEq) (mCB (lenA M) (mCons (mVar 4) (mNil))) (mCB (lenA M) (mCons (mBin (oIx M) (mVar 0) (mVar 3)) (mNil))))))) (mSeq (mRet (mC (.bl false))) (mSkip)) (mSkip)) (mSeq (mFor (mZip (mCons (mBin (oIx M) (mVar 0) (mVar 3)) (mCons (mVar 4) (mNil)))) (mgTup (mgCons (mgName 5) (mgCons (mgName 6) (mgNil))) 2) (isob_b j M)) (mSeq (mRet (mC (.bl true))) (mSkip)))) := rfl
theorem isob_step (g : Gd h) {n : Nat} {os : List Ob} {f : Fld} {v : Vl} (gf : GF n f) (sv : ShV v) {w0 w2 w3 w4 : W} {x7 : Option W} {Q : RS → AHp → Prop} (q1 : valB os f v = true → ∀ x7, Q (.nx [some w0, some (.d (encOs os)), some w2, some w3, some w4, some (.d (encF f)), some (.d (encV v)), x7]) h) (q2 : valB os f v = false → Q (.rt (.d (.bl false))) h) :
    WS (isob_b (j + 1) (T.mo 40 (j + 1 + 1)) [some w0, some (.d (encOs os)), some w2, some w3, some w4, some (.d (encF f)), some (.d (encV v)), x7] h) Q := by
  have f1 := ixF1 (h := h) (M := T.mo 40 (j + 1 + 1)) f
  have f2 := ixF2 (h := h) (M := T.mo 40 (j + 1 + 1)) f
  have e2 := oC_eqS (M := T.mo 40 (j + 1 + 1)) (h := h) (ok4 _ gf.2.1) okOne
  replace gf := Hd.mk gf
  replace sv := Hd.mk sv
  replace q1 := Hd.mk q1
  replace q2 := Hd.mk q2
  unfold isob_b
  by_cases c : f.f = "one"
  · rw [decide_eq_true c] at e2
    have er : valB os f v = sglV os f.t v := by unfold valB; rw [if_pos c]
    clear c
    cases v with
    | many is =>
      have e3 : isiM (T.mo 40 (j + 1 + 1)) false (.ty "tuple") (.d (encV (.many is))) h = some (.ok (.d (.bl true)), h) := isi_tup _
      have q3 := q2.of er
      clear er
      walk_at "wps"
    | one i =>
      have e3 : isiM (T.mo 40 (j + 1 + 1)) false (.ty "tuple") (.d (encV (.one i))) h = some (.ok (.d (.bl false)), h) := isi_tup_i i
      have e4 : r__law_is_single (j + 1) [w0, .d (encOs os), .d (optD .int f.t), .d (encV (.one i))] h = some (.ok (.d (.bl (sglB os f.t i))), h) := law_is_single_ok g w0 os f.t i
      replace er := Hd.mk er
      walk_at "wps"
      split
      · rename_i z
        exact q2.of (er.of.trans (by simpa [sglV] using z))
      · rename_i z
        exact q1.of (er.of.trans (by simpa [sglV] using z)) _
  · rw [decide_eq_false c] at e2
    have er : valB os f v = valN os f.t v := by unfold valB; rw [if_neg c]
    clear c
    cases v with
    | one i =>
      have e3 : isiM (T.mo 40 (j + 1 + 1)) false (.ty "tuple") (.d (encV (.one i))) h = some (.ok (.d (.bl false)), h) := isi_tup_i i
      have q3 := q2.of er
      clear er
      walk_at "wps"
    | many is =>
      have sl : is.length ≤ 20 := sv.of
      replace sl := Hd.mk sl
      have e3 : isiM (T.mo 40 (j + 1 + 1)) false (.ty "tuple") (.d (encV (.many is))) h = some (.ok (.d (.bl true)), h) := isi_tup _
      have e4 : lenA (T.mo 40 (j + 1 + 1)) [.d (encV (.many is))] h = some (.ok (.d (.int (is.length : Nat))), h) := lenA_I is
      have e5 : itemsOf (.d (encV (.many is))) = _ := items_I is
      replace er := Hd.mk er
      walk_at "wps"
      by_cases c3 : is.length ≤ 3
      · rw [if_neg (by simp; omega)]
        rw [comp_all (fun i : Int => W.d (.int i)) (fun i => .bl (sglB os f.t i)) is (fun i hi => ⟨_, rfl, by
          have e7 := law_is_single_ok (j := j) g w0 os f.t i
          walk_at "wps"⟩) (szLine (by have := sl.of; omega))]
        walk_at "wps"
        split
        · rename_i z
          exact q2.of (er.of.trans (by simpa [c3, valN, List.all_map, Function.comp_def] using z))
        · rename_i z
          exact q1.of (er.of.trans (by simpa [c3, valN, List.all_map, Function.comp_def] using z)) _
      · rw [if_pos (by simp; omega)]
        exact q2.of (er.of.trans (by simp [c3, valN]))
theorem isob_loop (g : Gd h) {n : Nat} {os : List Ob} {ps : List (Fld × Vl)} (hp : ∀ p ∈ ps, GF n p.1 ∧ ShV p.2) {w0 w2 w3 w4 : W} {x5 x6 x7 : Option W} {Q : RS → AHp → Prop} (q1 : (ps.all fun p => valB os p.1 p.2) = true → ∀ x5 x6 x7, Q (.nx [some w0, some (.d (encOs os)), some w2, some w3, some w4, x5, x6, x7]) h) (q2 : (ps.all fun p => valB os p.1 p.2) = false → Q (.rt (.d (.bl false))) h) :
    WS (mLoop (mgTup (mgCons (mgName 5) (mgCons (mgName 6) (mgNil))) 2) (isob_b (j + 1) (T.mo 40 (j + 1 + 1))) (ps.map fun p => W.d (.tup [encF p.1, encV p.2])) [some w0, some (.d (encOs os)), some w2, some w3, some w4, x5, x6, x7] h) Q := by
  refine loop_inv (fun p : Fld × Vl => W.d (.tup [encF p.1, encV p.2])) (fun r σ H => H = h ∧ (∃ x5 x6 x7, σ = [some w0, some (.d (encOs os)), some w2, some w3, some w4, x5, x6, x7]) ∧ ∃ done, ps = done ++ r ∧ (done.all fun p => valB os p.1 p.2) = true) ?_ ?_ ps _ _ ⟨rfl, ⟨_, _, _, rfl⟩, [], rfl, rfl⟩
  · rintro p r σ H ⟨rfl, ⟨x5, x6, x7, rfl⟩, done, e, hd⟩
    obtain ⟨p1, p2⟩ := hp p (by rw [e]; simp)
    refine ⟨_, rfl, isob_step g p1 p2 (fun z x7 => ⟨rfl, ⟨_, _, _, rfl⟩, done ++ [p], by rw [e, List.append_assoc]; rfl, by rw [List.all_append, hd]; simp [z]⟩) fun z => ?_⟩
    refine q2 ?_
    rw [e, List.all_append, List.all_cons, z]
    simp
  · rintro σ H ⟨rfl, ⟨x5, x6, x7, rfl⟩, done, e, hd⟩
    rw [List.append_nil] at e
    subst e
    exact q1 hd _ _ _
theorem law_is_object_ok (g : Gd h) {K : List (List Fld)} (gk : GKs K) (os : List Ob) {a : Nat} {o : Ob} (eo : os[a]? = some o) (so : ShO o) : r__law_is_object (j + 2) [.d (encKs K), .d (encOs os), .d (.int (a : Nat))] h = some (.ok (.d (.bl (lawB K os a))), h) := by
  rw [sh__law_is_object, isob_e]
  refine WP.eq ?_
  have e1 : oIx (T.mo 40 (j + 1 + 1)) (.d (encOs os)) (.d (.int (a : Nat))) h = some (.ok (.d (encO o)), h) := ix_map encO (by omega) (by rw [Int.toNat_natCast]; exact eo)
  have e2 := fun σ => mgO o σ
  have e3 := lenA_Ks (h := h) (M := T.mo 40 (j + 1 + 1)) K
  have e4 := lenA_Vs (h := h) (M := T.mo 40 (j + 1 + 1)) o.2
  have el : lawB K os a = (objB K os o && !(decide (a = 0) && !decide (o.1 = 0))) := by unfold lawB; rw [eo]
  rw [el]
  clear el eo
  replace gk := Hd.mk gk
  replace so := Hd.mk so
  unfold objB inK
  by_cases c : 0 ≤ o.1 ∧ o.1 < K.length
  · have hlt : o.1.toNat < K.length := by omega
    have eK : K[o.1.toNat]? = some K[o.1.toNat] := List.getElem?_eq_getElem hlt
    have e6 : oIx (T.mo 40 (j + 1 + 1)) (.d (encKs K)) (.d (.int o.1)) h = some (.ok (.d (encK K[o.1.toNat])), h) := ix_map encK c.1 eK
    rw [if_pos c, eK]
    have gx := Hd.mk (gk.of.1 K[o.1.toNat] (List.getElem_mem hlt))
    generalize K[o.1.toNat] = x at e6 gx eK
    have e7 := lenA_K (h := h) (M := T.mo 40 (j + 1 + 1)) x
    obtain ⟨c0, c1⟩ := c
    clear eK hlt
    have eZ : zipD [.d (encK x), .d (.tup (o.2.map encV))] = some ((x.zip o.2).map fun p => W.d (.tup [encF p.1, encV p.2])) := by
      rw [← zipW_map]
      rfl
    have hp : ∀ p ∈ x.zip o.2, GF K.length p.1 ∧ ShV p.2 := fun p hp => ⟨gx.of.gf p.1 (zip_sh so.of hp).1, (zip_sh so.of hp).2⟩
    have lp : ∀ {Q : RS → AHp → Prop}, _ := fun {Q} q1 q2 => isob_loop (j := j) g (os := os) hp (w0 := .d (encKs K)) (w2 := .d (.int (a : Nat))) (w3 := .d (.int o.1)) (w4 := .d (.tup (o.2.map encV))) (x5 := none) (x6 := none) (x7 := none) (Q := Q) q1 q2
    replace hp := Hd.mk hp
    replace lp := Hd.mk @lp
    have fin : ¬ (a = 0 ∧ ¬ o.1 = 0) → o.2.length = x.length → WS (mLoop (mgTup (mgCons (mgName 5) (mgCons (mgName 6) (mgNil))) 2) (isob_b (j + 1) (T.mo 40 (j + 1 + 1))) ((x.zip o.2).map fun p => W.d (.tup [encF p.1, encV p.2])) [some (.d (encKs K)), some (.d (encOs os)), some (.d (.int (a : Nat))), some (.d (.int o.1)), some (.d (.tup (o.2.map encV))), none, none, none] h) (seqK (mSeq (mRet (mC (.bl true))) (mSkip)) (fnK h.length (fun w h' => w = .d (.bl (decide (o.2.length = x.length) && valsB os x o.2 && !(decide (a = 0) && !decide (o.1 = 0)))) ∧ h' = h) E0')) := by
      intro n1 n2
      have n3 : (decide (a = 0) && !decide (o.1 = 0)) = false := by
        by_cases z : a = 0
        · by_cases y : o.1 = 0
          · simp [y]
          · exact absurd ⟨z, y⟩ n1
        · simp [z]
      rw [n3, decide_eq_true n2]
      refine lp.of (fun z x5 x6 x7 => ?_) (fun z => ?_)
      · have z' : valsB os x o.2 = true := z
        rw [z']
        clear n1 n2 n3 z z'
        walk_at "wps"
        try rfl
      · have z' : valsB os x o.2 = false := z
        rw [z']
        clear n1 n2 n3 z z'
        walk_at "wps"
        try rfl
    replace fin := Hd.mk fin
    walk_at "wps"
    by_cases a0 : a = 0
    · rw [if_pos (by simp [a0])]
      by_cases o0 : o.1 = 0
      · rw [if_neg (by simp [o0])]
        by_cases ol : o.2.length = x.length
        · rw [if_neg (by simp [ol])]
          exact fin.of (fun z => z.2 o0) ol
        · rw [if_pos (by simp; omega)]
          simp [ol]
      · rw [if_pos (by simp [o0])]
        simp [a0, o0]
    · rw [if_neg (by simp; omega)]
      by_cases ol : o.2.length = x.length
      · rw [if_neg (by simp [ol])]
        exact fin.of (fun z => a0 z.1) ol
      · rw [if_pos (by simp; omega)]
        simp [ol]
  · rw [if_neg c]
    walk_at "wps"
    by_cases c0 : 0 ≤ o.1
    · have c1 : ¬ o.1 < K.length := fun z => c ⟨c0, z⟩
      rw [if_pos (by simp [c0]), if_pos (by simp; omega)]
      rfl
    · rw [if_neg (by simp; omega)]
      rfl
end
end K02

end
section
set_option Elab.async false
set_option linter.all false
set_option maxRecDepth 100000
set_option maxHeartbeats 1000000
namespace K02
open PySem PySem.Spec PyProof.Rows L2 PM
local macro_rules | `(tactic| walk_at "wps") => `(tactic| try simp only [↓wp_fn, ↓ws_seq, ↓ws_ret, ↓ws_asg, ↓ws_if, ↓ws_expr, ↓ws_for, ↓ws_par, ↓ws_skip, ↓ws_raise, ↓ws_raiseL, ↓ws_try, ↓seqK_nx, ↓seqK_rt, ↓seqK_exc, ↓fnK_rt, ↓fnK_nx, ↓fnK_exc, ↓loopK_nx, ↓loopK_rt, ↓loopK_exc, ↓wp_var, ↓wp_c, ↓wp_bin, ↓wp_un, ↓wp_nil, ↓wp_cons, ↓wp_star, ↓wp_cb, ↓wp_b, ↓wp_notT, ↓wp_andT, ↓wp_orT, ↓wp_yes, ↓wp_andV, ↓wp_orV, ↓wp_notV, ↓wp_if, ↓wp_chain, ↓wp_neg, ↓wp_tup, ↓wp_lst, ↓wp_lstR, ↓wp_slice, ↓wp_noPart, ↓wp_part, ↓wp_comp, ↓wp_lenSc, ↓wp_frzQ, ↓wp_items, ↓wp_enum, ↓wp_rng1, ↓wp_zip, zipD_tup, zipD_lst, ↓ws_match, ws_cs1, ↓ws_cs2, ↓wp_lstRgR, ↓wp_dc2, ↓wp_comp2, ↓wp_rng3, ↓wp_lstRg1, ↓wp_mthA, ↓ws_putK, oB_mulI, oB_modI, oB_addL, oB_addT, Int.reducePow, Int.reduceNeg, or_true, true_or, ↓tryK_rt, ↓tryK_nx, tryK_exc, ↓suiteK_rtD, setO_none, setO_some, ↓ws_stoA, ↓wp_make, ↓wp_bind, ↓mthK_cnt, fCnt_eq, fBs_map, wp_ok, wp_exc, wp_of, wp_pure, ws_some, gv0, gvS, unB_bl, if_true, if_false, Bool.false_eq_true, Bool.not_true, Bool.not_false, wp_cutD, wp_cutXD,
  oC_eqI, oC_neI, oC_eqB, oC_neB, oC_lt, oC_le, oC_gt, oC_ge, oC_is, oC_isNot, oB_addI, oB_subI, lenA_tup, lenA_lst, fInt_int, fTuple_lst, asgK_some, startA, List.map_cons, List.map_nil, List.replicate, List.length_cons, List.length_nil, List.length_map, List.cons_append, List.nil_append, List.append_nil, List.set_cons_zero, List.set_cons_succ, mgTup_d, mgCons_c, mgNil_n, mgName_n, bind_some', wipeA, setAll, mLen, isN_optS, isN_optI, isN_str, isN_int, isN_tup, isN_non, loopI, true_and, and_true, and_self, Nat.reduceAdd, Nat.reduceLT, Nat.reduceLeDiff, Nat.reduceEqDiff, Nat.reduceSub, Int.reduceEq, Int.reduceLT, Int.reduceLE, Int.reduceSub, Int.reduceAdd, Int.cast_ofNat_Int, decide_true, decide_false, not_true, not_false_iff, Nat.zero_add, unD_nil, unD_cons, Option.map_some, sizeLine, Nat.reducePow, Option.isNone_none, Option.isNone_some, *])
section
variable {j : Nat} {h : AHp} {M : Mo}
def nkP (p : Nat × Str) : NestedKey := .tup [.num p.1, .text p.2]
theorem tkey_P (p : Nat × Str) : tkey (encP p) = some (nkP p) := rfl
theorem tkeys_P : ∀ l : List (Nat × Str), tkeys (l.map encP) = some (l.map nkP)
  | [] => rfl
  | p :: l => by
    rw [List.map_cons, List.map_cons]
    unfold tkeys
    rw [tkey_P, tkeys_P l]
theorem nkP_inj {p q : Nat × Str} (e : nkP p = nkP q) : p = q := by
  unfold nkP at e
  injection e with e
  injection e with e1 e2
  injection e1 with e1
  injection e2 with e2 _
  injection e2 with e2
  exact Prod.ext (by omega) e2
theorem newK_P {l : List (Nat × Str)} (nd : l.Nodup) : NewK (l.map encP) := ⟨_, tkeys_P l, by
  rw [List.nodup_iff_pairwise_ne, List.pairwise_map]
  exact List.Pairwise.imp (fun z e => z (nkP_inj e)) (List.nodup_iff_pairwise_ne.mp nd)⟩
def ents (K : List (List Fld)) (o : Ob) : List (Fld × Vl) := match inK K o.1 with
  | some x => x.zip o.2
  | none => []
def tab (K : List (List Fld)) (os : List Ob) : List ((Nat × Str) × Vl) := os.zipIdx.flatMap fun p => (ents K p.1).map fun q => ((p.2, q.1.n), q.2)
def encT (t : List ((Nat × Str) × Vl)) : D := .dct (t.map fun p => encP p.1) (t.map fun p => encV p.2)
def okB (K : List (List Fld)) (os : List Ob) (i : Nat) (o : Ob) : Bool := objB K os o && !(decide (i = 0) && !decide (o.1 = 0))
def wrongOAt (K : List (List Fld)) (os : List Ob) : Nat → List Ob → Option Nat
  | _, [] => none
  | i, o :: r => if okB K os i o then wrongOAt K os (i + 1) r else some i
def wrongO (K : List (List Fld)) (os : List Ob) : Option Nat := wrongOAt K os 0 os
def store (K : List (List Fld)) (os : List Ob) : D := .obj "Store" [sch K, encOs os, encT (tab K os)]
def ShOs (os : List Ob) : Prop := os.length ≤ 24 ∧ ∀ o ∈ os, ShO o
theorem names_nd {K : List (List Fld)} (gk : GKs K) (o : Ob) : ((ents K o).map fun q => q.1.n).Nodup := by
  unfold ents
  split
  · rename_i x ex
    unfold inK at ex
    split at ex
    · have hx : x ∈ K := List.mem_of_getElem? ex
      have nd := (gk.1 x hx).nd
      have zs : ∀ (x : List Fld) (vs : List Vl), ((x.zip vs).map fun q => q.1.n).Sublist (x.map (·.n)) := by
        intro x
        induction x with
        | nil => intro vs; exact List.Sublist.refl _
        | cons a x ih =>
          intro vs
          cases vs with
          | nil => exact List.nil_sublist _
          | cons v vs =>
            rw [List.zip_cons_cons, List.map_cons, List.map_cons]
            exact (ih vs).cons_cons _
      exact nd.sublist (zs x o.2)
    · cases ex
  · exact List.nodup_nil
theorem tab_nd {K : List (List Fld)} (gk : GKs K) (os : List Ob) : ((tab K os).map (·.1)).Nodup := by
  unfold tab
  rw [List.map_flatMap]
  have key : ∀ (l : List Ob) (n : Nat), ((l.zipIdx n).flatMap fun p => ((ents K p.1).map fun q => ((p.2, q.1.n), q.2)).map (·.1)).Nodup ∧ ∀ z ∈ ((l.zipIdx n).flatMap fun p => ((ents K p.1).map fun q => ((p.2, q.1.n), q.2)).map (·.1)), n ≤ z.1 := by
    intro l
    induction l with
    | nil => intro n; exact ⟨List.nodup_nil, fun z hz => nomatch hz⟩
    | cons o l ih =>
      intro n
      obtain ⟨i1, i2⟩ := ih (n + 1)
      rw [List.zipIdx_cons, List.flatMap_cons]
      have e : ((ents K o).map fun q => ((n, q.1.n), q.2)).map (·.1) = ((ents K o).map fun q => q.1.n).map fun s => (n, s) := by rw [List.map_map, List.map_map]; rfl
      refine ⟨?_, fun z hz => ?_⟩
      · rw [List.nodup_append]
        refine ⟨?_, i1, fun a ha b hb e2 => ?_⟩
        · show (((ents K o).map fun q => ((n, q.1.n), q.2)).map (·.1)).Nodup
          rw [e, List.nodup_iff_pairwise_ne, List.pairwise_map]
          exact List.Pairwise.imp (fun z y => z (by injection y)) (List.nodup_iff_pairwise_ne.mp (names_nd gk o))
        · subst e2
          have := i2 a hb
          have ha : a ∈ ((ents K o).map fun q => ((n, q.1.n), q.2)).map (·.1) := ha
          rw [e] at ha
          obtain ⟨s, _, rfl⟩ := List.mem_map.mp ha
          have : n + 1 ≤ n := this
          omega
      · rcases List.mem_append.mp hz with hz | hz
        · have hz : z ∈ ((ents K o).map fun q => ((n, q.1.n), q.2)).map (·.1) := hz
          rw [e] at hz
          obtain ⟨s, _, rfl⟩ := List.mem_map.mp hz
          exact Nat.le_refl _
        · have := i2 z hz
          omega
  exact (key os 0).1
theorem tab_len {K : List (List Fld)} {os : List Ob} (s : ShOs os) : (tab K os).length ≤ 480 := by
  unfold tab
  have key : ∀ (l : List Ob) (n : Nat), (∀ o ∈ l, ShO o) → ((l.zipIdx n).flatMap fun p => (ents K p.1).map fun q => ((p.2, q.1.n), q.2)).length ≤ 20 * l.length := by
    intro l
    induction l with
    | nil => intro n _; exact Nat.le_refl _
    | cons o l ih =>
      intro n hs
      rw [List.zipIdx_cons, List.flatMap_cons, List.length_append, List.length_map, List.length_cons]
      have h1 := ih (n + 1) fun o ho => hs o (List.mem_cons_of_mem _ ho)
      have h2 : (ents K (o, n).1).length ≤ 20 := by
        show (ents K o).length ≤ 20
        have := (hs o List.mem_cons_self).1
        unfold ents
        split
        · rw [List.length_zip]; omega
        · exact Nat.zero_le _
      omega
  have := key os 0 s.2
  have := s.1
  omega
end
end K02

end
section
set_option Elab.async false
set_option linter.all false
set_option maxRecDepth 100000
set_option maxHeartbeats 1000000
namespace K02
open PySem PySem.Spec PyProof.Rows L2 PM
local macro_rules | `(tactic| walk_at "wps") => `(tactic| try simp only [↓wp_fn, ↓ws_seq, ↓ws_ret, ↓ws_asg, ↓ws_if, ↓ws_expr, ↓ws_for, ↓ws_par, ↓ws_skip, ↓ws_raise, ↓ws_raiseL, ↓ws_try, ↓seqK_nx, ↓seqK_rt, ↓seqK_exc, ↓fnK_rt, ↓fnK_nx, ↓fnK_exc, ↓loopK_nx, ↓loopK_rt, ↓loopK_exc, ↓wp_var, ↓wp_c, ↓wp_bin, ↓wp_un, ↓wp_nil, ↓wp_cons, ↓wp_star, ↓wp_cb, ↓wp_b, ↓wp_notT, ↓wp_andT, ↓wp_orT, ↓wp_yes, ↓wp_andV, ↓wp_orV, ↓wp_notV, ↓wp_if, ↓wp_chain, ↓wp_neg, ↓wp_tup, ↓wp_lst, ↓wp_lstR, ↓wp_slice, ↓wp_noPart, ↓wp_part, ↓wp_comp, ↓wp_lenSc, ↓wp_frzQ, ↓wp_items, ↓wp_enum, ↓wp_rng1, ↓wp_zip, zipD_tup, zipD_lst, ↓ws_match, ws_cs1, ↓ws_cs2, ↓wp_lstRgR, ↓wp_dc2, ↓wp_comp2, ↓wp_rng3, ↓wp_lstRg1, ↓wp_mthA, ↓ws_putK, oB_mulI, oB_modI, oB_addL, oB_addT, Int.reducePow, Int.reduceNeg, or_true, true_or, ↓tryK_rt, ↓tryK_nx, tryK_exc, ↓suiteK_rtD, setO_none, setO_some, ↓ws_stoA, ↓wp_make, ↓wp_bind, ↓mthK_cnt, fCnt_eq, fBs_map, wp_ok, wp_exc, wp_of, wp_pure, ws_some, gv0, gvS, unB_bl, if_true, if_false, Bool.false_eq_true, Bool.not_true, Bool.not_false, wp_cutD, wp_cutXD,
  oC_eqI, oC_neI, oC_eqB, oC_neB, oC_lt, oC_le, oC_gt, oC_ge, oC_is, oC_isNot, oB_addI, oB_subI, lenA_tup, lenA_lst, fInt_int, fTuple_lst, asgK_some, startA, List.map_cons, List.map_nil, List.replicate, List.length_cons, List.length_nil, List.length_map, List.cons_append, List.nil_append, List.append_nil, List.set_cons_zero, List.set_cons_succ, mgTup_d, mgCons_c, mgNil_n, mgName_n, bind_some', wipeA, setAll, mLen, isN_optS, isN_optI, isN_str, isN_int, isN_tup, isN_non, loopI, true_and, and_true, and_self, Nat.reduceAdd, Nat.reduceLT, Nat.reduceLeDiff, Nat.reduceEqDiff, Nat.reduceSub, Int.reduceEq, Int.reduceLT, Int.reduceLE, Int.reduceSub, Int.reduceAdd, Int.cast_ofNat_Int, decide_true, decide_false, not_true, not_false_iff, Nat.zero_add, unD_nil, unD_cons, Option.map_some, sizeLine, Nat.reducePow, Option.isNone_none, Option.isNone_some, *])
section
variable {j : Nat} {h : AHp} {M : Mo}
theorem slot_plan : slotIx (T.mo 40 (j + 1)) "plan" "Store" = some 0 := by kernel_rfl
theorem slot_srows : slotIx (T.mo 40 (j + 1)) "rows" "Store" = some 1 := by kernel_rfl
theorem slot_table : slotIx (T.mo 40 (j + 1)) "table" "Store" = some 2 := by kernel_rfl
theorem check_schema_ok (g : Gd h) (K : List (List Fld)) : r_check_schema (j + 1) [.d (sch K)] h = some (.ok (.d .non), h) := by
  rw [sh_check_schema]
  refine WP.eq ?_
  have e1 := isi_sch (j := j) (h := h) K
  unfold s_check_schema
  walk_at "wps"
theorem seqD_Os (os : List Ob) : seqD (.d (encOs os)) = some (os.map encO) := rfl
theorem okB_obj {K : List (List Fld)} {os : List Ob} {i : Nat} {o : Ob} (h : okB K os i o = true) : objB K os o = true := by
  unfold okB at h
  rw [Bool.and_eq_true] at h
  exact h.1
theorem objB_kind {K : List (List Fld)} {os : List Ob} {o : Ob} (h : objB K os o = true) : ∃ x, inK K o.1 = some x ∧ o.2.length = x.length ∧ 0 ≤ o.1 ∧ K[o.1.toNat]? = some x := by
  unfold objB at h
  split at h
  · rename_i x ex
    rw [Bool.and_eq_true, decide_eq_true_eq] at h
    have ex' := ex
    unfold inK at ex'
    split at ex'
    · rename_i c
      exact ⟨x, ex, h.1, c.1, ex'⟩
    · cases ex'
  · cases h
theorem wrongOAt_none {K : List (List Fld)} {os : List Ob} : ∀ {l : List Ob} {i : Nat}, wrongOAt K os i l = none → ∀ o ∈ l, objB K os o = true
  | [], _, _, o, ho => nomatch ho
  | a :: l, i, e, o, ho => by
    unfold wrongOAt at e
    split at e
    · rename_i c
      rcases List.mem_cons.mp ho with rfl | ho
      · exact okB_obj c
      · exact wrongOAt_none e o ho
    · cases e
def st_6 (j : Nat) (M : Mo) : MS := (mSeq (mStoA M "table" (mDc2 true (mEnum (mVar 2)) (mgTup (mgCons (mgName 3) (mgCons (mgTup (mgCons (mgName 5) (mgCons (mgName 6) (mgNil))) 2) (mgNil))) 2) (mYes) (mZip (mCons (mBin (oIx M) (mUn (attrM M "kinds") (mVar 1)) (mVar 5)) (mCons (mVar 6) (mNil)))) (mgTup (mgCons (mgName 7) (mgCons (mgName 8) (mgNil))) 2) (mYes) (mTup (mCons (mVar 3) (mCons (mBin (oIx M) (mVar 7) (mC (.int (0)))) (mNil)))) (mVar 8) [3, 5, 6, 7, 8] [7, 8]) (mVar 0)) (mSkip))
def st_t (j : Nat) (M : Mo) : MS := (mSeq (mStoA M "plan" (mVar 1) (mVar 0)) (mSeq (mStoA M "rows" (mVar 2) (mVar 0)) (mSeq (mStoA M "table" (mDc2 true (mEnum (mVar 2)) (mgTup (mgCons (mgName 3) (mgCons (mgTup (mgCons (mgName 5) (mgCons (mgName 6) (mgNil))) 2) (mgNil))) 2) (mYes) (mZip (mCons (mBin (oIx M) (mUn (attrM M "kinds") (mVar 1)) (mVar 5)) (mCons (mVar 6) (mNil)))) (mgTup (mgCons (mgName 7) (mgCons (mgName 8) (mgNil))) 2) (mYes) (mTup (mCons (mVar 3) (mCons (mBin (oIx M) (mVar 7) (mC (.int (0)))) (mNil)))) (mVar 8) [3, 5, 6, 7, 8] [7, 8]) (mVar 0)) (mSkip))))
theorem st_e (j : Nat) (M : Mo) : s_Store___init__ j M = mSeq (mExpr (mCB (mLen 1 (fun ws => r_check_schema j (ws ++ []))) (mCons (mVar 1) (mNil)))) (mSeq (mIfS (mOrT (mNotT (mB (mUn (isiM M false (.ty "tuple")) (mVar 2)))) (mNotT (mB (mChain (oC M .LtE) (oC M .LtE) (mC (.int (1))) (mCB (lenA M) (mCons (mVar 2) (mNil))) (mC (.int (6))))))) (mSeq (mRaiseL "BadStore" "index" (mC (.non))) (mSkip)) (mSkip)) (mSeq (mFor (mEnum (mVar 2)) (mgTup (mgCons (mgName 3) (mgCons (mgName 4) (mgNil))) 2) (mSeq (mIfS (mOrT (mNotT (mB (mCB (mLen 3 (fun ws => r_is_object j (ws ++ []))) (mCons (mVar 1) (mCons (mVar 2) (mCons (mVar 4) (mNil))))))) (mAndT (mB (mBin (oC M .Eq) (mVar 3) (mC (.int (0))))) (mB (mBin (oC M .NotEq) (mBin (oIx M) (mVar 4) (mC (.int (0)))) (mC (.int (0))))))) (mSeq (mRaiseL "BadStore" "index" (mVar 3)) (mSkip)) (mSkip)) (mSkip))) (st_t j M))) := rfl
theorem st_te (j : Nat) (M : Mo) : st_t j M = mSeq (mStoA M "plan" (mVar 1) (mVar 0)) (mSeq (mStoA M "rows" (mVar 2) (mVar 0)) (st_6 j M)) := rfl
theorem low3 {n : Nat} {a b c : D} : ([some (W.d a), some (.d b), some (.d c)] : List (Option W)).all (lowO n) = true := rfl
theorem table_ok (g : Gd h) {K : List (List Fld)} (gk : GKs K) {os : List Ob} (so : ShOs os) (hw : ∀ o ∈ os, objB K os o = true) {a b x3 x4 x5 x6 x7 x8 : Option W} :
    mDcOut true (mgTup (mgCons (mgName 3) (mgCons (mgTup (mgCons (mgName 5) (mgCons (mgName 6) (mgNil))) 2) (mgNil))) 2) (mYes) (mZip (mCons (mBin (oIx (T.mo 40 (j + 2))) (mUn (attrM (T.mo 40 (j + 2)) "kinds") (mVar 1)) (mVar 5)) (mCons (mVar 6) (mNil)))) (mgTup (mgCons (mgName 7) (mgCons (mgName 8) (mgNil))) 2) (mYes) (mTup (mCons (mVar 3) (mCons (mBin (oIx (T.mo 40 (j + 2))) (mVar 7) (mC (.int (0)))) (mNil)))) (mVar 8) [7, 8] (wipeA [a, some (.d (sch K)), b, x3, x4, x5, x6, x7, x8] [3, 5, 6, 7, 8]) (os.zipIdx.map fun p => W.d (.tup [.int ((p.2 : Nat) : Int), encO p.1])) [] [] h = some (.ok (.d (encT (tab K os))), h) := by
  have nd := tab_nd gk os
  have hl := tab_len (K := K) so
  have ek : (tab K os).map (fun p => encP p.1) = os.zipIdx.flatMap fun p => (ents K p.1).map fun q => encP (p.2, q.1.n) := by
    unfold tab
    rw [List.map_flatMap]
    congr 1
    funext p
    rw [List.map_map]
    rfl
  have ev : (tab K os).map (fun p => encV p.2) = os.zipIdx.flatMap fun p => (ents K p.1).map fun q => encV q.2 := by
    unfold tab
    rw [List.map_flatMap]
    congr 1
    funext p
    rw [List.map_map]
    rfl
  have nk : NewK (os.zipIdx.flatMap fun p => (ents K p.1).map fun q => encP (p.2, q.1.n)) := by
    rw [← ek]
    have := newK_P nd
    rw [List.map_map] at this
    exact this
  have ll : (os.zipIdx.flatMap fun p => (ents K p.1).map fun q => encP (p.2, q.1.n)).length ≤ sizeLine := by
    rw [← ek, List.length_map]
    exact Nat.le_trans hl (by decide)
  rw [dcOut_eq (fun p : Ob × Nat => W.d (.tup [.int ((p.2 : Nat) : Int), encO p.1])) (fun p => ents K p.1) (fun q : Fld × Vl => W.d (.tup [encF q.1, encV q.2])) (fun p q => encP (p.2, q.1.n)) (fun p q => encV q.2) os.zipIdx [] [] ?_ (by simpa using nk) (by simpa using ll)]
  · unfold encT
    rw [ek, ev]
    simp
  · rintro ⟨o, i⟩ hp
    have ho : o ∈ os := (List.mem_zipIdx' hp).2 ▸ List.getElem_mem _
    obtain ⟨x, e1, e2, e3, e4⟩ := objB_kind (hw o ho)
    have ee : ents K o = x.zip o.2 := by unfold ents; rw [e1]
    have f1 := at_kinds (j := j) g K
    have f2 : oIx (T.mo 40 (j + 2)) (.d (encKs K)) (.d (.int o.1)) h = some (.ok (.d (encK x)), h) := ix_map encK e3 e4
    have f3 : zipD [.d (encK x), .d (.tup (o.2.map encV))] = some ((x.zip o.2).map fun p => W.d (.tup [encF p.1, encV p.2])) := by
      rw [← zipW_map]
      rfl
    refine ⟨[a, some (.d (sch K)), b, some (.d (.int (i : Nat))), x4, some (.d (.int o.1)), some (.d (.tup (o.2.map encV))), none, none], rfl, ?_, ?_, ?_⟩
    · walk_at "wps"
    · clear e1 e2 e3 e4 nd hl ek ev nk ll ho hp hw
      rw [ee]
      walk_at "wps"
    · intro q hq
      have f0 := ixF0 (h := h) (M := T.mo 40 (j + 2)) q.1
      refine ⟨[a, some (.d (sch K)), b, some (.d (.int (i : Nat))), x4, some (.d (.int o.1)), some (.d (.tup (o.2.map encV))), some (.d (encF q.1)), some (.d (encV q.2))], rfl, ?_, ?_, ?_⟩
      · walk_at "wps"
      · clear e1 e2 e3 e4 nd hl ek ev nk ll ho hp hw hq ee
        walk_at "wps"
        rfl
      · clear e1 e2 e3 e4 nd hl ek ev nk ll ho hp hw hq ee
        walk_at "wps"
end
end K02

end
section
set_option Elab.async false
set_option linter.all false
set_option maxRecDepth 100000
set_option maxHeartbeats 1000000
namespace K02
open PySem PySem.Spec PyProof.Rows L2 PM
local macro_rules | `(tactic| walk_at "wps") => `(tactic| try simp only [↓wp_fn, ↓ws_seq, ↓ws_ret, ↓ws_asg, ↓ws_if, ↓ws_expr, ↓ws_for, ↓ws_par, ↓ws_skip, ↓ws_raise, ↓ws_raiseL, ↓ws_try, ↓seqK_nx, ↓seqK_rt, ↓seqK_exc, ↓fnK_rt, ↓fnK_nx, ↓fnK_exc, ↓loopK_nx, ↓loopK_rt, ↓loopK_exc, ↓wp_var, ↓wp_c, ↓wp_bin, ↓wp_un, ↓wp_nil, ↓wp_cons, ↓wp_star, ↓wp_cb, ↓wp_b, ↓wp_notT, ↓wp_andT, ↓wp_orT, ↓wp_yes, ↓wp_andV, ↓wp_orV, ↓wp_notV, ↓wp_if, ↓wp_chain, ↓wp_neg, ↓wp_tup, ↓wp_lst, ↓wp_lstR, ↓wp_slice, ↓wp_noPart, ↓wp_part, ↓wp_comp, ↓wp_lenSc, ↓wp_frzQ, ↓wp_items, ↓wp_enum, ↓wp_rng1, ↓wp_zip, zipD_tup, zipD_lst, ↓ws_match, ws_cs1, ↓ws_cs2, ↓wp_lstRgR, ↓wp_dc2, ↓wp_comp2, ↓wp_rng3, ↓wp_lstRg1, ↓wp_mthA, ↓ws_putK, oB_mulI, oB_modI, oB_addL, oB_addT, Int.reducePow, Int.reduceNeg, or_true, true_or, ↓tryK_rt, ↓tryK_nx, tryK_exc, ↓suiteK_rtD, setO_none, setO_some, ↓ws_stoA, ↓wp_make, ↓wp_bind, ↓mthK_cnt, fCnt_eq, fBs_map, wp_ok, wp_exc, wp_of, wp_pure, ws_some, gv0, gvS, unB_bl, if_true, if_false, Bool.false_eq_true, Bool.not_true, Bool.not_false, wp_cutD, wp_cutXD,
  oC_eqI, oC_neI, oC_eqB, oC_neB, oC_lt, oC_le, oC_gt, oC_ge, oC_is, oC_isNot, oB_addI, oB_subI, lenA_tup, lenA_lst, fInt_int, fTuple_lst, asgK_some, startA, List.map_cons, List.map_nil, List.replicate, List.length_cons, List.length_nil, List.length_map, List.cons_append, List.nil_append, List.append_nil, List.set_cons_zero, List.set_cons_succ, mgTup_d, mgCons_c, mgNil_n, mgName_n, bind_some', wipeA, setAll, mLen, isN_optS, isN_optI, isN_str, isN_int, isN_tup, isN_non, loopI, true_and, and_true, and_self, Nat.reduceAdd, Nat.reduceLT, Nat.reduceLeDiff, Nat.reduceEqDiff, Nat.reduceSub, Int.reduceEq, Int.reduceLT, Int.reduceLE, Int.reduceSub, Int.reduceAdd, Int.cast_ofNat_Int, decide_true, decide_false, not_true, not_false_iff, Nat.zero_add, unD_nil, unD_cons, Option.map_some, sizeLine, Nat.reducePow, Option.isNone_none, Option.isNone_some, *])
section
variable {j : Nat} {h : AHp} {M : Mo}
def dueO (K : List (List Fld)) (os : List Ob) : Option (Option Nat) := if 1 ≤ os.length ∧ os.length ≤ 6 then (wrongO K os).map some else some none
theorem sinit_key (g : Gd h) {K : List (List Fld)} (gk : GKs K) {os : List Ob} (so : ShOs os) :
    WP (mFn 9 (s_Store___init__ (j + 5) (T.mo 40 (j + 5 + 1))) [.ref h.length, .d (sch K), .d (encOs os)] (h ++ [.inst "Store" []])) (fun w h' => w = .d .non ∧ h' = h ++ [.inst "Store" [some (.d (sch K)), some (.d (encOs os)), some (.d (encT (tab K os)))]] ∧ dueO K os = none) (fun c fs h' => ∃ i, dueO K os = some i ∧ c = "BadStore" ∧ fs = [(("index" : Str), natD i)] ∧ h' = h ++ [.inst "Store" []]) := by
  have g1 : Gd (h ++ [.inst "Store" []]) := gd_inst g rfl
  have e0 := check_schema_ok (j := j + 4) g1 K
  have e1 : isiM (T.mo 40 (j + 5 + 1)) false (.ty "tuple") (.d (encOs os)) (h ++ [.inst "Store" []]) = some (.ok (.d (.bl true)), (h ++ [.inst "Store" []])) := isi_tup _
  have e2 := lenA_Os (h := h ++ [.inst "Store" []]) (M := T.mo 40 (j + 5 + 1)) os
  rw [st_e]
  by_cases c : 1 ≤ os.length ∧ os.length ≤ 6
  · have ed : dueO K os = (wrongO K os).map some := by unfold dueO; rw [if_pos c]
    rw [ed]
    have hn1 : decide ((1 : Int) ≤ (os.length : Nat)) = true := by simp; omega
    have hn3 : decide (((os.length : Nat) : Int) ≤ 6) = true := by simp; omega
    have sq := seqD_Os os
    have en := enumW_map encO os
    replace c := Hd.mk c
    replace so := Hd.mk so
    replace gk := Hd.mk gk
    clear ed
    walk_at "wps"
    refine loop_inv (fun p : Ob × Nat => W.d (.tup [.int ((p.2 : Nat) : Int), encO p.1])) (fun r σ h' => h' = h ++ [.inst "Store" []] ∧ (∃ a b c d e f, σ = [some (.ref h.length), some (.d (sch K)), some (.d (encOs os)), a, b, c, d, e, f]) ∧ ∃ i, r = (os.drop i).zipIdx i ∧ wrongO K os = wrongOAt K os i (os.drop i)) ?_ ?_ os.zipIdx _ _ ⟨rfl, ⟨_, _, _, _, _, _, rfl⟩, 0, rfl, rfl⟩
    · rintro ⟨y, n⟩ r σ h' ⟨rfl, ⟨a, b, c', d', e', f', rfl⟩, i, hr, hw⟩
      cases q : os.drop i with
      | nil => rw [q] at hr; cases hr
      | cons y' r' =>
        rw [q, List.zipIdx_cons] at hr
        cases hr
        have hy : y ∈ os := List.mem_of_mem_drop (i := n) (by rw [q]; exact List.mem_cons_self)
        refine ⟨[some (.ref h.length), some (.d (sch K)), some (.d (encOs os)), some (.d (.int (n : Nat))), some (.d (encO y)), c', d', e', f'], rfl, ?_⟩
        have e4 := is_object_ok (j := j) g1 gk.of os (so.of.2 y hy)
        have e5 := ixO0 (h := h ++ [.inst "Store" []]) (M := T.mo 40 (j + 5 + 1)) y
        rw [q] at hw
        unfold wrongOAt at hw
        have q' : os.drop (n + 1) = r' := by
          have := congrArg List.tail q
          simpa using this
        have fin : okB K os n y = true → ∃ i, r'.zipIdx (n + 1) = (os.drop i).zipIdx i ∧ wrongO K os = wrongOAt K os i (os.drop i) := fun z => ⟨n + 1, by rw [q'], by rw [q']; rw [z, if_pos rfl] at hw; exact hw⟩
        have bad : okB K os n y = false → wrongO K os = some n := fun z => by
          rw [z] at hw
          simpa using hw
        have eo : okB K os n y = (objB K os y && !(decide (n = 0) && !decide (y.1 = 0))) := rfl
        clear sq en hw q q' hy
        replace fin := Hd.mk fin
        replace bad := Hd.mk bad
        replace eo := Hd.mk eo
        walk_at "wps"
        have good : okB K os n y = true → (∃ a b c d e f, ([some (W.ref h.length), some (.d (sch K)), some (.d (encOs os)), some (.d (.int (n : Nat))), some (.d (encO y)), c', d', e', f'] : Sl) = [some (.ref h.length), some (.d (sch K)), some (.d (encOs os)), a, b, c, d, e, f]) ∧ ∃ i, r'.zipIdx (n + 1) = (os.drop i).zipIdx i ∧ wrongO K os = wrongOAt K os i (os.drop i) := fun z => ⟨⟨_, _, _, _, _, _, rfl⟩, fin.of z⟩
        have badG : okB K os n y = false → ∃ i, (wrongO K os).map some = some i ∧ ([(("index" : Str), D.int ((n : Nat) : Int))] : List (Str × D)) = [(("index" : Str), natD i)] := fun z => ⟨some n, by rw [bad.of z]; rfl, rfl⟩
        have eo' := eo.of
        cases b1 : objB K os y with
        | false =>
          rw [if_pos (by simp)]
          exact badG (by rw [eo', b1]; rfl)
        | true =>
          rw [if_neg (by simp)]
          by_cases n0 : n = 0
          · rw [if_pos (by simp [n0])]
            by_cases y0 : y.1 = 0
            · rw [if_neg (by simp [y0])]
              exact good (by rw [eo', b1]; simp [y0])
            · rw [if_pos (by simp [y0])]
              exact badG (by rw [eo', b1]; simp [n0, y0])
          · rw [if_neg (by simp; omega)]
            exact good (by rw [eo', b1]; simp [n0])
    · rintro σ h' ⟨rfl, ⟨a, b, c', d', e', f', rfl⟩, i, hr, hw⟩
      have q : os.drop i = [] := by
        cases q : os.drop i with
        | nil => rfl
        | cons y r => rw [q, List.zipIdx_cons] at hr; cases hr
      rw [q] at hw
      have hw : wrongO K os = none := hw
      have hall := Hd.mk (wrongOAt_none (show wrongOAt K os 0 os = none from hw))
      let σ0 : Sl := [some (.ref h.length), some (.d (sch K)), some (.d (encOs os)), a, b, c', d', e', f']
      have e5 := stoK_eq (M := T.mo 40 (j + 5 + 1)) (w := .d (sch K)) (σ := σ0) (h := h ++ [.inst "Store" []]) (a := h.length) get_app0 slot_plan
      rw [set_app0] at e5
      have e6 := stoK_eq (M := T.mo 40 (j + 5 + 1)) (w := .d (encOs os)) (σ := σ0) (h := h ++ [.inst "Store" (putA 0 (.d (sch K)) [])]) (a := h.length) get_app0 slot_srows
      rw [set_app0] at e6
      have g3 : Gd (h ++ [.inst "Store" (putA 1 (.d (encOs os)) (putA 0 (.d (sch K)) []))]) := gd_inst g rfl
      have e7 := stoK_eq (M := T.mo 40 (j + 5 + 1)) (w := .d (encT (tab K os))) (σ := σ0) (h := h ++ [.inst "Store" (putA 1 (.d (encOs os)) (putA 0 (.d (sch K)) []))]) (a := h.length) get_app0 slot_table
      rw [set_app0] at e7
      have tb := table_ok (j := j + 4) g3 gk.of so.of hall.of (a := some (.ref h.length)) (b := some (.d (encOs os))) (x3 := a) (x4 := b) (x5 := c') (x6 := d') (x7 := e') (x8 := f')
      rw [show j + 4 + 2 = j + 5 + 1 from rfl] at tb
      simp only [wipeA, List.set_cons_zero, List.set_cons_succ] at tb
      have g4 : Gd (h ++ [.inst "Store" [some (.d (sch K)), some (.d (encOs os)), some (.d (encT (tab K os)))]]) := gd_inst g rfl
      have el : (h ++ [AO.inst "Store" []]).length = (h ++ [AO.inst "Store" [some (.d (sch K)), some (.d (encOs os)), some (.d (encT (tab K os)))]]).length := by simp
      have ep : putA 2 (.d (encT (tab K os))) (putA 1 (.d (encOs os)) (putA 0 (.d (sch K)) [])) = [some (.d (sch K)), some (.d (encOs os)), some (.d (encT (tab K os)))] := rfl
      rw [ep] at e7
      dsimp only [σ0] at e5 e6 e7
      clear sq hr q e0 e1 e2 hn1 hn3 ep
      rw [st_te]
      have en' := Hd.mk en
      clear en
      generalize hH2 : h ++ [AO.inst "Store" (putA 0 (.d (sch K)) [])] = H2 at e5 e6
      generalize hH3 : h ++ [AO.inst "Store" (putA 1 (.d (encOs os)) (putA 0 (.d (sch K)) []))] = H3 at e6 e7 tb g3
      clear hH2 hH3
      walk_at "wps"
      have sq := seqD_Os os
      unfold st_6
      have en := en'.of
      clear en'
      walk_at "wps"
      rfl
  · have ed : dueO K os = some none := by unfold dueO; rw [if_neg c]
    rw [ed]
    replace so := Hd.mk so
    replace gk := Hd.mk gk
    clear ed
    have fin : ∃ i : Option Nat, some none = some i ∧ ([(("index" : Str), D.non)] : List (Str × D)) = [(("index" : Str), natD i)] := ⟨none, rfl, rfl⟩
    replace fin := Hd.mk fin
    by_cases c1 : 1 ≤ os.length
    · have hn1 : decide ((1 : Int) ≤ (os.length : Nat)) = true := by simp; omega
      have hn3 : decide (((os.length : Nat) : Int) ≤ 6) = false := by simp; omega
      clear c c1
      walk_at "wps"
      exact fin.of
    · have hn1 : decide ((1 : Int) ≤ (os.length : Nat)) = false := by simp; omega
      clear c c1
      walk_at "wps"
      exact fin.of
theorem smake_ok (g : Gd h) {K : List (List Fld)} (gk : GKs K) {os : List Ob} (so : ShOs os) :
    mkEnd "Store" h.length (r_Store___init__ (j + 6) [.ref h.length, .d (sch K), .d (encOs os)] (h ++ [.inst "Store" []])) = match dueO K os with
      | none => some (.ok (.d (store K os)), h)
      | some i => some (.exc "BadStore" [("index", natD i)], h) := by
  rw [sh_Store___init__]
  obtain ⟨r, h', e, z⟩ := sinit_key (j := j) g gk so
  rw [e]
  cases r with
  | ok w =>
    obtain ⟨rfl, rfl, q⟩ := z
    rw [q]
    have e1 : mkEnd "Store" h.length (some (.ok (.d .non), h ++ [.inst "Store" [some (.d (sch K)), some (.d (encOs os)), some (.d (encT (tab K os)))]])) = cutR h.length (.ok (.d (store K os))) (h ++ [.inst "Store" [some (.d (sch K)), some (.d (encOs os)), some (.d (encT (tab K os)))]]) := by
      simp only [mkEnd, isN, get_app0, if_true]
      rfl
    refine e1.trans ?_
    rw [cut_app _ rfl]
    exact WP.eq ((wp_cut rfl g rfl).mpr ⟨rfl, rfl⟩)
  | exc c fs =>
    obtain ⟨i, q, rfl, rfl, rfl⟩ := z
    rw [q]
    show cutR h.length (.exc _ _) (h ++ [_]) = _
    rw [cut_app _ rfl]
    exact WP.eqx ((wp_cutX rfl g).mpr ⟨rfl, rfl, rfl⟩)
end
end K02

end
section
set_option Elab.async false
set_option linter.all false
set_option maxRecDepth 100000
set_option maxHeartbeats 1000000
namespace K02
open PySem PySem.Spec PyProof.Rows L2 PM
local macro_rules | `(tactic| walk_at "wps") => `(tactic| try simp only [↓wp_fn, ↓ws_seq, ↓ws_ret, ↓ws_asg, ↓ws_if, ↓ws_expr, ↓ws_for, ↓ws_par, ↓ws_skip, ↓ws_raise, ↓ws_raiseL, ↓ws_try, ↓seqK_nx, ↓seqK_rt, ↓seqK_exc, ↓fnK_rt, ↓fnK_nx, ↓fnK_exc, ↓loopK_nx, ↓loopK_rt, ↓loopK_exc, ↓wp_var, ↓wp_c, ↓wp_bin, ↓wp_un, ↓wp_nil, ↓wp_cons, ↓wp_star, ↓wp_cb, ↓wp_b, ↓wp_notT, ↓wp_andT, ↓wp_orT, ↓wp_yes, ↓wp_andV, ↓wp_orV, ↓wp_notV, ↓wp_if, ↓wp_chain, ↓wp_neg, ↓wp_tup, ↓wp_lst, ↓wp_lstR, ↓wp_slice, ↓wp_noPart, ↓wp_part, ↓wp_comp, ↓wp_lenSc, ↓wp_frzQ, ↓wp_items, ↓wp_enum, ↓wp_rng1, ↓wp_zip, zipD_tup, zipD_lst, ↓ws_match, ws_cs1, ↓ws_cs2, ↓wp_lstRgR, ↓wp_dc2, ↓wp_comp2, ↓wp_rng3, ↓wp_lstRg1, ↓wp_mthA, ↓ws_putK, oB_mulI, oB_modI, oB_addL, oB_addT, Int.reducePow, Int.reduceNeg, or_true, true_or, ↓tryK_rt, ↓tryK_nx, tryK_exc, ↓suiteK_rtD, setO_none, setO_some, ↓ws_stoA, ↓wp_make, ↓wp_bind, ↓mthK_cnt, fCnt_eq, fBs_map, wp_ok, wp_exc, wp_of, wp_pure, ws_some, gv0, gvS, unB_bl, if_true, if_false, Bool.false_eq_true, Bool.not_true, Bool.not_false, wp_cutD, wp_cutXD,
  oC_eqI, oC_neI, oC_eqB, oC_neB, oC_lt, oC_le, oC_gt, oC_ge, oC_is, oC_isNot, oB_addI, oB_subI, lenA_tup, lenA_lst, fInt_int, fTuple_lst, asgK_some, startA, List.map_cons, List.map_nil, List.replicate, List.length_cons, List.length_nil, List.length_map, List.cons_append, List.nil_append, List.append_nil, List.set_cons_zero, List.set_cons_succ, mgTup_d, mgCons_c, mgNil_n, mgName_n, bind_some', wipeA, setAll, mLen, isN_optS, isN_optI, isN_str, isN_int, isN_tup, isN_non, loopI, true_and, and_true, and_self, Nat.reduceAdd, Nat.reduceLT, Nat.reduceLeDiff, Nat.reduceEqDiff, Nat.reduceSub, Int.reduceEq, Int.reduceLT, Int.reduceLE, Int.reduceSub, Int.reduceAdd, Int.cast_ofNat_Int, decide_true, decide_false, not_true, not_false_iff, Nat.zero_add, unD_nil, unD_cons, Option.map_some, sizeLine, Nat.reducePow, Option.isNone_none, Option.isNone_some, *])
section
variable {j : Nat} {h : AHp} {M : Mo}
def valAt (K : List (List Fld)) (os : List Ob) (p : Nat × Str) : Option Vl := ((tab K os).find? fun q => decide (q.1 = p)).map (·.2)
theorem dfind_P (p : Nat × Str) : ∀ t : List ((Nat × Str) × Vl), dfind (nkP p) (t.map fun q => nkP q.1) (t.map fun q => W.d (encV q.2)) = (t.find? fun q => decide (q.1 = p)).map fun q => .d (encV q.2)
  | [] => by rw [List.map_nil, List.map_nil]; unfold dfind; rfl
  | q :: t => by
    rw [List.map_cons, List.map_cons]
    unfold dfind
    by_cases e : q.1 = p
    · rw [if_pos (by rw [e]), List.find?_cons, decide_eq_true e]
      rfl
    · rw [if_neg (fun z => e (nkP_inj z)), List.find?_cons, decide_eq_false e]
      exact dfind_P p t
theorem dget_P (t : List ((Nat × Str) × Vl)) (p : Nat × Str) : dget (t.map fun q => encP q.1) (t.map fun q => W.d (encV q.2)) (encP p) = some ((t.find? fun q => decide (q.1 = p)).map fun q => .d (encV q.2)) := by
  unfold dget
  have e1 : keyD (encP p) = none := rfl
  have e2 : tkeys (t.map fun q => encP q.1) = some (t.map fun q => nkP q.1) := by
    have := tkeys_P (t.map (·.1))
    rw [List.map_map, List.map_map] at this
    exact this
  rw [e1]
  dsimp only
  rw [tkey_P, e2]
  dsimp only
  rw [dfind_P]
theorem dctOf_T (t : List ((Nat × Str) × Vl)) : dctOf h (.d (encT t)) = some (t.map (fun q => encP q.1), t.map fun q => W.d (encV q.2)) := by
  show some (t.map (fun q => encP q.1), (t.map fun q => encV q.2).map W.d) = _
  rw [List.map_map]
  rfl
theorem inTab (K : List (List Fld)) (os : List Ob) (p : Nat × Str) : oC M .In (.d (encP p)) (.d (encT (tab K os))) h = some (.ok (.d (.bl (valAt K os p).isSome)), h) := by
  show inO M false (.d (encP p)) (.d (encT (tab K os))) h = _
  show fInD false (.d (encP p)) (.d (encT (tab K os))) h = _
  unfold fInD
  rw [dctOf_T]
  dsimp only
  rw [dget_P]
  dsimp only
  rw [if_neg (by decide), Option.isSome_map, valAt, Option.isSome_map]
theorem ixTab {K : List (List Fld)} {os : List Ob} {p : Nat × Str} {v : Vl} (e : valAt K os p = some v) : oIx M (.d (encT (tab K os))) (.d (encP p)) h = some (.ok (.d (encV v)), h) := by
  show fIxD (.d (encT (tab K os))) (.d (encP p)) h = _
  unfold fIxD
  rw [dctOf_T]
  dsimp only
  rw [dget_P]
  unfold valAt at e
  cases q : (tab K os).find? fun q => decide (q.1 = p) with
  | none => rw [q] at e; cases e
  | some z => rw [q] at e; cases e; rfl
theorem at_table (K : List (List Fld)) (os : List Ob) : attrM (T.mo 40 (j + 1)) "table" (.d (store K os)) h = some (.ok (.d (encT (tab K os))), h) := by kernel_rfl
theorem at_srows (K : List (List Fld)) (os : List Ob) : attrM (T.mo 40 (j + 1)) "rows" (.d (store K os)) h = some (.ok (.d (encOs os)), h) := by kernel_rfl
theorem at_plan (K : List (List Fld)) (os : List Ob) : attrM (T.mo 40 (j + 1)) "plan" (.d (store K os)) h = some (.ok (.d (sch K)), h) := by kernel_rfl
theorem at_schema0 (K : List (List Fld)) (os : List Ob) : attrM (T.mo 40 (j + 1)) "schema" (.d (store K os)) h = mNoX (mLen 1 (fun ws => r_Store_schema j (ws ++ [])) [.d (store K os)]) h := by kernel_rfl
theorem at_objects0 (K : List (List Fld)) (os : List Ob) : attrM (T.mo 40 (j + 1)) "objects" (.d (store K os)) h = mNoX (mLen 1 (fun ws => r_Store_objects j (ws ++ [])) [.d (store K os)]) h := by kernel_rfl
theorem at_cells0 (K : List (List Fld)) (os : List Ob) : attrM (T.mo 40 (j + 1)) "cells" (.d (store K os)) h = mNoX (mLen 1 (fun ws => r_Store_cells j (ws ++ [])) [.d (store K os)]) h := by kernel_rfl
theorem schema_ok (g : Gd h) (K : List (List Fld)) (os : List Ob) : r_Store_schema (j + 1) [.d (store K os)] h = some (.ok (.d (sch K)), h) := by
  rw [sh_Store_schema]
  refine WP.eq ?_
  have e1 := at_plan (j := j) (h := h) K os
  unfold s_Store_schema
  walk_at "wps"
theorem objects_ok (g : Gd h) (K : List (List Fld)) (os : List Ob) : r_Store_objects (j + 1) [.d (store K os)] h = some (.ok (.d (encOs os)), h) := by
  rw [sh_Store_objects]
  refine WP.eq ?_
  have e1 := at_srows (j := j) (h := h) K os
  unfold s_Store_objects
  walk_at "wps"
theorem at_schema (g : Gd h) (K : List (List Fld)) (os : List Ob) : attrM (T.mo 40 (j + 2)) "schema" (.d (store K os)) h = some (.ok (.d (sch K)), h) := by
  rw [at_schema0]
  show mNoX (r_Store_schema (j + 1) [.d (store K os)]) h = _
  unfold mNoX
  rw [schema_ok g]
theorem at_objects (g : Gd h) (K : List (List Fld)) (os : List Ob) : attrM (T.mo 40 (j + 2)) "objects" (.d (store K os)) h = some (.ok (.d (encOs os)), h) := by
  rw [at_objects0]
  show mNoX (r_Store_objects (j + 1) [.d (store K os)]) h = _
  unfold mNoX
  rw [objects_ok g]
theorem items_abc : itemsOf (.d (.str "abcdef")) = some (S6.map fun s => .d (.str s)) := by kernel_rfl
def cellsOf (K : List (List Fld)) (os : List Ob) : List (Nat × Str) := (List.range os.length).flatMap fun i => (S6.filter fun s => (valAt K os (i, s)).isSome).map fun s => (i, s)
theorem cells_ok (g : Gd h) (K : List (List Fld)) {os : List Ob} (so : os.length ≤ 24) : r_Store_cells (j + 1) [.d (store K os)] h = some (.ok (.d (.lst ((cellsOf K os).map encP))), h) := by
  rw [sh_Store_cells]
  refine WP.eq ?_
  have e1 := at_srows (j := j) (h := h) K os
  have e2 := at_table (j := j) (h := h) K os
  have e3 := lenA_Os (h := h) (M := T.mo 40 (j + 1)) os
  have e4 := items_abc
  have hr : -4611686018427387904 ≤ ((os.length : Nat) : Int) ∧ ((os.length : Nat) : Int) < 4611686018427387904 := by omega
  replace so := Hd.mk so
  unfold s_Store_cells
  walk_at "wps"
  rw [rng_map, Int.toNat_natCast]
  have ex : (cellsOf K os).map encP = [] ++ (List.range os.length).flatMap fun i => (S6.filter fun s => (valAt K os (i, s)).isSome).map fun s => encP (i, s) := by
    unfold cellsOf
    rw [List.map_flatMap, List.nil_append]
    congr 1
    funext i
    rw [List.map_map]
    rfl
  rw [ex, comp2_eq (fun i : Nat => W.d (.int ((i : Nat) : Int))) (fun _ => S6) (fun s : Str => W.d (.str s)) (fun i s => (valAt K os (i, s)).isSome) (fun i s => encP (i, s)) (List.range os.length) [] (fun i hi => ⟨_, rfl, by walk_at "wps", by walk_at "wps", fun s hs => ⟨_, rfl, by
    have e5 := inTab (M := T.mo 40 (j + 1)) (h := h) K os (i, s)
    have e6 : encP (i, s) = .tup [.int ((i : Nat) : Int), .str s] := rfl
    rw [e6] at e5
    clear e6 ex hs hi
    walk_at "wps", fun _ => by
    have e6 : encP (i, s) = .tup [.int ((i : Nat) : Int), .str s] := rfl
    rw [e6]
    clear e6 ex hs hi
    walk_at "wps"⟩⟩) (by
      have e7 : ((List.range os.length).flatMap fun _ => S6).length = 6 * os.length := by
        rw [List.length_flatMap]
        generalize os.length = n
        induction n with
        | zero => rfl
        | succ n ih => rw [List.range_succ, List.map_append, List.sum_append, ih]; show 6 * n + 6 = _; omega
      rw [e7]
      exact Nat.le_trans (show 0 + 6 * os.length ≤ 200 by have := so.of; omega) (by decide))]
  clear ex
  walk_at "wps"
theorem at_cells1 {f : MF} {w : W} {r : R W} (e : f [w] h = some (r, h)) : mLen 1 (fun ws => f (ws ++ [])) [w] h = some (r, h) := e
theorem noX_ok {m : PM.M W} {w : W} (e : m h = some (.ok w, h)) : mNoX m h = some (.ok w, h) := by
  unfold mNoX
  rw [e]
theorem at_cells (g : Gd h) (K : List (List Fld)) {os : List Ob} (so : os.length ≤ 24) : attrM (T.mo 40 (j + 2)) "cells" (.d (store K os)) h = some (.ok (.d (.lst ((cellsOf K os).map encP))), h) := by
  have e0 := at_cells0 (j := j + 1) (h := h) K os
  have e1 := cells_ok (j := j) g K so
  generalize r_Store_cells (j + 1) = f at e0 e1
  exact e0.trans (noX_ok (at_cells1 e1))
theorem is_number0 (g : Gd h) (i a : Int) : r_is_number (j + 1) [.d (.int i), .d (.int a), .d .non] h = some (.ok (.d (.bl (decide (a ≤ i)))), h) := by
  rw [sh_is_number]
  refine WP.eq ?_
  have e1 := isi_int (h := h) (M := T.mo 40 (j + 1)) i
  have e2 := isi_bool (h := h) (M := T.mo 40 (j + 1)) i
  unfold s_is_number
  walk_at "wps"
  by_cases c : a ≤ i <;> simp [c]
theorem scontains_ok (g : Gd h) (K : List (List Fld)) (os : List Ob) {p : Nat × Str} (hp : p.2 ∈ S6) : r_Store___contains__ (j + 2) [.d (store K os), .d (encP p)] h = some (.ok (.d (.bl (valAt K os p).isSome)), h) := by
  rw [sh_Store___contains__]
  refine WP.eq ?_
  have e1 := at_table (j := j + 1) (h := h) K os
  have e2 := inTab (M := T.mo 40 (j + 1 + 1)) (h := h) K os p
  have e3 : isiM (T.mo 40 (j + 1 + 1)) false (.ty "tuple") (.d (encP p)) h = some (.ok (.d (.bl true)), h) := isi_tup _
  have e4 : lenA (T.mo 40 (j + 1 + 1)) [.d (encP p)] h = some (.ok (.d (.int 2)), h) := rfl
  have e5 := ixP0 (h := h) (M := T.mo 40 (j + 1 + 1)) p
  have e6 := ixP1 (h := h) (M := T.mo 40 (j + 1 + 1)) p
  have e7 := is_number0 (j := j) g ((p.1 : Nat) : Int) 0
  have e8 := is_name_ok (j := j) g (sub69 _ hp)
  rw [decide_eq_true hp] at e8
  rw [decide_eq_true (by omega)] at e7
  clear hp
  unfold s_Store___contains__
  walk_at "wps"
theorem inSt0 (K : List (List Fld)) (os : List Ob) (p : Nat × Str) : oC (T.mo 40 (j + 1)) .In (.d (encP p)) (.d (store K os)) h = mBind (mBind (mLen 2 (fun ws => r_Store___contains__ j (ws ++ [])) [.d (store K os), .d (encP p)]) (fun w => mOf (unB w))) (fun b => mPure (.d (.bl b))) h := by kernel_rfl
theorem notInSt0 (K : List (List Fld)) (os : List Ob) (p : Nat × Str) : oC (T.mo 40 (j + 1)) .NotIn (.d (encP p)) (.d (store K os)) h = mBind (mBind (mLen 2 (fun ws => r_Store___contains__ j (ws ++ [])) [.d (store K os), .d (encP p)]) (fun w => mOf (unB w))) (fun b => mPure (.d (.bl (!b)))) h := by kernel_rfl
theorem inSt (g : Gd h) (K : List (List Fld)) (os : List Ob) {p : Nat × Str} (hp : p.2 ∈ S6) : oC (T.mo 40 (j + 3)) .In (.d (encP p)) (.d (store K os)) h = some (.ok (.d (.bl (valAt K os p).isSome)), h) := by
  rw [inSt0]
  have e := scontains_ok (j := j) g K os hp
  refine WP.eq ?_
  walk_at "wps"
theorem notInSt (g : Gd h) (K : List (List Fld)) (os : List Ob) {p : Nat × Str} (hp : p.2 ∈ S6) : oC (T.mo 40 (j + 3)) .NotIn (.d (encP p)) (.d (store K os)) h = some (.ok (.d (.bl (!(valAt K os p).isSome))), h) := by
  rw [notInSt0]
  have e := scontains_ok (j := j) g K os hp
  refine WP.eq ?_
  walk_at "wps"
theorem sgetitem_ok (g : Gd h) (K : List (List Fld)) (os : List Ob) {p : Nat × Str} (hp : p.2 ∈ S6) : r_Store___getitem__ (j + 3) [.d (store K os), .d (encP p)] h = match valAt K os p with
    | some v => some (.ok (.d (encV v)), h)
    | none => some (.exc "BadCell" [], h) := by
  rw [sh_Store___getitem__]
  have e1 := at_table (j := j + 2) (h := h) K os
  have e2 := notInSt (j := j) g K os hp
  unfold s_Store___getitem__
  cases q : valAt K os p with
  | none =>
    rw [q] at e2
    refine WP.eqx ?_
    clear q hp
    simp only [Option.isSome_none, Bool.not_false] at e2
    walk_at "wps"
  | some v =>
    have e3 := ixTab (M := T.mo 40 (j + 2 + 1)) (h := h) q
    rw [q] at e2
    refine WP.eq ?_
    clear q hp
    simp only [Option.isSome_some, Bool.not_true] at e2
    walk_at "wps"
theorem ixSt0 (K : List (List Fld)) (os : List Ob) (p : Nat × Str) : oIx (T.mo 40 (j + 1)) (.d (store K os)) (.d (encP p)) h = mLen 2 (fun ws => r_Store___getitem__ j (ws ++ [])) [.d (store K os), .d (encP p)] h := by kernel_rfl
theorem ixSt (g : Gd h) (K : List (List Fld)) (os : List Ob) {p : Nat × Str} (hp : p.2 ∈ S6) : oIx (T.mo 40 (j + 4)) (.d (store K os)) (.d (encP p)) h = match valAt K os p with
    | some v => some (.ok (.d (encV v)), h)
    | none => some (.exc "BadCell" [], h) := by
  rw [ixSt0]
  simp only [mLen, List.length_cons, List.length_nil, Nat.zero_add, Nat.reduceAdd, if_true, List.cons_append, List.nil_append]
  exact sgetitem_ok g K os hp
end
end K02

end
section
set_option Elab.async false
set_option linter.all false
set_option maxRecDepth 100000
set_option maxHeartbeats 1000000
namespace K02
open PySem PySem.Spec PyProof.Rows L2 PM
local macro_rules | `(tactic| walk_at "wps") => `(tactic| try simp only [↓wp_fn, ↓ws_seq, ↓ws_ret, ↓ws_asg, ↓ws_if, ↓ws_expr, ↓ws_for, ↓ws_par, ↓ws_skip, ↓ws_raise, ↓ws_raiseL, ↓ws_try, ↓seqK_nx, ↓seqK_rt, ↓seqK_exc, ↓fnK_rt, ↓fnK_nx, ↓fnK_exc, ↓loopK_nx, ↓loopK_rt, ↓loopK_exc, ↓wp_var, ↓wp_c, ↓wp_bin, ↓wp_un, ↓wp_nil, ↓wp_cons, ↓wp_star, ↓wp_cb, ↓wp_b, ↓wp_notT, ↓wp_andT, ↓wp_orT, ↓wp_yes, ↓wp_andV, ↓wp_orV, ↓wp_notV, ↓wp_if, ↓wp_chain, ↓wp_neg, ↓wp_tup, ↓wp_lst, ↓wp_lstR, ↓wp_slice, ↓wp_noPart, ↓wp_part, ↓wp_comp, ↓wp_lenSc, ↓wp_frzQ, ↓wp_items, ↓wp_enum, ↓wp_rng1, ↓wp_zip, zipD_tup, zipD_lst, ↓ws_match, ws_cs1, ↓ws_cs2, ↓wp_lstRgR, ↓wp_dc2, ↓wp_comp2, ↓wp_rng3, ↓wp_lstRg1, ↓wp_mthA, ↓ws_putK, oB_mulI, oB_modI, oB_addL, oB_addT, Int.reducePow, Int.reduceNeg, or_true, true_or, ↓tryK_rt, ↓tryK_nx, tryK_exc, ↓suiteK_rtD, setO_none, setO_some, ↓ws_stoA, ↓wp_make, ↓wp_bind, ↓mthK_cnt, fCnt_eq, fBs_map, wp_ok, wp_exc, wp_of, wp_pure, ws_some, gv0, gvS, unB_bl, if_true, if_false, Bool.false_eq_true, Bool.not_true, Bool.not_false, wp_cutD, wp_cutXD,
  oC_eqI, oC_neI, oC_eqB, oC_neB, oC_lt, oC_le, oC_gt, oC_ge, oC_is, oC_isNot, oB_addI, oB_subI, lenA_tup, lenA_lst, fInt_int, fTuple_lst, asgK_some, startA, List.map_cons, List.map_nil, List.replicate, List.length_cons, List.length_nil, List.length_map, List.cons_append, List.nil_append, List.append_nil, List.set_cons_zero, List.set_cons_succ, mgTup_d, mgCons_c, mgNil_n, mgName_n, bind_some', wipeA, setAll, mLen, isN_optS, isN_optI, isN_str, isN_int, isN_tup, isN_non, loopI, true_and, and_true, and_self, Nat.reduceAdd, Nat.reduceLT, Nat.reduceLeDiff, Nat.reduceEqDiff, Nat.reduceSub, Int.reduceEq, Int.reduceLT, Int.reduceLE, Int.reduceSub, Int.reduceAdd, Int.cast_ofNat_Int, decide_true, decide_false, not_true, not_false_iff, Nat.zero_add, unD_nil, unD_cons, Option.map_some, sizeLine, Nat.reducePow, Option.isNone_none, Option.isNone_some, *])
def cmV : Cm 1 (fun _ : Vl => True) encV where
  z := fun v => match v with | .one i => .int i | .many is => .tuple (is.map .int)
  py := fun v => by
    cases v with
    | one i => rfl
    | many is => exact (cmTup cmInt).py is
  lay := fun v _ => by
    cases v with
    | one i => rfl
    | many is => exact (cmTup cmInt).lay is fun _ _ => trivial
  dep := fun v => by
    cases v with
    | one i => exact Nat.zero_le _
    | many is => exact (cmTup cmInt).dep is
  eq := fun v w => by
    cases v with
    | one i => cases w with
      | one k =>
        have := cmInt.eq i k
        refine this.trans ?_
        by_cases e : i = k <;> simp [e]
      | many ks => simp [PyData.eqv]
    | many is => cases w with
      | one k => simp [PyData.eqv]
      | many ks =>
        have := (cmTup cmInt).eq is ks
        refine this.trans ?_
        by_cases e : is = ks <;> simp [e]
def cmO : Cm 3 (fun o : Ob => True ∧ ∀ v ∈ o.2, True) encO := cmPair cmInt (cmTup cmV)
def cmOs : Cm 4 (fun os : List Ob => ∀ o ∈ os, True ∧ ∀ v ∈ o.2, True) encOs := cmTup cmO
theorem anyO (os : List Ob) : ∀ o ∈ os, True ∧ ∀ v ∈ o.2, True := fun _ _ => ⟨trivial, fun _ _ => trivial⟩
section
variable {j : Nat} {h : AHp} {M : Mo}
theorem isi_store (K : List (List Fld)) (os : List Ob) : isiM (T.mo 40 (j + 1)) false (.own "Store") (.d (store K os)) h = some (.ok (.d (.bl true)), h) := by kernel_rfl
theorem isi_store_t (l : List D) : isiM (T.mo 40 (j + 1)) false (.own "Store") (.d (.tup l)) h = some (.ok (.d (.bl false)), h) := by kernel_rfl
theorem seq0 (K K' : List (List Fld)) (os os' : List Ob) : oC (T.mo 40 (j + 1)) .Eq (.d (store K os)) (.d (store K' os')) h = mLen 2 (fun ws => r_Store___eq__ j (ws ++ [])) [.d (store K os), .d (store K' os')] h := by kernel_rfl
theorem seq_ok (g : Gd h) {K K' : List (List Fld)} (p : OkKs K) (p' : OkKs K') (os os' : List Ob) : oC (T.mo 40 (j + 3)) .Eq (.d (store K os)) (.d (store K' os')) h = some (.ok (.d (.bl (decide (K = K' ∧ os = os')))), h) := by
  rw [seq0]
  refine WP.eq ?_
  have e1 : r_Store___eq__ (j + 2) [.d (store K os), .d (store K' os')] h = some (.ok (.d (.bl (decide (K = K' ∧ os = os')))), h) := by
    rw [sh_Store___eq__]
    refine WP.eq ?_
    have e0 := isi_store (j := j + 1) (h := h) K' os'
    have e1 := at_plan (j := j + 1) (h := h) K os
    have e2 := at_plan (j := j + 1) (h := h) K' os'
    have e3 := at_srows (j := j + 1) (h := h) K os
    have e4 := at_srows (j := j + 1) (h := h) K' os'
    have e5 := eq_ok (j := j) g p p'
    have e6 := cmOs.oEq (M := T.mo 40 (j + 1 + 1)) (h := h) (by decide) (anyO os) (anyO os')
    clear p p'
    unfold s_Store___eq__
    walk_at "wps"
    by_cases c : K = K'
    · simp [c]
    · simp [c]
  walk_at "wps"
theorem slen0 (K : List (List Fld)) (os : List Ob) : lenA (T.mo 40 (j + 1)) [.d (store K os)] h = mBind (mLen 1 (fun ws => r_Store___len__ j (ws ++ [])) [.d (store K os)]) (fun w => mOf (match unI w with | some i => if 0 ≤ i ∧ i < 2 ^ 63 then some (.d (.int i)) else none | none => none)) h := by kernel_rfl
theorem slen_ok (g : Gd h) (K : List (List Fld)) {os : List Ob} (so : os.length ≤ 24) : lenA (T.mo 40 (j + 2)) [.d (store K os)] h = some (.ok (.d (.int (os.length : Nat))), h) := by
  rw [slen0]
  have e1 : r_Store___len__ (j + 1) [.d (store K os)] h = some (.ok (.d (.int (os.length : Nat))), h) := by
    rw [sh_Store___len__]
    refine WP.eq ?_
    have e1 := at_srows (j := j) (h := h) K os
    have e2 := lenA_Os (h := h) (M := T.mo 40 (j + 1)) os
    unfold s_Store___len__
    walk_at "wps"
  refine WP.eq ?_
  have e2 : unI (.d (.int (os.length : Nat))) = some ((os.length : Nat) : Int) := rfl
  replace so := Hd.mk so
  walk_at "wps"
  rw [if_pos (by have := so.of; omega)]
  walk_at "wps"
def wrD (i : Option Nat) : D := .tup [.str "wrong", natD i]
def madeD (K : List (List Fld)) (os : List Ob) : D := match dueO K os with | none => store K os | some i => wrD i
def dueD (K : List (List Fld)) (os : List Ob) : D := match dueO K os with | none => .non | some i => wrD i
theorem exm_st : (T.mo 40 (j + 1)).exm "BadStore" "BadStore" = some true := by kernel_rfl
theorem exm_bc : (T.mo 40 (j + 1)).exm "BadCell" "BadCell" = some true := by kernel_rfl
theorem at_index (i : Option Nat) : attrX (T.mo 40 (j + 1)) "index" (.exn "BadStore" [("index", natD i)]) h = some (.ok (.d (natD i)), h) := by
  cases i with
  | none => kernel_rfl
  | some i => kernel_rfl
theorem made_ok (g : Gd h) (cl : h.all AO.cln = true) {K : List (List Fld)} (gk : GKs K) {os : List Ob} (so : ShOs os) : r__law_made (j + 7) [.d (sch K), .d (encOs os)] h = some (.ok (.d (madeD K os)), h) := by
  rw [sh__law_made]
  refine WP.eq ?_
  have e1 := smake_ok (j := j) g gk so
  have e2 := exm_st (j := j + 6)
  unfold s__law_made madeD
  replace gk := Hd.mk gk
  replace so := Hd.mk so
  cases q : dueO K os with
  | none =>
    rw [q] at e1
    clear q
    walk_at "wps"
  | some i =>
    rw [q] at e1
    dsimp only at e1
    have e3 := at_index (j := j + 6) (h := h) i
    have e4 : wrD i = .tup [.str "wrong", natD i] := rfl
    dsimp only
    rw [e4]
    clear q e4
    walk_at "wps"
theorem wrongO_range (K : List (List Fld)) (os : List Ob) : ∀ (r : List Ob) (i : Nat), os.drop i = r →
    (((List.range' i r.length).filter fun a => !lawB K os a).head?) = wrongOAt K os i r
  | [], i, _ => rfl
  | x :: r, i, e => by
    have e1 : os[i]? = some x := by
      have := congrArg (fun l => l[0]?) e
      simpa using this
    have e2 : os.drop (i + 1) = r := by
      have := congrArg List.tail e
      simpa using this
    have e3 : lawB K os i = okB K os i x := by unfold lawB okB; rw [e1]
    rw [List.length_cons, List.range'_succ, List.filter_cons, e3]
    unfold wrongOAt
    cases q : okB K os i x with
    | true =>
      simp only [Bool.not_true, Bool.false_eq_true, if_false, if_true]
      exact wrongO_range K os r (i + 1) e2
    | false => simp
theorem ix_head (d : D) (ds : List D) : oIx M (.d (.lst (d :: ds))) (.d (.int 0)) h = some (.ok (.d d), h) := by
  rw [oIx_lst]
  unfold atI ixN
  rw [List.map_cons, List.length_cons, if_pos (by decide), if_pos (by omega)]
  rfl
theorem ne_nats (l : List Nat) : oC M .NotEq (.d (.lst (l.map fun i => D.int ((i : Nat) : Int)))) (.d (.lst [])) h = some (.ok (.d (.bl (!l.isEmpty))), h) := by
  have k := (cmLst cmInt).oNe (M := M) (h := h) (a := l.map fun i => ((i : Nat) : Int)) (b := []) (by decide) (fun _ _ => trivial) (fun _ z => nomatch z)
  rw [List.map_map, List.map_nil] at k
  refine k.trans ?_
  cases l <;> simp
theorem due_ok (g : Gd h) {K : List (List Fld)} (gk : GKs K) {os : List Ob} (so : ShOs os) : r__law_due (j + 3) [.d (encKs K), .d (encOs os)] h = some (.ok (.d (dueD K os)), h) := by
  rw [sh__law_due]
  refine WP.eq ?_
  have e2 := lenA_Os (h := h) (M := T.mo 40 (j + 2 + 1)) os
  unfold s__law_due dueD
  by_cases c : 1 ≤ os.length ∧ os.length ≤ 6
  · have hn1 : decide ((1 : Int) ≤ (os.length : Nat)) = true := by simp; omega
    have hn3 : decide (((os.length : Nat) : Int) ≤ 6) = true := by simp; omega
    have hr : -4611686018427387904 ≤ ((os.length : Nat) : Int) ∧ ((os.length : Nat) : Int) < 4611686018427387904 := by omega
    have ed : dueO K os = (wrongO K os).map some := by unfold dueO; rw [if_pos c]
    rw [ed]
    replace so := Hd.mk so
    replace gk := Hd.mk gk
    replace c := Hd.mk c
    clear ed
    have ex : wrongO K os = ((List.range os.length).filter fun a => !lawB K os a).head? := by
      rw [List.range_eq_range']
      exact (wrongO_range K os os 0 rfl).symm
    replace ex := Hd.mk ex
    walk_at "wps"
    rw [rng_map, Int.toNat_natCast]
    rw [comp_eq (fun i : Nat => W.d (.int ((i : Nat) : Int))) (fun i => !lawB K os i) (fun i : Nat => D.int ((i : Nat) : Int)) (List.range os.length) [] (fun i hi => ⟨_, rfl, by
      have hlt : i < os.length := List.mem_range.mp hi
      have e4 := law_is_object_ok (j := j) g gk.of os (List.getElem?_eq_getElem hlt) (so.of.2 _ (List.getElem_mem hlt))
      clear hi hlt
      walk_at "wps", fun _ => by walk_at "wps"⟩) (szLine (by have := c.of; simp; omega))]
    have ex' := ex.of
    rw [ex']
    clear ex ex'
    generalize (List.range os.length).filter (fun i => !lawB K os i) = l
    have e5 := ne_nats (M := T.mo 40 (j + 2 + 1)) (h := h) l
    cases l with
    | nil =>
      simp only [List.map_nil, List.isEmpty_nil, Bool.not_true] at e5
      simp only [List.map_nil, List.append_nil]
      walk_at "wps"
      rfl
    | cons a l =>
      have e6 : oIx (T.mo 40 (j + 2 + 1)) (.d (.lst ((a :: l).map fun i => D.int ((i : Nat) : Int)))) (.d (.int 0)) h = some (.ok (.d (.int (a : Nat))), h) := ix_head _ _
      simp only [List.isEmpty_cons, Bool.not_false] at e5
      simp only [List.nil_append]
      generalize ((a :: l).map fun i => D.int ((i : Nat) : Int)) = dl at e5 e6 ⊢
      walk_at "wps"
      rfl
  · have ed : dueO K os = some none := by unfold dueO; rw [if_neg c]
    rw [ed]
    replace so := Hd.mk so
    replace gk := Hd.mk gk
    clear ed
    by_cases c1 : 1 ≤ os.length
    · have hn1 : decide ((1 : Int) ≤ (os.length : Nat)) = true := by simp; omega
      have hn3 : decide (((os.length : Nat) : Int) ≤ 6) = false := by simp; omega
      clear c c1
      walk_at "wps"
      rfl
    · have hn1 : decide ((1 : Int) ≤ (os.length : Nat)) = false := by simp; omega
      clear c c1
      walk_at "wps"
      rfl
end
end K02

end
section
set_option Elab.async false
set_option linter.all false
set_option maxRecDepth 100000
set_option maxHeartbeats 1000000
namespace K02
open PySem PySem.Spec PyProof.Rows L2 PM
local macro_rules | `(tactic| walk_at "wps") => `(tactic| try simp only [↓wp_fn, ↓ws_seq, ↓ws_ret, ↓ws_asg, ↓ws_if, ↓ws_expr, ↓ws_for, ↓ws_par, ↓ws_skip, ↓ws_raise, ↓ws_raiseL, ↓ws_try, ↓seqK_nx, ↓seqK_rt, ↓seqK_exc, ↓fnK_rt, ↓fnK_nx, ↓fnK_exc, ↓loopK_nx, ↓loopK_rt, ↓loopK_exc, ↓wp_var, ↓wp_c, ↓wp_bin, ↓wp_un, ↓wp_nil, ↓wp_cons, ↓wp_star, ↓wp_cb, ↓wp_b, ↓wp_notT, ↓wp_andT, ↓wp_orT, ↓wp_yes, ↓wp_andV, ↓wp_orV, ↓wp_notV, ↓wp_if, ↓wp_chain, ↓wp_neg, ↓wp_tup, ↓wp_lst, ↓wp_lstR, ↓wp_slice, ↓wp_noPart, ↓wp_part, ↓wp_comp, ↓wp_lenSc, ↓wp_frzQ, ↓wp_items, ↓wp_enum, ↓wp_rng1, ↓wp_zip, zipD_tup, zipD_lst, ↓ws_match, ws_cs1, ↓ws_cs2, ↓wp_lstRgR, ↓wp_dc2, ↓wp_comp2, ↓wp_rng3, ↓wp_lstRg1, ↓wp_mthA, ↓ws_putK, oB_mulI, oB_modI, oB_addL, oB_addT, Int.reducePow, Int.reduceNeg, or_true, true_or, ↓tryK_rt, ↓tryK_nx, tryK_exc, ↓suiteK_rtD, setO_none, setO_some, ↓ws_stoA, ↓wp_make, ↓wp_bind, ↓mthK_cnt, fCnt_eq, fBs_map, wp_ok, wp_exc, wp_of, wp_pure, ws_some, gv0, gvS, unB_bl, if_true, if_false, Bool.false_eq_true, Bool.not_true, Bool.not_false, wp_cutD, wp_cutXD,
  oC_eqI, oC_neI, oC_eqB, oC_neB, oC_lt, oC_le, oC_gt, oC_ge, oC_is, oC_isNot, oB_addI, oB_subI, lenA_tup, lenA_lst, fInt_int, fTuple_lst, asgK_some, startA, List.map_cons, List.map_nil, List.replicate, List.length_cons, List.length_nil, List.length_map, List.cons_append, List.nil_append, List.append_nil, List.set_cons_zero, List.set_cons_succ, mgTup_d, mgCons_c, mgNil_n, mgName_n, bind_some', wipeA, setAll, mLen, isN_optS, isN_optI, isN_str, isN_int, isN_tup, isN_non, loopI, true_and, and_true, and_self, Nat.reduceAdd, Nat.reduceLT, Nat.reduceLeDiff, Nat.reduceEqDiff, Nat.reduceSub, Int.reduceEq, Int.reduceLT, Int.reduceLE, Int.reduceSub, Int.reduceAdd, Int.cast_ofNat_Int, decide_true, decide_false, not_true, not_false_iff, Nat.zero_add, unD_nil, unD_cons, Option.map_some, sizeLine, Nat.reducePow, Option.isNone_none, Option.isNone_some, *])
section
variable {j : Nat} {h : AHp} {M : Mo}
def vals (K : List (List Fld)) (os : List Ob) (p : Nat × Str) : List Vl := match os[p.1]? with
  | none => []
  | some o => ((ents K o).filter fun q => decide (q.1.n = p.2)).map (·.2)
theorem tab_filter (K : List (List Fld)) (p : Nat × Str) : ∀ (l : List Ob) (n : Nat), (((l.zipIdx n).flatMap fun z => (ents K z.1).map fun q => ((z.2, q.1.n), q.2)).filter fun q => decide (q.1 = p)).map (·.2) = if n ≤ p.1 then vals K l (p.1 - n, p.2) else []
  | [], n => by
    rw [List.zipIdx_nil, List.flatMap_nil]
    split <;> rfl
  | o :: l, n => by
    rw [List.zipIdx_cons, List.flatMap_cons, List.filter_append, List.map_append, tab_filter K p l (n + 1)]
    have e1 : (((ents K o).map fun q => ((n, q.1.n), q.2)).filter fun q => decide (q.1 = p)).map (·.2) = if n = p.1 then ((ents K o).filter fun q => decide (q.1.n = p.2)).map (·.2) else [] := by
      rw [List.filter_map, List.map_map]
      by_cases e : n = p.1
      · rw [if_pos e]
        have : (fun q : (Nat × Str) × Vl => decide (q.1 = p)) ∘ (fun q : Fld × Vl => ((n, q.1.n), q.2)) = fun q => decide (q.1.n = p.2) := by
          funext q
          obtain ⟨p1, p2⟩ := p
          have e : n = p1 := e
          subst e
          simp
        rw [this]
        rfl
      · rw [if_neg e]
        have : (fun q : (Nat × Str) × Vl => decide (q.1 = p)) ∘ (fun q : Fld × Vl => ((n, q.1.n), q.2)) = fun _ => false := by
          funext q
          exact decide_eq_false fun z => e (congrArg Prod.fst z)
        rw [this]
        simp
    refine (congrArg (· ++ _) e1).trans ?_
    by_cases e : n = p.1
    · rw [if_pos e, if_neg (by omega), if_pos (by omega), List.append_nil]
      unfold vals
      rw [show p.1 - n = 0 by omega]
      rfl
    · rw [if_neg e, List.nil_append]
      by_cases c : n + 1 ≤ p.1
      · rw [if_pos c, if_pos (by omega)]
        unfold vals
        rw [show p.1 - n = (p.1 - (n + 1)) + 1 by omega]
        rfl
      · rw [if_neg c, if_neg (by omega)]
theorem valAt_head (K : List (List Fld)) (os : List Ob) (p : Nat × Str) : valAt K os p = (vals K os p).head? := by
  have e := tab_filter K p os 0
  rw [if_pos (Nat.zero_le _), Nat.sub_zero] at e
  have e' : ((tab K os).filter fun q => decide (q.1 = p)).map (·.2) = vals K os p := e
  unfold valAt
  rw [← e', List.head?_map, List.head?_filter]
theorem nd_filter {s : Str} : ∀ {l : List (Fld × Vl)}, (l.map fun q => q.1.n).Nodup → (l.filter fun q => decide (q.1.n = s)).length ≤ 1
  | [], _ => Nat.zero_le _
  | a :: l, nd => by
    rw [List.map_cons, List.nodup_cons] at nd
    have ih := nd_filter (s := s) nd.2
    rw [List.filter_cons]
    by_cases e : a.1.n = s
    · rw [if_pos (by simp [e])]
      have : l.filter (fun q => decide (q.1.n = s)) = [] := by
        rw [List.filter_eq_nil_iff]
        intro q hq z
        have z : q.1.n = s := of_decide_eq_true z
        exact nd.1 (List.mem_map.mpr ⟨q, hq, by rw [z, e]⟩)
      rw [this]
      exact Nat.le_refl _
    · rw [if_neg (by simp [e])]
      exact ih
theorem vals_one {K : List (List Fld)} (gk : GKs K) (os : List Ob) (p : Nat × Str) : vals K os p = (valAt K os p).toList := by
  rw [valAt_head]
  have : (vals K os p).length ≤ 1 := by
    unfold vals
    split
    · exact Nat.zero_le _
    · rw [List.length_map]
      exact nd_filter (names_nd gk _)
  match e : vals K os p, this with
  | [], _ => rfl
  | [a], _ => rfl
  | _ :: _ :: _, hl => simp at hl
theorem vals_none {K : List (List Fld)} {os : List Ob} {p : Nat × Str} (hp : os.length ≤ p.1) : valAt K os p = none := by
  rw [valAt_head]
  unfold vals
  rw [List.getElem?_eq_none hp]
  rfl
theorem mgP {a b : Nat} (p : Nat × Str) (σ : Sl) : mgTup (mgCons (mgName a) (mgCons (mgName b) mgNil)) 2 (.d (encP p)) σ = mgCons (mgName a) (mgCons (mgName b) mgNil) [.d (.int (p.1 : Nat)), .d (.str p.2)] σ := by
  rw [encP, mgTup_d]
  rfl
theorem mgOb {a b : Nat} (o : Ob) (σ : Sl) : mgTup (mgCons (mgName a) (mgCons (mgName b) mgNil)) 2 (.d (encO o)) σ = mgCons (mgName a) (mgCons (mgName b) mgNil) [.d (.int o.1), .d (.tup (o.2.map encV))] σ := by
  rw [encO, mgTup_d]
  rfl
theorem value_of_ok (g : Gd h) {K : List (List Fld)} (gk : GKs K) {os : List Ob} (so : ShOs os) (hw : ∀ o ∈ os, objB K os o = true) {p : Nat × Str} (hp : p.2 ∈ S6) : r__law_value_of (j + 1) [.d (encKs K), .d (encOs os), .d (encP p)] h = some (.ok (.d (.lst ((vals K os p).map encV))), h) := by
  rw [sh__law_value_of]
  refine WP.eq ?_
  have e1 := fun σ => mgP (a := 3) (b := 4) p σ
  have e2 := lenA_Os (h := h) (M := T.mo 40 (j + 1)) os
  replace gk := Hd.mk gk
  replace so := Hd.mk so
  replace hw := Hd.mk hw
  replace hp := Hd.mk hp
  unfold s__law_value_of
  by_cases c : p.1 < os.length
  · have eo : os[p.1]? = some os[p.1] := List.getElem?_eq_getElem c
    have ho : os[p.1] ∈ os := List.getElem_mem c
    have hn : decide (((os.length : Nat) : Int) ≤ ((p.1 : Nat) : Int)) = false := by simp; omega
    have ev : vals K os p = ((ents K os[p.1]).filter fun q => decide (q.1.n = p.2)).map (·.2) := by unfold vals; rw [eo]
    rw [ev]
    have e3 : oIx (T.mo 40 (j + 1)) (.d (encOs os)) (.d (.int ((p.1 : Nat) : Int))) h = some (.ok (.d (encO os[p.1])), h) := ix_map encO (by omega) (by rw [Int.toNat_natCast]; exact eo)
    obtain ⟨x, q1, q2, q3, q4⟩ := objB_kind (hw.of _ ho)
    have so1 := Hd.mk (so.of.2 _ ho)
    generalize os[p.1] = o at e3 q1 q2 q3 q4 so1
    have ee : ents K o = x.zip o.2 := by unfold ents; rw [q1]
    rw [ee]
    have gx := Hd.mk (gk.of.1 x (List.mem_of_getElem? q4))
    have e4 : oIx (T.mo 40 (j + 1)) (.d (encKs K)) (.d (.int o.1)) h = some (.ok (.d (encK x)), h) := ix_map encK q3 q4
    have e5 := fun σ => mgOb (a := 5) (b := 6) o σ
    have f3 : zipD [.d (encK x), .d (.tup (o.2.map encV))] = some ((x.zip o.2).map fun p => W.d (.tup [encF p.1, encV p.2])) := by
      rw [← zipW_map]
      rfl
    clear q1 q2 q3 q4 ee ev eo ho c
    walk_at "wps"
    rw [comp_eq (fun q : Fld × Vl => W.d (.tup [encF q.1, encV q.2])) (fun q => decide (q.1.n = p.2)) (fun q => encV q.2) (x.zip o.2) [] (fun q hq => ⟨_, rfl, by
      have f0 := ixF0 (h := h) (M := T.mo 40 (j + 1)) q.1
      have e7 := oC_eqS (M := T.mo 40 (j + 1)) (h := h) (ok6 _ (gx.of.gf q.1 (List.of_mem_zip hq).1).1) (ok6 _ hp.of)
      clear hq e1 e2 e3 e4 e5 f3
      walk_at "wps", fun _ => by
      clear hq e1 e2 e3 e4 e5 f3
      walk_at "wps"⟩) (szLine (by rw [List.length_nil, List.length_zip]; have := so1.of.1; omega))]
    rw [List.map_map, List.nil_append]
    walk_at "wps"
    rfl
  · have hn : decide (((os.length : Nat) : Int) ≤ ((p.1 : Nat) : Int)) = true := by simp; omega
    have ev : vals K os p = [] := by unfold vals; rw [List.getElem?_eq_none (by omega)]
    rw [ev]
    clear ev c
    walk_at "wps"
theorem asked_ok (g : Gd h) (cl : h.all AO.cln = true) (K : List (List Fld)) (os : List Ob) {p : Nat × Str} (hp : p.2 ∈ S6) : r__law_asked (j + 4) [.d (store K os), .d (encP p)] h = some (.ok (.d (.lst ((valAt K os p).toList.map encV))), h) := by
  rw [sh__law_asked]
  refine WP.eq ?_
  have e1 := ixSt (j := j) g K os hp
  have e2 := exm_bc (j := j + 3)
  have e3 := ixP0 (h := h) (M := T.mo 40 (j + 3 + 1)) p
  have e4 := ixP1 (h := h) (M := T.mo 40 (j + 3 + 1)) p
  have ep : encP p = .tup [.int ((p.1 : Nat) : Int), .str p.2] := rfl
  unfold s__law_asked
  clear hp
  have e5 : oIx (T.mo 40 (j + 4)) (.d (store K os)) (.d (.tup [.int ((p.1 : Nat) : Int), .str p.2])) h = _ := e1
  clear e1 ep
  rw [show j + 4 = j + 3 + 1 from rfl] at e5
  cases q : valAt K os p with
  | none =>
    rw [q] at e5
    dsimp only at e5
    clear q
    walk_at "wps"
    try rfl
  | some v =>
    rw [q] at e5
    dsimp only at e5
    clear q
    walk_at "wps"
    try rfl
end
end K02

end
section
set_option Elab.async false
set_option linter.all false
set_option maxRecDepth 100000
set_option maxHeartbeats 1000000
namespace K02
open PySem PySem.Spec PyProof.Rows L2 PM
local macro_rules | `(tactic| walk_at "wps") => `(tactic| try simp only [↓wp_fn, ↓ws_seq, ↓ws_ret, ↓ws_asg, ↓ws_if, ↓ws_expr, ↓ws_for, ↓ws_par, ↓ws_skip, ↓ws_raise, ↓ws_raiseL, ↓ws_try, ↓seqK_nx, ↓seqK_rt, ↓seqK_exc, ↓fnK_rt, ↓fnK_nx, ↓fnK_exc, ↓loopK_nx, ↓loopK_rt, ↓loopK_exc, ↓wp_var, ↓wp_c, ↓wp_bin, ↓wp_un, ↓wp_nil, ↓wp_cons, ↓wp_star, ↓wp_cb, ↓wp_b, ↓wp_notT, ↓wp_andT, ↓wp_orT, ↓wp_yes, ↓wp_andV, ↓wp_orV, ↓wp_notV, ↓wp_if, ↓wp_chain, ↓wp_neg, ↓wp_tup, ↓wp_lst, ↓wp_lstR, ↓wp_slice, ↓wp_noPart, ↓wp_part, ↓wp_comp, ↓wp_lenSc, ↓wp_frzQ, ↓wp_items, ↓wp_enum, ↓wp_rng1, ↓wp_zip, zipD_tup, zipD_lst, ↓ws_match, ws_cs1, ↓ws_cs2, ↓wp_lstRgR, ↓wp_dc2, ↓wp_comp2, ↓wp_rng3, ↓wp_lstRg1, ↓wp_mthA, ↓ws_putK, oB_mulI, oB_modI, oB_addL, oB_addT, Int.reducePow, Int.reduceNeg, or_true, true_or, ↓tryK_rt, ↓tryK_nx, tryK_exc, ↓suiteK_rtD, setO_none, setO_some, ↓ws_stoA, ↓wp_make, ↓wp_bind, ↓mthK_cnt, fCnt_eq, fBs_map, wp_ok, wp_exc, wp_of, wp_pure, ws_some, gv0, gvS, unB_bl, if_true, if_false, Bool.false_eq_true, Bool.not_true, Bool.not_false, wp_cutD, wp_cutXD,
  oC_eqI, oC_neI, oC_eqB, oC_neB, oC_lt, oC_le, oC_gt, oC_ge, oC_is, oC_isNot, oB_addI, oB_subI, lenA_tup, lenA_lst, fInt_int, fTuple_lst, asgK_some, startA, List.map_cons, List.map_nil, List.replicate, List.length_cons, List.length_nil, List.length_map, List.cons_append, List.nil_append, List.append_nil, List.set_cons_zero, List.set_cons_succ, mgTup_d, mgCons_c, mgNil_n, mgName_n, bind_some', wipeA, setAll, mLen, isN_optS, isN_optI, isN_str, isN_int, isN_tup, isN_non, loopI, true_and, and_true, and_self, Nat.reduceAdd, Nat.reduceLT, Nat.reduceLeDiff, Nat.reduceEqDiff, Nat.reduceSub, Int.reduceEq, Int.reduceLT, Int.reduceLE, Int.reduceSub, Int.reduceAdd, Int.cast_ofNat_Int, decide_true, decide_false, not_true, not_false_iff, Nat.zero_add, unD_nil, unD_cons, Option.map_some, sizeLine, Nat.reducePow, Option.isNone_none, Option.isNone_some, *])
section
variable {j k : Nat} {h h1 h2 t H H1 : AHp} {M : Mo}
def cmP : Cm 1 (fun p : Nat × Str => p.2 ∈ S6) encP where
  z := fun p => .tuple [.int (p.1 : Nat), .str p.2]
  py := fun p => rfl
  lay := fun p hp => by
    show (true && (PyData.strOk p.2 && true)) = true
    rw [ok6 _ hp]
    rfl
  dep := fun p => Nat.le_refl _
  eq := fun p q => by
    obtain ⟨a, x⟩ := p
    obtain ⟨b, y⟩ := q
    show (((a : Nat) : Int) == ((b : Nat) : Int) && ((x == y) && true)) = _
    by_cases h1 : a = b
    · by_cases h2 : x = y <;> simp [h1, h2]
    · have h3 : ¬ (((a : Nat) : Int) = ((b : Nat) : Int)) := by omega
      simp [h1, h3]
theorem it_map {α : Type} (f : α → D) (l : List α) : itemsOf (.d (.lst (l.map f))) = some (l.map fun p => .d (f p)) := by
  show some ((l.map f).map W.d) = _
  rw [List.map_map]
  rfl
theorem ne_same {α : Type} [DecidableEq α] {n : Nat} {P : α → Prop} {e : α → D} (C : Cm n P e) (hn : n ≤ 64) {a : α} (pa : P a) : oC M .NotEq (.d (e a)) (.d (e a)) h = some (.ok (.d (.bl false)), h) := by
  have := C.oNe (M := M) (h := h) hn pa pa
  simpa using this
def P36 : List (Nat × Str) := (List.range 6).flatMap fun i => S6.map fun s => (i, s)
theorem pairs36 : s__law_pairs j M [some (.d (.int 6)), none, none, none] h = some (.rt (.d (.lst (P36.map encP))), h) := by kernel_rfl
theorem pairs_ok (g : Gd h) : r__law_pairs (j + 1) [.d (.int 6)] h = some (.ok (.d (.lst (P36.map encP))), h) := by
  rw [sh__law_pairs]
  refine WP.eq ?_
  have e := pairs36 (j := j) (M := T.mo 40 (j + 1)) (h := h)
  walk_at "wps"
theorem mem36 : ∀ p ∈ P36, p.2 ∈ S6 := by decide +kernel
theorem len36 : P36.length = 36 := by decide +kernel
theorem flat_less {α : Type} {f : Nat → List α} {n : Nat} : ∀ k, (∀ i, n ≤ i → f i = []) → (List.range (n + k)).flatMap f = (List.range n).flatMap f
  | 0, _ => rfl
  | k + 1, hf => by
    rw [← Nat.add_assoc, List.range_succ, List.flatMap_append, flat_less k hf]
    simp [hf (n + k) (by omega)]
theorem cells36 {K : List (List Fld)} {os : List Ob} (h6 : os.length ≤ 6) : cellsOf K os = P36.filter fun p => (valAt K os p).isSome := by
  unfold cellsOf P36
  obtain ⟨k, e⟩ : ∃ k, 6 = os.length + k := ⟨6 - os.length, by omega⟩
  have : (List.range 6).flatMap (fun i => S6.map fun s => (i, s)) = (List.range (os.length + k)).flatMap (fun i => S6.map fun s => (i, s)) := by rw [← e]
  rw [this, List.filter_flatMap, flat_less k]
  · congr 1
    funext i
    rw [List.filter_map]
    rfl
  · intro i hi
    rw [List.filter_eq_nil_iff]
    intro q hq
    obtain ⟨s, _, rfl⟩ := List.mem_map.mp hq
    rw [vals_none (by exact hi)]
    simp
end
end K02

end
section
set_option Elab.async false
set_option linter.all false
set_option maxRecDepth 100000
set_option maxHeartbeats 1000000
namespace K02
open PySem PySem.Spec PyProof.Rows L2 PM
local macro_rules | `(tactic| walk_at "wps") => `(tactic| try simp only [↓wp_fn, ↓ws_seq, ↓ws_ret, ↓ws_asg, ↓ws_if, ↓ws_expr, ↓ws_for, ↓ws_par, ↓ws_skip, ↓ws_raise, ↓ws_raiseL, ↓ws_try, ↓seqK_nx, ↓seqK_rt, ↓seqK_exc, ↓fnK_rt, ↓fnK_nx, ↓fnK_exc, ↓loopK_nx, ↓loopK_rt, ↓loopK_exc, ↓wp_var, ↓wp_c, ↓wp_bin, ↓wp_un, ↓wp_nil, ↓wp_cons, ↓wp_star, ↓wp_cb, ↓wp_b, ↓wp_notT, ↓wp_andT, ↓wp_orT, ↓wp_yes, ↓wp_andV, ↓wp_orV, ↓wp_notV, ↓wp_if, ↓wp_chain, ↓wp_neg, ↓wp_tup, ↓wp_lst, ↓wp_lstR, ↓wp_slice, ↓wp_noPart, ↓wp_part, ↓wp_comp, ↓wp_lenSc, ↓wp_frzQ, ↓wp_items, ↓wp_enum, ↓wp_rng1, ↓wp_zip, zipD_tup, zipD_lst, ↓ws_match, ws_cs1, ↓ws_cs2, ↓wp_lstRgR, ↓wp_dc2, ↓wp_comp2, ↓wp_rng3, ↓wp_lstRg1, ↓wp_mthA, ↓ws_putK, oB_mulI, oB_modI, oB_addL, oB_addT, Int.reducePow, Int.reduceNeg, or_true, true_or, ↓tryK_rt, ↓tryK_nx, tryK_exc, ↓suiteK_rtD, setO_none, setO_some, ↓ws_stoA, ↓wp_make, ↓wp_bind, ↓mthK_cnt, fCnt_eq, fBs_map, wp_ok, wp_exc, wp_of, wp_pure, ws_some, gv0, gvS, unB_bl, if_true, if_false, Bool.false_eq_true, Bool.not_true, Bool.not_false, wp_cutD, wp_cutXD,
  oC_eqI, oC_neI, oC_eqB, oC_neB, oC_lt, oC_le, oC_gt, oC_ge, oC_is, oC_isNot, oB_addI, oB_subI, lenA_tup, lenA_lst, fInt_int, fTuple_lst, asgK_some, startA, List.map_cons, List.map_nil, List.replicate, List.length_cons, List.length_nil, List.length_map, List.cons_append, List.nil_append, List.append_nil, List.set_cons_zero, List.set_cons_succ, mgTup_d, mgCons_c, mgNil_n, mgName_n, bind_some', wipeA, setAll, mLen, isN_optS, isN_optI, isN_str, isN_int, isN_tup, isN_non, loopI, true_and, and_true, and_self, Nat.reduceAdd, Nat.reduceLT, Nat.reduceLeDiff, Nat.reduceEqDiff, Nat.reduceSub, Int.reduceEq, Int.reduceLT, Int.reduceLE, Int.reduceSub, Int.reduceAdd, Int.cast_ofNat_Int, decide_true, decide_false, not_true, not_false_iff, Nat.zero_add, unD_nil, unD_cons, Option.map_some, sizeLine, Nat.reducePow, Option.isNone_none, Option.isNone_some, *])
section
variable {j k : Nat} {h h1 h2 t H H1 : AHp} {M : Mo}
def rowV (K : List (List Fld)) (os : List Ob) (p : Nat × Str) : D := .lst ((vals K os p).map encV)
theorem row_ne (K : List (List Fld)) (os : List Ob) (p : Nat × Str) : oC M .NotEq (.d (rowV K os p)) (.d (.lst [])) h = some (.ok (.d (.bl (!decide (vals K os p = [])))), h) := by
  have := (cmLst cmV).oNe (M := M) (h := h) (a := vals K os p) (b := []) (by decide) (fun _ _ => trivial) (fun _ z => nomatch z)
  exact this
theorem row_some {K : List (List Fld)} (gk : GKs K) (os : List Ob) (p : Nat × Str) : (!decide (vals K os p = [])) = (valAt K os p).isSome := by
  rw [vals_one gk]
  cases valAt K os p <;> simp
theorem store_right_ok (g : Gd h) (cl : h.all AO.cln = true) {K : List (List Fld)} (gk : GKs K) {os : List Ob} (so : ShOs os) (h6 : os.length ≤ 6) (hw : ∀ o ∈ os, objB K os o = true) : r__law_store_right (j + 5) [.d (encKs K), .d (encOs os), .d (store K os)] h = some (.ok (.d (.bl true)), h) := by
  rw [sh__law_store_right]
  refine WP.eq ?_
  have e1 := pairs_ok (j := j + 3) g
  have e2 := it_map encP P36
  have e3 := at_objects (j := j + 3) g K os
  have e4 := at_schema (j := j + 3) g K os
  have e5 := at_cells (j := j + 3) g K so.1
  have e6 := slen_ok (j := j + 3) g K so.1
  have e7 := lenA_Os (h := h) (M := T.mo 40 (j + 4 + 1)) os
  have e8 := make_ok (j := j) g gk.ok gk.2.1 gk.2.2
  rw [gk.wrong] at e8
  dsimp only at e8
  have e9 := eq_ok (j := j + 3) g gk.ok gk.ok
  have e10 := ne_same (M := T.mo 40 (j + 4 + 1)) (h := h) cmOs (by decide) (anyO os)
  have hl36 : P36.length ≤ sizeLine := szLine (by rw [len36]; decide)
  have rowsE : oC (T.mo 40 (j + 4 + 1)) .NotEq (.d (.lst (P36.map fun p => rowV K os p))) (.d (.lst (P36.map fun p => rowV K os p))) h = some (.ok (.d (.bl false)), h) := by
    have := ne_same (M := T.mo 40 (j + 4 + 1)) (h := h) (cmLst (cmLst cmV)) (by decide) (a := P36.map fun p => vals K os p) (fun _ _ _ _ => trivial)
    rw [List.map_map] at this
    exact this
  have boolsE : oC (T.mo 40 (j + 4 + 1)) .NotEq (.d (.lst (P36.map fun p => .bl (valAt K os p).isSome))) (.d (.lst (P36.map fun p => .bl (valAt K os p).isSome))) h = some (.ok (.d (.bl false)), h) := by
    have := ne_same (M := T.mo 40 (j + 4 + 1)) (h := h) (cmLst cmBool) (by decide) (a := P36.map fun p => (valAt K os p).isSome) (fun _ _ => trivial)
    rw [List.map_map] at this
    exact this
  have cellsE : oC (T.mo 40 (j + 4 + 1)) .Eq (.d (.lst ((cellsOf K os).map encP))) (.d (.lst ((P36.filter fun p => (valAt K os p).isSome).map encP))) h = some (.ok (.d (.bl true)), h) := by
    rw [← cells36 h6]
    have hm : ∀ p ∈ cellsOf K os, p.2 ∈ S6 := fun p hp => by
      rw [cells36 h6] at hp
      exact mem36 p (List.mem_filter.mp hp).1
    have := (cmLst cmP).oEq (M := T.mo 40 (j + 4 + 1)) (h := h) (a := cellsOf K os) (b := cellsOf K os) (by decide) hm hm
    simpa using this
  have itR := it_map (fun p => rowV K os p) P36
  replace gk := Hd.mk gk
  replace so := Hd.mk so
  replace hw := Hd.mk hw
  replace h6 := Hd.mk h6
  replace hl36 := Hd.mk hl36
  unfold s__law_store_right
  walk_at "wps"
  rw [comp_all (fun p : Nat × Str => W.d (encP p)) (fun p => rowV K os p) P36 (fun p hp => ⟨_, rfl, by
    have v1 := value_of_ok (j := j + 3) g gk.of so.of hw.of (mem36 p hp)
    have v2 : (D.lst ((vals K os p).map encV)) = rowV K os p := rfl
    rw [v2] at v1
    clear hp v2
    walk_at "wps"⟩) hl36.of]
  walk_at "wps"
  rw [comp_all (fun p : Nat × Str => W.d (encP p)) (fun p => rowV K os p) P36 (fun p hp => ⟨_, rfl, by
    have v1 := asked_ok (j := j) g cl K os (mem36 p hp)
    have v2 : (D.lst ((valAt K os p).toList.map encV)) = rowV K os p := by unfold rowV; rw [vals_one gk.of]
    rw [v2] at v1
    clear hp v2
    walk_at "wps"⟩) hl36.of]
  walk_at "wps"
  rw [comp_all (fun p : Nat × Str => W.d (encP p)) (fun p => .bl (valAt K os p).isSome) P36 (fun p hp => ⟨_, rfl, by
    have v1 := inSt (j := j + 2) g K os (mem36 p hp)
    clear hp
    walk_at "wps"⟩) hl36.of]
  walk_at "wps"
  rw [comp_all (fun p : Nat × Str => W.d (rowV K os p)) (fun p => .bl (valAt K os p).isSome) P36 (fun p hp => ⟨_, rfl, by
    have v1 := row_ne (M := T.mo 40 (j + 4 + 1)) (h := h) K os p
    rw [row_some gk.of] at v1
    clear hp
    walk_at "wps"⟩) hl36.of]
  walk_at "wps"
  rw [comp_eq (fun p : Nat × Str => W.d (encP p)) (fun p => (valAt K os p).isSome) encP P36 [] (fun p hp => ⟨_, rfl, by
    have v1 := value_of_ok (j := j + 3) g gk.of so.of hw.of (mem36 p hp)
    have v3 : (D.lst ((vals K os p).map encV)) = rowV K os p := rfl
    rw [v3] at v1
    have v2 := row_ne (M := T.mo 40 (j + 4 + 1)) (h := h) K os p
    rw [row_some gk.of] at v2
    clear hp v3
    walk_at "wps", fun _ => by walk_at "wps"⟩) (by simpa using hl36.of)]
  rw [List.nil_append]
  walk_at "wps"
end
end K02

end
section
set_option Elab.async false
set_option linter.all false
set_option maxRecDepth 100000
set_option maxHeartbeats 1000000
namespace K02
open PySem PySem.Spec PyProof.Rows L2 PM
local macro_rules | `(tactic| walk_at "wps") => `(tactic| try simp only [↓wp_fn, ↓ws_seq, ↓ws_ret, ↓ws_asg, ↓ws_if, ↓ws_expr, ↓ws_for, ↓ws_par, ↓ws_skip, ↓ws_raise, ↓ws_raiseL, ↓ws_try, ↓seqK_nx, ↓seqK_rt, ↓seqK_exc, ↓fnK_rt, ↓fnK_nx, ↓fnK_exc, ↓loopK_nx, ↓loopK_rt, ↓loopK_exc, ↓wp_var, ↓wp_c, ↓wp_bin, ↓wp_un, ↓wp_nil, ↓wp_cons, ↓wp_star, ↓wp_cb, ↓wp_b, ↓wp_notT, ↓wp_andT, ↓wp_orT, ↓wp_yes, ↓wp_andV, ↓wp_orV, ↓wp_notV, ↓wp_if, ↓wp_chain, ↓wp_neg, ↓wp_tup, ↓wp_lst, ↓wp_lstR, ↓wp_slice, ↓wp_noPart, ↓wp_part, ↓wp_comp, ↓wp_lenSc, ↓wp_frzQ, ↓wp_items, ↓wp_enum, ↓wp_rng1, ↓wp_zip, zipD_tup, zipD_lst, ↓ws_match, ws_cs1, ↓ws_cs2, ↓wp_lstRgR, ↓wp_dc2, ↓wp_comp2, ↓wp_rng3, ↓wp_lstRg1, ↓wp_mthA, ↓ws_putK, oB_mulI, oB_modI, oB_addL, oB_addT, Int.reducePow, Int.reduceNeg, or_true, true_or, ↓tryK_rt, ↓tryK_nx, tryK_exc, ↓suiteK_rtD, setO_none, setO_some, ↓ws_stoA, ↓wp_make, ↓wp_bind, ↓mthK_cnt, fCnt_eq, fBs_map, wp_ok, wp_exc, wp_of, wp_pure, ws_some, gv0, gvS, unB_bl, if_true, if_false, Bool.false_eq_true, Bool.not_true, Bool.not_false, wp_cutD, wp_cutXD,
  oC_eqI, oC_neI, oC_eqB, oC_neB, oC_lt, oC_le, oC_gt, oC_ge, oC_is, oC_isNot, oB_addI, oB_subI, lenA_tup, lenA_lst, fInt_int, fTuple_lst, asgK_some, startA, List.map_cons, List.map_nil, List.replicate, List.length_cons, List.length_nil, List.length_map, List.cons_append, List.nil_append, List.append_nil, List.set_cons_zero, List.set_cons_succ, mgTup_d, mgCons_c, mgNil_n, mgName_n, bind_some', wipeA, setAll, mLen, isN_optS, isN_optI, isN_str, isN_int, isN_tup, isN_non, loopI, true_and, and_true, and_self, Nat.reduceAdd, Nat.reduceLT, Nat.reduceLeDiff, Nat.reduceEqDiff, Nat.reduceSub, Int.reduceEq, Int.reduceLT, Int.reduceLE, Int.reduceSub, Int.reduceAdd, Int.cast_ofNat_Int, decide_true, decide_false, not_true, not_false_iff, Nat.zero_add, unD_nil, unD_cons, Option.map_some, sizeLine, Nat.reducePow, Option.isNone_none, Option.isNone_some, *])
section
variable {j k : Nat} {h h1 h2 t H H1 : AHp} {M : Mo}
def natL (l : List Nat) : D := .lst (l.map fun i => D.int ((i : Nat) : Int))
def val_2 (j : Nat) (M : Mo) : MS := (mSeq (mIfS (mB (mBin (oC M .Eq) (mBin (oIx M) (mVar 2) (mC (.int (2)))) (mC (.str "one")))) (mSeq (mRet (mCB (mLen 2 (fun ws => r__law_pick j (ws ++ []))) (mCons (mVar 0) (mCons (mVar 3) (mNil))))) (mSkip)) (mSkip)) (mSeq (mRet (mCB (fTuple) (mCons (mComp (mRng1 (mCons (mCB (mLen 2 (fun ws => r__law_pick j (ws ++ []))) (mCons (mVar 0) (mCons (mLst (mCons (mC (.int (1))) (mCons (mC (.int (2))) (mCons (mC (.int (1))) (mCons (mC (.int (2))) (mCons (mC (.int (0))) (mCons (mC (.int (3))) (mNil)))))))) (mNil)))) (mNil))) (mgName 5) (mYes) (mCB (mLen 2 (fun ws => r__law_pick j (ws ++ []))) (mCons (mVar 0) (mCons (mVar 3) (mNil)))) [5]) (mNil)))) (mSkip)))
theorem val_e (j : Nat) (M : Mo) : s__law_value j M = mSeq (mAsg (mLstRg1 (mC (.int (10)))) (mgName 3)) (mSeq (mIfS (mB (mBin (oC M .IsNot) (mBin (oIx M) (mVar 2) (mC (.int (1)))) (mC (.non)))) (mSeq (mAsg (mComp (mRng1 (mCons (mCB (lenA M) (mCons (mVar 1) (mNil))) (mNil))) (mgName 4) (mB (mBin (oC M .Eq) (mBin (oIx M) (mVar 1) (mVar 4)) (mBin (oIx M) (mVar 2) (mC (.int (1)))))) (mVar 4) [4]) (mgName 3)) (mSkip)) (mSkip)) (val_2 j M)) := rfl
theorem pick_nat (d : Dw k h) {l : List Nat} (hl : l ≠ []) : WP (r__law_pick (j + 4) [.ref k, .d (natL l)] h) (fun w h' => ∃ i : Nat, w = .d (.int (i : Nat)) ∧ i ∈ l ∧ Nx k h h') E0' := by
  refine (pick_ok (j := j) d (ds := l.map fun i => D.int ((i : Nat) : Int)) (by simpa using hl)).imp ?_
  rintro w h' ⟨x, hx, rfl, n⟩
  obtain ⟨i, hi, rfl⟩ := List.mem_map.mp hx
  exact ⟨i, rfl, hi, n⟩
theorem fTuple_D (ds : List D) : fTuple [.d (.lst ds)] h = some (.ok (.d (.tup ds)), h) := fTuple_lst ds
theorem val_2_ok (d : Dw k h) (l : Nx k h H) {f : Fld} {n : Nat} (gf : GF n f) {able : List Nat} (ha : able ≠ []) {ws x4 x5 : Option W} :
    WS (val_2 (j + 4) (T.mo 40 (j + 4 + 1)) [some (.ref k), ws, some (.d (encF f)), some (.d (natL able)), x4, x5] H) (fnK h.length (fun w h' => ∃ v : Vl, w = .d (encV v) ∧ ShV v ∧ Nx k h h') E0') := by
  have f2 := ixF2 (h := H) (M := T.mo 40 (j + 4 + 1)) f
  have e2 := oC_eqS (M := T.mo 40 (j + 4 + 1)) (h := H) (ok4 _ gf.2.1) okOne
  have pk := pick_nat (j := j) l.1 ha
  have pm := pick_ok (j := j) l.1 (ds := [.int 1, .int 2, .int 1, .int 2, .int 0, .int 3]) (by simp)
  replace ha := Hd.mk ha
  replace l := Hd.mk l
  replace d := Hd.mk d
  clear gf
  unfold val_2
  by_cases c : f.f = "one"
  · rw [decide_eq_true c] at e2
    clear c pm
    walk_at "wps"
    refine pk.imp ?_
    rintro w h' ⟨i, rfl, hi, n⟩
    have nn := l.of.trans n
    rw [wp_cut nn.len nn.1.gd rfl]
    exact ⟨.one (i : Nat), rfl, trivial, nn⟩
  · rw [decide_eq_false c] at e2
    clear c pk
    walk_at "wps"
    refine pm.imp ?_
    rintro w h' ⟨x, hx, rfl, n⟩
    obtain ⟨m, hm, rfl⟩ : ∃ m : Nat, m ≤ 3 ∧ x = .int (m : Nat) := by
      simp only [List.mem_cons, List.not_mem_nil, or_false] at hx
      rcases hx with rfl | rfl | rfl | rfl | rfl | rfl
      · exact ⟨1, by omega, rfl⟩
      · exact ⟨2, by omega, rfl⟩
      · exact ⟨1, by omega, rfl⟩
      · exact ⟨2, by omega, rfl⟩
      · exact ⟨0, by omega, rfl⟩
      · exact ⟨3, by omega, rfl⟩
    have nn := Hd.mk (l.of.trans n)
    have hr : -4611686018427387904 ≤ ((m : Nat) : Int) ∧ ((m : Nat) : Int) < 4611686018427387904 := by omega
    clear hx pm n f2 e2
    walk_at "wps"
    rw [rng_map, Int.toNat_natCast]
    refine comp_inv (fun i : Nat => W.d (.int ((i : Nat) : Int))) (fun r ds H => ∃ is : List Int, ds = is.map D.int ∧ Nx k h H ∧ is.length + r.length = m) ?_ ?_ (List.range m) [] h' ⟨[], rfl, nn.of, by simp⟩
    · rintro i r ds H' ⟨is, rfl, n', hl⟩
      rw [List.length_cons] at hl
      refine ⟨by rw [List.length_map]; exact Nat.lt_of_lt_of_le (show is.length < 100 by omega) (by decide), _, rfl, ?_⟩
      have pk := pick_nat (j := j) n'.1 ha.of
      replace n' := Hd.mk n'
      replace hl := Hd.mk hl
      walk_at "wps"
      refine pk.imp ?_
      rintro w h' ⟨i, rfl, hi, n⟩
      exact ⟨_, rfl, is ++ [((i : Nat) : Int)], by rw [List.map_append]; rfl, n'.of.trans n, by rw [List.length_append, List.length_singleton]; have := hl.of; omega⟩
    · rintro ds H' ⟨is, rfl, n', hl⟩
      have e5 := fTuple_D (h := H') (is.map D.int)
      replace n' := Hd.mk n'
      replace hl := Hd.mk hl
      walk_at "wps"
      rw [wp_cut n'.of.len n'.of.1.gd rfl]
      exact ⟨.many is, rfl, by have := hl.of; show is.length ≤ 20; simp at this; omega, n'.of⟩
theorem rg10 : rgD 0 10 = (List.range 10).map fun i => D.int ((i : Nat) : Int) := rgD_map 10
theorem ix_nats {l : List Nat} {i s : Nat} (e : l[i]? = some s) : oIx M (.d (natL l)) (.d (.int ((i : Nat) : Int))) h = some (.ok (.d (.int ((s : Nat) : Int))), h) := by
  unfold natL
  rw [oIx_lst]
  unfold atI ixN
  have hl := (List.getElem?_eq_some_iff.mp e).1
  rw [List.length_map, List.length_map, if_pos (by omega), if_pos (by omega), Int.toNat_natCast]
  show mOf ((((l.map fun i => D.int ((i : Nat) : Int)).map W.d)[i]?)) h = _
  rw [List.getElem?_map, List.getElem?_map, e]
  rfl
theorem lenA_nats (l : List Nat) : lenA M [.d (natL l)] h = some (.ok (.d (.int (l.length : Nat))), h) := by
  unfold natL
  rw [lenA_lst, List.length_map]
theorem value_ok (d : Dw k h) {sorts : List Nat} (hl : sorts.length ≤ 20) {f : Fld} {n : Nat} (gf : GF n f) (hs : ∀ i : Nat, i < n → i ∈ sorts) : WP (r__law_value (j + 5) [.ref k, .d (natL sorts), .d (encF f)] h) (fun w h' => ∃ v : Vl, w = .d (encV v) ∧ ShV v ∧ Nx k h h') E0' := by
  rw [sh__law_value, val_e]
  have f1 := ixF1 (h := h) (M := T.mo 40 (j + 4 + 1)) f
  have hr : rgOk 0 10 = true := by decide +kernel
  have r10 : D.lst (rgD 0 10) = natL (List.range 10) := by unfold natL; rw [rg10]
  have v1 := fun x4 x5 => val_2_ok (j := j) d (Nx.refl d) gf (able := List.range 10) (by decide) (ws := some (.d (natL sorts))) (x4 := x4) (x5 := x5)
  rcases gf.2.2.2 with et | ⟨i, hi, et⟩
  · rw [et] at f1
    simp only [optD] at f1
    clear et hs gf hl
    walk_at "wps"
  · rw [et] at f1
    simp only [optD] at f1
    have hm := hs i hi
    have hln := lenA_nats (M := T.mo 40 (j + 4 + 1)) (h := h) sorts
    have hrr : -4611686018427387904 ≤ ((sorts.length : Nat) : Int) ∧ ((sorts.length : Nat) : Int) < 4611686018427387904 := by omega
    have v2 : ∀ x4 x5, WS (val_2 (j + 4) (T.mo 40 (j + 4 + 1)) [some (.ref k), some (.d (natL sorts)), some (.d (encF f)), some (.d (natL ((List.range sorts.length).filter fun a => decide (sorts[a]? = some i)))), x4, x5] h) (fnK h.length (fun w h' => ∃ v : Vl, w = .d (encV v) ∧ ShV v ∧ Nx k h h') E0') := fun x4 x5 => val_2_ok (j := j) d (Nx.refl d) gf (by
      obtain ⟨a, ha, e⟩ := List.mem_iff_getElem.mp hm
      intro z
      rw [List.filter_eq_nil_iff] at z
      exact z a (List.mem_range.mpr ha) (by rw [List.getElem?_eq_getElem ha, e]; simp))
    replace v2 := Hd.mk v2
    replace gf := Hd.mk gf
    replace hl := Hd.mk hl
    clear et hs hm v1
    walk_at "wps"
    rw [rng_map, Int.toNat_natCast]
    rw [comp_eq (fun a : Nat => W.d (.int ((a : Nat) : Int))) (fun a => decide (sorts[a]? = some i)) (fun a : Nat => D.int ((a : Nat) : Int)) (List.range sorts.length) [] (fun a ha => ⟨_, rfl, by
      have hlt : a < sorts.length := List.mem_range.mp ha
      have e3 := ix_nats (M := T.mo 40 (j + 4 + 1)) (h := h) (List.getElem?_eq_getElem hlt)
      have e4 : decide (sorts[a]? = some i) = decide (((sorts[a] : Nat) : Int) = ((i : Nat) : Int)) := by
        rw [List.getElem?_eq_getElem hlt]
        by_cases z : sorts[a] = i
        · simp [z]
        · have : ¬ (((sorts[a] : Nat) : Int) = ((i : Nat) : Int)) := by omega
          simp [z, this]
      rw [e4]
      clear ha e4
      generalize sorts[a] = s at e3
      clear hlt
      walk_at "wps", fun _ => by walk_at "wps"⟩) (szLine (by have := hl.of; simp; omega))]
    rw [List.nil_append]
    have v3 := v2.of
    unfold natL at v3
    clear v2
    walk_at "wps"
    first | exact v3 _ _ | (unfold natL; exact v3 _ _) | skip
end
end K02

end
section
set_option Elab.async false
set_option linter.all false
set_option maxRecDepth 100000
set_option maxHeartbeats 1000000
namespace K02
open PySem PySem.Spec PyProof.Rows L2 PM
local macro_rules | `(tactic| walk_at "wps") => `(tactic| try simp only [↓wp_fn, ↓ws_seq, ↓ws_ret, ↓ws_asg, ↓ws_if, ↓ws_expr, ↓ws_for, ↓ws_par, ↓ws_skip, ↓ws_raise, ↓ws_raiseL, ↓ws_try, ↓seqK_nx, ↓seqK_rt, ↓seqK_exc, ↓fnK_rt, ↓fnK_nx, ↓fnK_exc, ↓loopK_nx, ↓loopK_rt, ↓loopK_exc, ↓wp_var, ↓wp_c, ↓wp_bin, ↓wp_un, ↓wp_nil, ↓wp_cons, ↓wp_star, ↓wp_cb, ↓wp_b, ↓wp_notT, ↓wp_andT, ↓wp_orT, ↓wp_yes, ↓wp_andV, ↓wp_orV, ↓wp_notV, ↓wp_if, ↓wp_chain, ↓wp_neg, ↓wp_tup, ↓wp_lst, ↓wp_lstR, ↓wp_slice, ↓wp_noPart, ↓wp_part, ↓wp_comp, ↓wp_lenSc, ↓wp_frzQ, ↓wp_items, ↓wp_enum, ↓wp_rng1, ↓wp_zip, zipD_tup, zipD_lst, ↓ws_match, ws_cs1, ↓ws_cs2, ↓wp_lstRgR, ↓wp_dc2, ↓wp_comp2, ↓wp_rng3, ↓wp_lstRg1, ↓wp_mthA, ↓ws_putK, oB_mulI, oB_modI, oB_addL, oB_addT, Int.reducePow, Int.reduceNeg, or_true, true_or, ↓tryK_rt, ↓tryK_nx, tryK_exc, ↓suiteK_rtD, setO_none, setO_some, ↓ws_stoA, ↓wp_make, ↓wp_bind, ↓mthK_cnt, fCnt_eq, fBs_map, wp_ok, wp_exc, wp_of, wp_pure, ws_some, gv0, gvS, unB_bl, if_true, if_false, Bool.false_eq_true, Bool.not_true, Bool.not_false, wp_cutD, wp_cutXD,
  oC_eqI, oC_neI, oC_eqB, oC_neB, oC_lt, oC_le, oC_gt, oC_ge, oC_is, oC_isNot, oB_addI, oB_subI, lenA_tup, lenA_lst, fInt_int, fTuple_lst, asgK_some, startA, List.map_cons, List.map_nil, List.replicate, List.length_cons, List.length_nil, List.length_map, List.cons_append, List.nil_append, List.append_nil, List.set_cons_zero, List.set_cons_succ, mgTup_d, mgCons_c, mgNil_n, mgName_n, bind_some', wipeA, setAll, mLen, isN_optS, isN_optI, isN_str, isN_int, isN_tup, isN_non, loopI, true_and, and_true, and_self, Nat.reduceAdd, Nat.reduceLT, Nat.reduceLeDiff, Nat.reduceEqDiff, Nat.reduceSub, Int.reduceEq, Int.reduceLT, Int.reduceLE, Int.reduceSub, Int.reduceAdd, Int.cast_ofNat_Int, decide_true, decide_false, not_true, not_false_iff, Nat.zero_add, unD_nil, unD_cons, Option.map_some, sizeLine, Nat.reducePow, Option.isNone_none, Option.isNone_some, *])
section
variable {j k : Nat} {h h1 h2 t H H1 : AHp} {M : Mo}
theorem frz_d (H : AHp) (d : D) : frzL H (.d d) = none := rfl
theorem it_nats (l : List Nat) : itemsOf (.d (natL l)) = some (l.map fun i => .d (.int ((i : Nat) : Int))) := it_map _ l
def ob_2 (j : Nat) (M : Mo) : MS := mSeq (mAsg (mLstR (mNil)) (mgName 5)) (mSeq (mFor (mItems (mFrzQ (mVar 3))) (mgName 6) (mSeq (mExpr (mMthA M "append" 2 (mVar 5) (mCons (mTup (mCons (mVar 6) (mCons (mCB (fTuple) (mCons (mComp (mItems (mBin (oIx M) (mVar 1) (mVar 6))) (mgName 7) (mYes) (mCB (mLen 3 (fun ws => r__law_value j (ws ++ []))) (mCons (mVar 0) (mCons (mFrzQ (mVar 3)) (mCons (mVar 7) (mNil))))) [7]) (mNil))) (mNil)))) (mNil)))) (mSkip))) (mSeq (mRet (mCB (fTuple) (mCons (mVar 5) (mNil)))) (mSkip)))
def ob_b (j : Nat) (M : Mo) : MS := mSeq (mExpr (mMthA M "append" 2 (mVar 5) (mCons (mTup (mCons (mVar 6) (mCons (mCB (fTuple) (mCons (mComp (mItems (mBin (oIx M) (mVar 1) (mVar 6))) (mgName 7) (mYes) (mCB (mLen 3 (fun ws => r__law_value j (ws ++ []))) (mCons (mVar 0) (mCons (mFrzQ (mVar 3)) (mCons (mVar 7) (mNil))))) [7]) (mNil))) (mNil)))) (mNil)))) (mSkip)
theorem ob_e (j : Nat) (M : Mo) : s__law_objects j M = mSeq (mAsg (mLstRgR (mCB (lenA M) (mCons (mVar 1) (mNil)))) (mgName 3)) (mSeq (mFor (mRng1 (mCons (mCB (mLen 2 (fun ws => r__law_next j (ws ++ []))) (mCons (mVar 0) (mCons (mVar 2) (mNil)))) (mNil))) (mgName 4) (mSeq (mExpr (mMthA M "append" 2 (mVar 3) (mCons (mCB (mLen 2 (fun ws => r__law_next j (ws ++ []))) (mCons (mVar 0) (mCons (mCB (lenA M) (mCons (mVar 1) (mNil))) (mNil)))) (mNil)))) (mSkip))) (mFzs [3] (ob_2 j M))) := rfl
theorem ob_2e (j : Nat) (M : Mo) : ob_2 j M = mSeq (mAsg (mLstR (mNil)) (mgName 5)) (mSeq (mFor (mItems (mFrzQ (mVar 3))) (mgName 6) (ob_b j M)) (mSeq (mRet (mCB (fTuple) (mCons (mVar 5) (mNil)))) (mSkip))) := rfl
def DrO (o : Ob) : Prop := 1 ≤ o.2.length ∧ o.2.length ≤ 4 ∧ ∀ v ∈ o.2, ShV v
theorem ob_step (d : Dw k h) (l : Lo k h H) {K : List (List Fld)} (gk : GKs K) {sorts : List Nat} (hl : sorts.length ≤ 20) (hs : ∀ i : Nat, i < K.length → i ∈ sorts) {s : Nat} (hsK : s < K.length) {a5 : Nat} (h5 : h.length ≤ a5) {os : List Ob} (ea : H[a5]? = some (.lst ((os.map encO).map .d))) (hos : os.length ≤ 20) {x2 x4 x7 : Option W} {Q : RS → AHp → Prop}
    (fin : ∀ H' o x7, Lo k h H' → DrO o → H'[a5]? = some (.lst (((os ++ [o]).map encO).map .d)) → Q (.nx [some (.ref k), some (.d (encKs K)), x2, some (.d (natL sorts)), x4, some (.ref a5), some (.d (.int ((s : Nat) : Int))), x7]) H') :
    WS (ob_b (j + 5) (T.mo 40 (j + 5 + 1)) [some (.ref k), some (.d (encKs K)), x2, some (.d (natL sorts)), x4, some (.ref a5), some (.d (.int ((s : Nat) : Int))), x7] H) Q := by
  have hk := d.lt
  have eK : K[s]? = some K[s] := List.getElem?_eq_getElem hsK
  have e1 := ix_Ks (M := T.mo 40 (j + 5 + 1)) (h := H) eK
  have gx := Hd.mk (gk.1 K[s] (List.getElem_mem hsK))
  generalize K[s] = x at e1 gx eK
  have ix := items_K x
  have ez := fun H => frz_d H (natL sorts)
  have e2 := fun ma σ => app_ref (M := T.mo 40 (j + 5 + 1)) (n := 2) (ma := ma) (σ := σ) ea
  replace ea := Hd.mk ea
  replace fin := Hd.mk fin
  replace l := Hd.mk l
  replace d := Hd.mk d
  replace gk := Hd.mk gk
  replace hl := Hd.mk hl
  replace hs := Hd.mk hs
  clear eK
  unfold ob_b
  walk_at "wps"
  refine comp_inv (fun y : Fld => W.d (encF y)) (fun r ds H' => ∃ vs : List Vl, ds = vs.map encV ∧ (∀ v ∈ vs, ShV v) ∧ Lo k h H' ∧ H'[a5]? = some (.lst ((os.map encO).map .d)) ∧ vs.length + r.length = x.length ∧ ∀ y ∈ r, y ∈ x) ?_ ?_ x [] H ⟨[], rfl, by simp, l.of, ea.of, by simp, fun y hy => hy⟩
  · rintro y r ds H' ⟨vs, rfl, pv, l', ea', hv, hy⟩
    have gx4 := gx.of.len
    refine ⟨by rw [List.length_map]; rw [List.length_cons] at hv; exact Nat.lt_of_lt_of_le (show vs.length < 100 by omega) (by decide), _, rfl, ?_⟩
    have vo := value_ok (j := j) l'.d hl.of (gx.of.gf y (hy y List.mem_cons_self)) hs.of
    replace l' := Hd.mk l'
    replace ea' := Hd.mk ea'
    replace pv := Hd.mk pv
    replace hv := Hd.mk hv
    replace hy := Hd.mk hy
    clear e1 e2 ix gx4
    walk_at "wps"
    refine vo.imp ?_
    rintro w H2 ⟨v, rfl, sv, n⟩
    refine ⟨_, rfl, vs ++ [v], by rw [List.map_append]; rfl, fun z hz => ?_, l'.of.nx n, (n.get (by omega)).trans ea'.of, ?_, fun z hz => hy.of z (List.mem_cons_of_mem _ hz)⟩
    · rcases List.mem_append.mp hz with hz | hz
      · exact pv.of z hz
      · rw [List.mem_singleton.mp hz]; exact sv
    · have := hv.of
      rw [List.length_cons] at this
      rw [List.length_append, List.length_singleton]
      omega
  · rintro ds H' ⟨vs, rfl, pv, l', ea', hv, _⟩
    have gx4 := gx.of.len
    rw [List.length_nil, Nat.add_zero] at hv
    have e5 := fTuple_D (h := H') (vs.map encV)
    have e6 := app_eq (x := encO (((s : Nat) : Int), vs)) ea' (by rw [List.length_map]; omega)
    have hlt : a5 < H'.length := (List.getElem?_eq_some_iff.mp ea').1
    have fq := fin.of (H'.set a5 (.lst ((os.map encO ++ [encO (((s : Nat) : Int), vs)]).map .d))) (((s : Nat) : Int), vs) x7 (l'.put hk h5 (lowL _ _) (clnL _)) ⟨by show 1 ≤ vs.length; omega, by show vs.length ≤ 4; omega, pv⟩ (by
      rw [List.getElem?_set_self hlt, List.map_append (f := encO)]
      rfl)
    have eo : encO (((s : Nat) : Int), vs) = .tup [.int ((s : Nat) : Int), .tup (vs.map encV)] := rfl
    rw [eo] at e6 fq
    clear eo hlt ea' e1 e2 ix gx4 hv
    replace l' := Hd.mk l'
    replace pv := Hd.mk pv
    walk_at "wps"
end
end K02

end
section
set_option Elab.async false
set_option linter.all false
set_option maxRecDepth 100000
set_option maxHeartbeats 1000000
namespace K02
open PySem PySem.Spec PyProof.Rows L2 PM
local macro_rules | `(tactic| walk_at "wps") => `(tactic| try simp only [↓wp_fn, ↓ws_seq, ↓ws_ret, ↓ws_asg, ↓ws_if, ↓ws_expr, ↓ws_for, ↓ws_par, ↓ws_skip, ↓ws_raise, ↓ws_raiseL, ↓ws_try, ↓seqK_nx, ↓seqK_rt, ↓seqK_exc, ↓fnK_rt, ↓fnK_nx, ↓fnK_exc, ↓loopK_nx, ↓loopK_rt, ↓loopK_exc, ↓wp_var, ↓wp_c, ↓wp_bin, ↓wp_un, ↓wp_nil, ↓wp_cons, ↓wp_star, ↓wp_cb, ↓wp_b, ↓wp_notT, ↓wp_andT, ↓wp_orT, ↓wp_yes, ↓wp_andV, ↓wp_orV, ↓wp_notV, ↓wp_if, ↓wp_chain, ↓wp_neg, ↓wp_tup, ↓wp_lst, ↓wp_lstR, ↓wp_slice, ↓wp_noPart, ↓wp_part, ↓wp_comp, ↓wp_lenSc, ↓wp_frzQ, ↓wp_items, ↓wp_enum, ↓wp_rng1, ↓wp_zip, zipD_tup, zipD_lst, ↓ws_match, ws_cs1, ↓ws_cs2, ↓wp_lstRgR, ↓wp_dc2, ↓wp_comp2, ↓wp_rng3, ↓wp_lstRg1, ↓wp_mthA, ↓ws_putK, oB_mulI, oB_modI, oB_addL, oB_addT, Int.reducePow, Int.reduceNeg, or_true, true_or, ↓tryK_rt, ↓tryK_nx, tryK_exc, ↓suiteK_rtD, setO_none, setO_some, ↓ws_stoA, ↓wp_make, ↓wp_bind, ↓mthK_cnt, fCnt_eq, fBs_map, wp_ok, wp_exc, wp_of, wp_pure, ws_some, gv0, gvS, unB_bl, if_true, if_false, Bool.false_eq_true, Bool.not_true, Bool.not_false, wp_cutD, wp_cutXD,
  oC_eqI, oC_neI, oC_eqB, oC_neB, oC_lt, oC_le, oC_gt, oC_ge, oC_is, oC_isNot, oB_addI, oB_subI, lenA_tup, lenA_lst, fInt_int, fTuple_lst, asgK_some, startA, List.map_cons, List.map_nil, List.replicate, List.length_cons, List.length_nil, List.length_map, List.cons_append, List.nil_append, List.append_nil, List.set_cons_zero, List.set_cons_succ, mgTup_d, mgCons_c, mgNil_n, mgName_n, bind_some', wipeA, setAll, mLen, isN_optS, isN_optI, isN_str, isN_int, isN_tup, isN_non, loopI, true_and, and_true, and_self, Nat.reduceAdd, Nat.reduceLT, Nat.reduceLeDiff, Nat.reduceEqDiff, Nat.reduceSub, Int.reduceEq, Int.reduceLT, Int.reduceLE, Int.reduceSub, Int.reduceAdd, Int.cast_ofNat_Int, decide_true, decide_false, not_true, not_false_iff, Nat.zero_add, unD_nil, unD_cons, Option.map_some, sizeLine, Nat.reducePow, Option.isNone_none, Option.isNone_some, *])
section
variable {j k : Nat} {h h1 h2 t H H1 : AHp} {M : Mo}
theorem ob_2_ok (d : Dw k h) (l : Lo k h H) {K : List (List Fld)} (gk : GKs K) {sorts : List Nat} (h1 : 1 ≤ sorts.length) (hl : sorts.length ≤ 6) (hs : ∀ i : Nat, i < K.length → i ∈ sorts) (hb : ∀ s ∈ sorts, s < K.length) {x2 x4 x5 x6 x7 : Option W} :
    WS (ob_2 (j + 5) (T.mo 40 (j + 5 + 1)) [some (.ref k), some (.d (encKs K)), x2, some (.d (natL sorts)), x4, x5, x6, x7] H) (fnK h.length (fun w h' => ∃ os : List Ob, w = .d (encOs os) ∧ 1 ≤ os.length ∧ os.length ≤ 6 ∧ (∀ o ∈ os, DrO o) ∧ Nx k h h') E0') := by
  rw [ob_2e]
  have hk := d.lt
  have ez := frz_d (H ++ [.lst []]) (natL sorts)
  have it := it_nats sorts
  have l2 := l.pushN
  have hlen := l.len
  have ea : (H ++ [AO.lst []])[H.length]? = some (.lst ((([] : List Ob).map encO).map .d)) := get_app0
  replace gk := Hd.mk gk
  replace hs := Hd.mk hs
  replace hb := Hd.mk hb
  replace ea := Hd.mk ea
  replace l := Hd.mk l
  replace l2 := Hd.mk l2
  replace hl := Hd.mk hl
  replace h1 := Hd.mk h1
  walk_at "wps"
  refine loop_inv (fun i : Nat => W.d (.int ((i : Nat) : Int))) (fun r σ H' => Lo k h H' ∧ (∃ x6 x7, σ = [some (.ref k), some (.d (encKs K)), x2, some (.d (natL sorts)), x4, some (.ref H.length), x6, x7]) ∧ (∀ s ∈ r, s < K.length) ∧ ∃ os : List Ob, H'[H.length]? = some (.lst ((os.map encO).map .d)) ∧ (∀ o ∈ os, DrO o) ∧ os.length + r.length = sorts.length) ?_ ?_ sorts _ _ ⟨l2.of, ⟨_, _, rfl⟩, hb.of, [], ea.of, by simp, by simp⟩
  · rintro s r σ H' ⟨l', ⟨x6, x7, rfl⟩, hr, os, ea', po, hlo⟩
    refine ⟨_, rfl, ?_⟩
    rw [List.length_cons] at hlo
    have hl6 := hl.of
    refine ob_step (j := j) d l' gk.of (by omega) hs.of (hr s List.mem_cons_self) (by omega) ea' (by omega) ?_
    intro H2 o x7 l3 do_ ea3
    exact ⟨l3, ⟨_, _, rfl⟩, fun z hz => hr z (List.mem_cons_of_mem _ hz), os ++ [o], ea3, fun z hz => by
      rcases List.mem_append.mp hz with hz | hz
      · exact po z hz
      · rw [List.mem_singleton.mp hz]; exact do_, by rw [List.length_append, List.length_singleton]; omega⟩
  · rintro σ H' ⟨l', ⟨x6, x7, rfl⟩, _, os, ea', po, hlo⟩
    rw [List.length_nil, Nat.add_zero] at hlo
    have e1 := fTuple_ref ea'
    have e2 : D.tup (os.map encO) = encOs os := rfl
    rw [e2] at e1
    replace l' := Hd.mk l'
    replace po := Hd.mk po
    replace hlo := Hd.mk hlo
    clear ea' e2 ez it
    walk_at "wps"
    refine l'.of.wp d fun h' n => ⟨os, rfl, by have := hlo.of; have := h1.of; omega, by have := hlo.of; have := hl.of; omega, po.of, n⟩
theorem objects_ok' (d : Dw k h) {K : List (List Fld)} (gk : GKs K) : WP (r__law_objects (j + 6) [.ref k, .d (encKs K), .d (.int 4)] h) (fun w h' => ∃ os : List Ob, w = .d (encOs os) ∧ 1 ≤ os.length ∧ os.length ≤ 6 ∧ (∀ o ∈ os, DrO o) ∧ Nx k h h') E0' := by
  have hk := d.lt
  rw [sh__law_objects, ob_e]
  have e1 := lenA_Ks (h := h) (M := T.mo 40 (j + 5 + 1)) K
  have hr : rgOk 0 ((K.length : Nat) : Int) = true := by
    unfold rgOk
    have := gk.2.2
    simp
    omega
  have er : (rgD 0 ((K.length : Nat) : Int)).map W.d = (((List.range K.length).map fun i => D.int ((i : Nat) : Int))).map W.d := by rw [rgD_map]
  have l0 := (Lo.refl d).push ((List.range K.length).map fun i => D.int ((i : Nat) : Int))
  have ea0 : (h ++ [AO.lst (((List.range K.length).map fun i => D.int ((i : Nat) : Int)).map W.d)])[h.length]? = some (.lst (((List.range K.length).map fun i => D.int ((i : Nat) : Int)).map W.d)) := get_app0
  have k3 := gk.2
  replace gk := Hd.mk gk
  replace k3 := Hd.mk k3
  walk_at "wps"
  generalize h ++ [AO.lst (((List.range K.length).map fun i => D.int ((i : Nat) : Int)).map W.d)] = H0 at l0 ea0
  have nx := next_ok (j := j + 2) l0.d (b := 4) (by decide)
  replace ea0 := Hd.mk ea0
  clear e1 hr er
  walk_at "wps"
  refine nx.imp ?_
  rintro w h' ⟨v, rfl, v0, v1, n⟩
  have l1 := Hd.mk (l0.nx n)
  have ea1 := Hd.mk ((n.get (a := h.length) (by omega)).trans ea0.of)
  have hr : -4611686018427387904 ≤ v ∧ v < 4611686018427387904 := by omega
  have hv : v.toNat ≤ 3 := by omega
  replace hv := Hd.mk hv
  clear nx v0 v1
  walk_at "wps"
  rw [rng_map]
  refine loop_inv (fun i : Nat => W.d (.int ((i : Nat) : Int))) (fun r σ H => Lo k h H ∧ (∃ x4 x5 x6 x7, σ = [some (.ref k), some (.d (encKs K)), some (.d (.int 4)), some (.ref h.length), x4, x5, x6, x7]) ∧ ∃ sorts : List Nat, H[h.length]? = some (.lst ((sorts.map fun i => D.int ((i : Nat) : Int)).map .d)) ∧ (∀ i, i < K.length → i ∈ sorts) ∧ (∀ s ∈ sorts, s < K.length) ∧ K.length ≤ sorts.length ∧ sorts.length + r.length ≤ K.length + 3) ?_ ?_ (List.range v.toNat) _ _ ⟨l1.of, ⟨_, _, _, _, rfl⟩, List.range K.length, ea1.of, fun i hi => List.mem_range.mpr hi, fun s hs => List.mem_range.mp hs, by simp, by have := hv.of; rw [List.length_range, List.length_range]; omega⟩
  · rintro i r σ H ⟨l, ⟨x4, x5, x6, x7, rfl⟩, sorts, ea, p1, p2, p4, p3⟩
    refine ⟨_, rfl, ?_⟩
    rw [List.length_cons] at p3
    have hk3 := k3.of
    have e1 := lenA_Ks (h := H) (M := T.mo 40 (j + 5 + 1)) K
    have nx := next_ok (j := j + 2) l.d (b := (K.length : Nat)) (by omega)
    have e2 := fun ma σ => app_ref (M := T.mo 40 (j + 5 + 1)) (n := 2) (ma := ma) (σ := σ) ea
    replace ea := Hd.mk ea
    replace p1 := Hd.mk p1
    replace p2 := Hd.mk p2
    replace p3 := Hd.mk p3
    replace p4 := Hd.mk p4
    replace l := Hd.mk l
    replace hk3 := Hd.mk hk3
    walk_at "wps"
    refine nx.imp ?_
    rintro w H2 ⟨z, rfl, z0, z1, n⟩
    obtain ⟨s, rfl⟩ : ∃ s : Nat, z = ((s : Nat) : Int) := ⟨z.toNat, by omega⟩
    have l2 := l.of.nx n
    have ea2 := (n.get (a := h.length) (by omega)).trans ea.of
    have e4 := app_eq (x := .int ((s : Nat) : Int)) ea2 (by rw [List.length_map]; have := p3.of; have := hk3.of; omega)
    have hlt : h.length < H2.length := (List.getElem?_eq_some_iff.mp ea2).1
    have hs : s < K.length := by omega
    have fq : Lo k h (H2.set h.length (.lst (((sorts.map fun i => D.int ((i : Nat) : Int)) ++ [D.int ((s : Nat) : Int)]).map W.d))) ∧ (∃ y4 y5 y6 y7, ([some (.ref k), some (.d (encKs K)), some (.d (.int 4)), some (.ref h.length), some (.d (.int ((i : Nat) : Int))), x5, x6, x7] : Sl) = [some (.ref k), some (.d (encKs K)), some (.d (.int 4)), some (.ref h.length), y4, y5, y6, y7]) ∧ ∃ so : List Nat, (H2.set h.length (.lst (((sorts.map fun i => D.int ((i : Nat) : Int)) ++ [D.int ((s : Nat) : Int)]).map W.d)))[h.length]? = some (.lst ((so.map fun i => D.int ((i : Nat) : Int)).map .d)) ∧ (∀ i, i < K.length → i ∈ so) ∧ (∀ s ∈ so, s < K.length) ∧ K.length ≤ so.length ∧ so.length + r.length ≤ K.length + 3 := by
      have q1 := p1.of
      have q2 := p2.of
      have q3 := p3.of
      have q4 := p4.of
      refine ⟨l2.put hk (Nat.le_refl _) (lowL _ _) (clnL _), ⟨_, _, _, _, rfl⟩, sorts ++ [s], ?_, fun i hi => List.mem_append_left _ (q1 i hi), fun z hz => ?_, ?_, ?_⟩
      · rw [List.getElem?_set_self hlt, List.map_append (f := fun i : Nat => D.int ((i : Nat) : Int))]
        rfl
      · rcases List.mem_append.mp hz with hz | hz
        · exact q2 z hz
        · rw [List.mem_singleton.mp hz]; exact hs
      · rw [List.length_append]; omega
      · rw [List.length_append, List.length_singleton]; omega
    replace fq := Hd.mk fq
    clear z0 z1 ea2 hlt hs e1 e2 nx
    walk_at "wps"
    exact fq.of
  · rintro σ H ⟨l, ⟨x4, x5, x6, x7, rfl⟩, sorts, ea, p1, p2, p4, p3⟩
    rw [List.length_nil, Nat.add_zero] at p3
    have hk3 := k3.of
    have ez := fun m => fz_ref (m := m) (i := 3) (σ := [some (.ref k), some (.d (encKs K)), some (.d (.int 4)), some (.ref h.length), x4, x5, x6, x7]) rfl ea
    have l2 : Lo k h (H.set h.length .dead) := l.put hk (Nat.le_refl _) rfl rfl
    show WS (mFzs [3] (ob_2 (j + 5) (T.mo 40 (j + 5 + 1))) _ H) _
    rw [WS, ez]
    exact ob_2_ok (j := j) d l2 gk.of (by omega) (by omega) p1 p2
end
end K02

end
section
set_option Elab.async false
set_option linter.all false
set_option maxRecDepth 100000
set_option maxHeartbeats 1000000
namespace K02
open PySem PySem.Spec PyProof.Rows L2 PM
local macro_rules | `(tactic| walk_at "wps") => `(tactic| try simp only [↓wp_fn, ↓ws_seq, ↓ws_ret, ↓ws_asg, ↓ws_if, ↓ws_expr, ↓ws_for, ↓ws_par, ↓ws_skip, ↓ws_raise, ↓ws_raiseL, ↓ws_try, ↓seqK_nx, ↓seqK_rt, ↓seqK_exc, ↓fnK_rt, ↓fnK_nx, ↓fnK_exc, ↓loopK_nx, ↓loopK_rt, ↓loopK_exc, ↓wp_var, ↓wp_c, ↓wp_bin, ↓wp_un, ↓wp_nil, ↓wp_cons, ↓wp_star, ↓wp_cb, ↓wp_b, ↓wp_notT, ↓wp_andT, ↓wp_orT, ↓wp_yes, ↓wp_andV, ↓wp_orV, ↓wp_notV, ↓wp_if, ↓wp_chain, ↓wp_neg, ↓wp_tup, ↓wp_lst, ↓wp_lstR, ↓wp_slice, ↓wp_noPart, ↓wp_part, ↓wp_comp, ↓wp_lenSc, ↓wp_frzQ, ↓wp_items, ↓wp_enum, ↓wp_rng1, ↓wp_zip, zipD_tup, zipD_lst, ↓ws_match, ws_cs1, ↓ws_cs2, ↓wp_lstRgR, ↓wp_dc2, ↓wp_comp2, ↓wp_rng3, ↓wp_lstRg1, ↓wp_mthA, ↓ws_putK, oB_mulI, oB_modI, oB_addL, oB_addT, Int.reducePow, Int.reduceNeg, or_true, true_or, ↓tryK_rt, ↓tryK_nx, tryK_exc, ↓suiteK_rtD, setO_none, setO_some, ↓ws_stoA, ↓wp_make, ↓wp_bind, ↓mthK_cnt, fCnt_eq, fBs_map, wp_ok, wp_exc, wp_of, wp_pure, ws_some, gv0, gvS, unB_bl, if_true, if_false, Bool.false_eq_true, Bool.not_true, Bool.not_false, wp_cutD, wp_cutXD,
  oC_eqI, oC_neI, oC_eqB, oC_neB, oC_lt, oC_le, oC_gt, oC_ge, oC_is, oC_isNot, oB_addI, oB_subI, lenA_tup, lenA_lst, fInt_int, fTuple_lst, asgK_some, startA, List.map_cons, List.map_nil, List.replicate, List.length_cons, List.length_nil, List.length_map, List.cons_append, List.nil_append, List.append_nil, List.set_cons_zero, List.set_cons_succ, mgTup_d, mgCons_c, mgNil_n, mgName_n, bind_some', wipeA, setAll, mLen, isN_optS, isN_optI, isN_str, isN_int, isN_tup, isN_non, loopI, true_and, and_true, and_self, Nat.reduceAdd, Nat.reduceLT, Nat.reduceLeDiff, Nat.reduceEqDiff, Nat.reduceSub, Int.reduceEq, Int.reduceLT, Int.reduceLE, Int.reduceSub, Int.reduceAdd, Int.cast_ofNat_Int, decide_true, decide_false, not_true, not_false_iff, Nat.zero_add, unD_nil, unD_cons, Option.map_some, sizeLine, Nat.reducePow, Option.isNone_none, Option.isNone_some, *])
section
variable {j k : Nat} {h h1 h2 t H H1 : AHp} {M : Mo}
theorem cut_take {α : Type} (xs : List α) (a : Nat) : cutL xs none (some (a : Nat)) = xs.take a := by
  unfold cutL
  rw [HT.sIx_nat, HT.sIx_none, List.drop_zero, Nat.sub_zero]
  rw [Nat.min_def]
  split
  · rfl
  · rw [List.take_of_length_le (by omega), List.take_of_length_le (by omega)]
theorem cut_drop {α : Type} (xs : List α) (a : Nat) : cutL xs (some (a : Nat)) none = xs.drop a := by
  unfold cutL
  rw [HT.sIx_nat, HT.sIx_none, List.take_of_length_le (by rw [List.length_drop]; omega)]
  rw [Nat.min_def]
  split
  · rfl
  · rw [List.drop_of_length_le (by omega), List.drop_of_length_le (by omega)]
def mpT {α : Type} (f : α → D) (l : List α) : D := .tup (l.map f)
theorem encOs_mp (os : List Ob) : encOs os = mpT encO os := rfl
section
variable {α : Type} {f : α → D}
theorem slT_take (l : List α) (a : Nat) : fSl (.d (mpT f l)) none (some ((a : Nat) : Int)) h = some (.ok (.d (mpT f (l.take a))), h) := by
  show some (R.ok (W.d (.tup (cutL (l.map f) none (some (a : Nat))))), h) = _
  rw [cut_take, ← List.map_take]
  rfl
theorem slT_drop (l : List α) (a : Nat) : fSl (.d (mpT f l)) (some (((a : Nat) : Int) + 1)) none h = some (.ok (.d (mpT f (l.drop (a + 1)))), h) := by
  have e : (((a : Nat) : Int) + 1) = ((a + 1 : Nat) : Int) := by omega
  rw [e]
  show some (R.ok (W.d (.tup (cutL (l.map f) (some ((a + 1 : Nat) : Int)) none))), h) = _
  rw [cut_drop, ← List.map_drop]
  rfl
theorem slT_one (l : List α) : fSl (.d (mpT f l)) (some 1) none h = some (.ok (.d (mpT f (l.drop 1))), h) := slT_drop l 0
theorem slT_last (l : List α) : ∃ n, fSl (.d (mpT f l)) none (some (-1)) h = some (.ok (.d (mpT f (l.take n))), h) := by
  refine ⟨HT.sIx (l.map f).length (l.map f).length (some (-1)), ?_⟩
  show some (R.ok (W.d (.tup (cutL (l.map f) none (some (-1))))), h) = _
  unfold cutL
  rw [HT.sIx_none, List.drop_zero, Nat.sub_zero, ← List.map_take]
  rfl
theorem addTT (a b : List α) (c : a.length + b.length ≤ 100) : oB M .Add (.d (mpT f a)) (.d (mpT f b)) h = some (.ok (.d (mpT f (a ++ b))), h) := by
  show oB M .Add (.d (.tup (a.map f))) (.d (.tup (b.map f))) h = _
  rw [oB_addT _ _ (szLine (by simp; omega)), ← List.map_append]
  rfl
theorem addT1 (a : List α) (x : α) (c : a.length ≤ 99) : oB M .Add (.d (mpT f a)) (.d (.tup [f x])) h = some (.ok (.d (mpT f (a ++ [x]))), h) := addTT a [x] (by simp; omega)
theorem mulT {l : List α} (c : l.length ≤ 1000) {z : Int} (h0 : 0 ≤ z) (h1 : z ≤ 1000) : oB M .Mult (.d (mpT f l)) (.d (.int z)) h = some (.ok (.d (mpT f (List.replicate z.toNat l).flatten)), h) := by
  show mOf (if -1000 ≤ z ∧ z ≤ 1000 ∧ (l.map f).length ≤ 1000 then some (W.d (.tup (List.replicate z.toNat (l.map f)).flatten)) else none) h = _
  rw [if_pos ⟨by omega, h1, by simp; omega⟩]
  show some (R.ok (W.d (.tup (List.replicate z.toNat (l.map f)).flatten)), h) = _
  unfold mpT
  rw [List.map_flatten, List.map_replicate]
end
def ChO (k : Nat) (h : AHp) : W → AHp → Prop := fun w h' => ∃ os' : List Ob, w = .d (encOs os') ∧ ShOs os' ∧ Nx k h h'
theorem DrO.sh {o : Ob} (d : DrO o) : ShO o := ⟨by have := d.2.1; omega, d.2.2⟩
theorem shOs_set {os : List Ob} (hl : os.length ≤ 6) (dr : ∀ o ∈ os, DrO o) (a : Nat) {o : Ob} (so : ShO o) : ShOs (os.take a ++ [o] ++ os.drop (a + 1)) := by
  refine ⟨by simp; omega, fun z hz => ?_⟩
  rw [List.mem_append, List.mem_append, List.mem_singleton] at hz
  rcases hz with (hz | rfl) | hz
  · exact (dr z (List.mem_of_mem_take hz)).sh
  · exact so
  · exact (dr z (List.mem_of_mem_drop hz)).sh
def chE (j : Nat) (M : Mo) : MS := (mSeq (mRet (mBin (oB M .Add) (mBin (oB M .Add) (mSlice (mVar 1) (mNoPart) (mPart (mVar 2))) (mTup (mCons (mVar 8) (mNil)))) (mSlice (mVar 1) (mPart (mBin (oB M .Add) (mVar 2) (mC (.int (1))))) (mNoPart)))) (mSkip))
theorem chE_ok (d : Dw k h) (l : Lo k h H) {os : List Ob} (hl : os.length ≤ 6) (dr : ∀ o ∈ os, DrO o) {a : Nat} {o : Ob} (so : ShO o) {w3 w4 w5 w6 w7 w9 : Option W} :
    WS (chE (j + 4) (T.mo 40 (j + 4 + 1)) [some (.ref k), some (.d (encOs os)), some (.d (.int (a : Nat))), w3, w4, w5, w6, w7, some (.d (encO o)), w9] H) (fnK h.length (ChO k h) E0') := by
  have sh := shOs_set hl dr a so
  rw [encOs_mp]
  have e1 := slT_take (h := H) (f := encO) os a
  have e2 := slT_drop (h := H) (f := encO) os a
  have e3 := addT1 (h := H) (f := encO) (M := T.mo 40 (j + 4 + 1)) (os.take a) o (by simp; omega)
  have e4 := addTT (h := H) (f := encO) (M := T.mo 40 (j + 4 + 1)) (os.take a ++ [o]) (os.drop (a + 1)) (by simp; omega)
  generalize os.take a ++ [o] ++ os.drop (a + 1) = os' at sh e4
  generalize os.take a ++ [o] = os1 at e3 e4
  unfold chE
  clear hl dr so
  replace l := Hd.mk l
  replace sh := Hd.mk sh
  walk_at "wps"
  exact l.of.wp d fun h' nx => ⟨os', rfl, sh.of, nx⟩
theorem ch_e (j : Nat) (M : Mo) : s__law_changed j M = mSeq (mAsg (mCB (mLen 2 (fun ws => r__law_next j (ws ++ []))) (mCons (mVar 0) (mCons (mCB (lenA M) (mCons (mVar 1) (mNil))) (mNil)))) (mgName 2)) (mSeq (mAsg (mBin (oIx M) (mVar 1) (mVar 2)) (mgTup (mgCons (mgName 4) (mgCons (mgName 5) (mgNil))) 2)) (mSeq (mPar [6, 7] (mCons (mCB (mLen 2 (fun ws => r__law_next j (ws ++ []))) (mCons (mVar 0) (mCons (mC (.int (5))) (mNil)))) (mCons (mCB (mLen 2 (fun ws => r__law_pick j (ws ++ []))) (mCons (mVar 0) (mCons (mLst (mCons (mC (.int (0))) (mCons (mC (.int (1))) (mCons (mC (.int (2))) (mCons (mC (.int (3))) (mCons (mC (.int (5))) (mCons (mC (.int (9))) (mCons (mC (.int (10))) (mCons (mNeg (mC (.int (1)))) (mNil)))))))))) (mNil)))) (mNil)))) (mSeq (mAsg (mCB (mLen 2 (fun ws => r__law_next j (ws ++ []))) (mCons (mVar 0) (mCons (mCB (lenA M) (mCons (mVar 5) (mNil))) (mNil)))) (mgName 3)) (mSeq (mIfS (mB (mBin (oC M .Eq) (mVar 6) (mC (.int (0))))) (mSeq (mAsg (mTup (mCons (mCB (mLen 2 (fun ws => r__law_pick j (ws ++ []))) (mCons (mVar 0) (mCons (mLst (mCons (mC (.int (0))) (mCons (mC (.int (1))) (mCons (mC (.int (2))) (mCons (mC (.int (3))) (mNil)))))) (mNil)))) (mCons (mVar 5) (mNil)))) (mgName 8)) (mSkip)) (mSeq (mIfS (mB (mBin (oC M .Eq) (mVar 6) (mC (.int (1))))) (mSeq (mAsg (mTup (mCons (mVar 4) (mCons (mIf (mB (mBin (oC M .Eq) (mCB (mLen 2 (fun ws => r__law_next j (ws ++ []))) (mCons (mVar 0) (mCons (mC (.int (2))) (mNil)))) (mC (.int (0))))) (mSlice (mVar 5) (mNoPart) (mPart (mNeg (mC (.int (1)))))) (mBin (oB M .Add) (mVar 5) (mTup (mCons (mC (.int (0))) (mNil))))) (mNil)))) (mgName 8)) (mSkip)) (mSeq (mIfS (mB (mBin (oC M .Eq) (mVar 6) (mC (.int (2))))) (mSeq (mAsg (mTup (mCons (mVar 4) (mCons (mBin (oB M .Add) (mBin (oB M .Add) (mSlice (mVar 5) (mNoPart) (mPart (mVar 3))) (mTup (mCons (mVar 7) (mNil)))) (mSlice (mVar 5) (mPart (mBin (oB M .Add) (mVar 3) (mC (.int (1))))) (mNoPart))) (mNil)))) (mgName 8)) (mSkip)) (mSeq (mIfS (mB (mBin (oC M .Eq) (mVar 6) (mC (.int (3))))) (mSeq (mAsg (mBin (oB M .Mult) (mTup (mCons (mVar 7) (mNil))) (mCB (mLen 2 (fun ws => r__law_next j (ws ++ []))) (mCons (mVar 0) (mCons (mC (.int (5))) (mNil))))) (mgName 9)) (mSeq (mAsg (mTup (mCons (mVar 4) (mCons (mBin (oB M .Add) (mBin (oB M .Add) (mSlice (mVar 5) (mNoPart) (mPart (mVar 3))) (mTup (mCons (mVar 9) (mNil)))) (mSlice (mVar 5) (mPart (mBin (oB M .Add) (mVar 3) (mC (.int (1))))) (mNoPart))) (mNil)))) (mgName 8)) (mSkip))) (mSeq (mRet (mIf (mB (mBin (oC M .Eq) (mCB (mLen 2 (fun ws => r__law_next j (ws ++ []))) (mCons (mVar 0) (mCons (mC (.int (2))) (mNil)))) (mC (.int (0))))) (mBin (oB M .Mult) (mVar 1) (mC (.int (4)))) (mSlice (mVar 1) (mPart (mC (.int (1)))) (mNoPart)))) (mSkip))) (mSkip))) (mSkip))) (mSkip))) (chE j M))))) := rfl
end
end K02

end
section
set_option Elab.async false
set_option linter.all false
set_option maxRecDepth 100000
set_option maxHeartbeats 1000000
namespace K02
open PySem PySem.Spec PyProof.Rows L2 PM
local macro_rules | `(tactic| walk_at "wps") => `(tactic| try simp only [↓wp_fn, ↓ws_seq, ↓ws_ret, ↓ws_asg, ↓ws_if, ↓ws_expr, ↓ws_for, ↓ws_par, ↓ws_skip, ↓ws_raise, ↓ws_raiseL, ↓ws_try, ↓seqK_nx, ↓seqK_rt, ↓seqK_exc, ↓fnK_rt, ↓fnK_nx, ↓fnK_exc, ↓loopK_nx, ↓loopK_rt, ↓loopK_exc, ↓wp_var, ↓wp_c, ↓wp_bin, ↓wp_un, ↓wp_nil, ↓wp_cons, ↓wp_star, ↓wp_cb, ↓wp_b, ↓wp_notT, ↓wp_andT, ↓wp_orT, ↓wp_yes, ↓wp_andV, ↓wp_orV, ↓wp_notV, ↓wp_if, ↓wp_chain, ↓wp_neg, ↓wp_tup, ↓wp_lst, ↓wp_lstR, ↓wp_slice, ↓wp_noPart, ↓wp_part, ↓wp_comp, ↓wp_lenSc, ↓wp_frzQ, ↓wp_items, ↓wp_enum, ↓wp_rng1, ↓wp_zip, zipD_tup, zipD_lst, ↓ws_match, ws_cs1, ↓ws_cs2, ↓wp_lstRgR, ↓wp_dc2, ↓wp_comp2, ↓wp_rng3, ↓wp_lstRg1, ↓wp_mthA, ↓ws_putK, oB_mulI, oB_modI, oB_addL, oB_addT, Int.reducePow, Int.reduceNeg, or_true, true_or, ↓tryK_rt, ↓tryK_nx, tryK_exc, ↓suiteK_rtD, setO_none, setO_some, ↓ws_stoA, ↓wp_make, ↓wp_bind, ↓mthK_cnt, fCnt_eq, fBs_map, wp_ok, wp_exc, wp_of, wp_pure, ws_some, gv0, gvS, unB_bl, if_true, if_false, Bool.false_eq_true, Bool.not_true, Bool.not_false, wp_cutD, wp_cutXD,
  oC_eqI, oC_neI, oC_eqB, oC_neB, oC_lt, oC_le, oC_gt, oC_ge, oC_is, oC_isNot, oB_addI, oB_subI, lenA_tup, lenA_lst, fInt_int, fTuple_lst, asgK_some, startA, List.map_cons, List.map_nil, List.replicate, List.length_cons, List.length_nil, List.length_map, List.cons_append, List.nil_append, List.append_nil, List.set_cons_zero, List.set_cons_succ, mgTup_d, mgCons_c, mgNil_n, mgName_n, bind_some', wipeA, setAll, mLen, isN_optS, isN_optI, isN_str, isN_int, isN_tup, isN_non, loopI, true_and, and_true, and_self, Nat.reduceAdd, Nat.reduceLT, Nat.reduceLeDiff, Nat.reduceEqDiff, Nat.reduceSub, Int.reduceEq, Int.reduceLT, Int.reduceLE, Int.reduceSub, Int.reduceAdd, Int.cast_ofNat_Int, decide_true, decide_false, not_true, not_false_iff, Nat.zero_add, unD_nil, unD_cons, Option.map_some, sizeLine, Nat.reducePow, Option.isNone_none, Option.isNone_some, *])
section
variable {j k : Nat} {h h1 h2 t H H1 : AHp} {M : Mo}
theorem shO_set {vs : List Vl} (hl : vs.length ≤ 4) (dr : ∀ v ∈ vs, ShV v) (a : Nat) {v : Vl} (so : ShV v) (i : Int) : ShO (i, vs.take a ++ [v] ++ vs.drop (a + 1)) := by
  refine ⟨by show (vs.take a ++ [v] ++ vs.drop (a + 1)).length ≤ 20; simp; omega, fun z hz => ?_⟩
  rw [List.mem_append, List.mem_append, List.mem_singleton] at hz
  rcases hz with (hz | rfl) | hz
  · exact dr z (List.mem_of_mem_take hz)
  · exact so
  · exact dr z (List.mem_of_mem_drop hz)
def ch4 (j : Nat) (M : Mo) : MS := (mIfS (mB (mBin (oC M .Eq) (mVar 6) (mC (.int (0))))) (mSeq (mAsg (mTup (mCons (mCB (mLen 2 (fun ws => r__law_pick j (ws ++ []))) (mCons (mVar 0) (mCons (mLst (mCons (mC (.int (0))) (mCons (mC (.int (1))) (mCons (mC (.int (2))) (mCons (mC (.int (3))) (mNil)))))) (mNil)))) (mCons (mVar 5) (mNil)))) (mgName 8)) (mSkip)) (mSeq (mIfS (mB (mBin (oC M .Eq) (mVar 6) (mC (.int (1))))) (mSeq (mAsg (mTup (mCons (mVar 4) (mCons (mIf (mB (mBin (oC M .Eq) (mCB (mLen 2 (fun ws => r__law_next j (ws ++ []))) (mCons (mVar 0) (mCons (mC (.int (2))) (mNil)))) (mC (.int (0))))) (mSlice (mVar 5) (mNoPart) (mPart (mNeg (mC (.int (1)))))) (mBin (oB M .Add) (mVar 5) (mTup (mCons (mC (.int (0))) (mNil))))) (mNil)))) (mgName 8)) (mSkip)) (mSeq (mIfS (mB (mBin (oC M .Eq) (mVar 6) (mC (.int (2))))) (mSeq (mAsg (mTup (mCons (mVar 4) (mCons (mBin (oB M .Add) (mBin (oB M .Add) (mSlice (mVar 5) (mNoPart) (mPart (mVar 3))) (mTup (mCons (mVar 7) (mNil)))) (mSlice (mVar 5) (mPart (mBin (oB M .Add) (mVar 3) (mC (.int (1))))) (mNoPart))) (mNil)))) (mgName 8)) (mSkip)) (mSeq (mIfS (mB (mBin (oC M .Eq) (mVar 6) (mC (.int (3))))) (mSeq (mAsg (mBin (oB M .Mult) (mTup (mCons (mVar 7) (mNil))) (mCB (mLen 2 (fun ws => r__law_next j (ws ++ []))) (mCons (mVar 0) (mCons (mC (.int (5))) (mNil))))) (mgName 9)) (mSeq (mAsg (mTup (mCons (mVar 4) (mCons (mBin (oB M .Add) (mBin (oB M .Add) (mSlice (mVar 5) (mNoPart) (mPart (mVar 3))) (mTup (mCons (mVar 9) (mNil)))) (mSlice (mVar 5) (mPart (mBin (oB M .Add) (mVar 3) (mC (.int (1))))) (mNoPart))) (mNil)))) (mgName 8)) (mSkip))) (mSeq (mRet (mIf (mB (mBin (oC M .Eq) (mCB (mLen 2 (fun ws => r__law_next j (ws ++ []))) (mCons (mVar 0) (mCons (mC (.int (2))) (mNil)))) (mC (.int (0))))) (mBin (oB M .Mult) (mVar 1) (mC (.int (4)))) (mSlice (mVar 1) (mPart (mC (.int (1)))) (mNoPart)))) (mSkip))) (mSkip))) (mSkip))) (mSkip)))
theorem ch_e' (j : Nat) (M : Mo) : s__law_changed j M = mSeq (mAsg (mCB (mLen 2 (fun ws => r__law_next j (ws ++ []))) (mCons (mVar 0) (mCons (mCB (lenA M) (mCons (mVar 1) (mNil))) (mNil)))) (mgName 2)) (mSeq (mAsg (mBin (oIx M) (mVar 1) (mVar 2)) (mgTup (mgCons (mgName 4) (mgCons (mgName 5) (mgNil))) 2)) (mSeq (mPar [6, 7] (mCons (mCB (mLen 2 (fun ws => r__law_next j (ws ++ []))) (mCons (mVar 0) (mCons (mC (.int (5))) (mNil)))) (mCons (mCB (mLen 2 (fun ws => r__law_pick j (ws ++ []))) (mCons (mVar 0) (mCons (mLst (mCons (mC (.int (0))) (mCons (mC (.int (1))) (mCons (mC (.int (2))) (mCons (mC (.int (3))) (mCons (mC (.int (5))) (mCons (mC (.int (9))) (mCons (mC (.int (10))) (mCons (mNeg (mC (.int (1)))) (mNil)))))))))) (mNil)))) (mNil)))) (mSeq (mAsg (mCB (mLen 2 (fun ws => r__law_next j (ws ++ []))) (mCons (mVar 0) (mCons (mCB (lenA M) (mCons (mVar 5) (mNil))) (mNil)))) (mgName 3)) (mSeq (ch4 j M) (chE j M))))) := rfl
theorem flat_len {α : Type} (l : List α) (n : Nat) : (List.replicate n l).flatten.length = n * l.length := by
  induction n with
  | zero => simp
  | succ n ih => rw [List.replicate_succ, List.flatten_cons, List.length_append, ih, Nat.succ_mul]; omega
theorem flat_mem {α : Type} {l : List α} {n : Nat} {x : α} (m : x ∈ (List.replicate n l).flatten) : x ∈ l := by
  obtain ⟨y, hy, hx⟩ := List.mem_flatten.mp m
  rw [List.eq_of_mem_replicate hy] at hx
  exact hx
theorem sh_mul {os : List Ob} (hl : os.length ≤ 6) (dr : ∀ o ∈ os, DrO o) : ShOs (List.replicate (4 : Int).toNat os).flatten := ⟨by rw [flat_len]; show 4 * os.length ≤ 24; omega, fun o ho => (dr o (flat_mem ho)).sh⟩
theorem sh_drop {os : List Ob} (hl : os.length ≤ 6) (dr : ∀ o ∈ os, DrO o) : ShOs (os.drop 1) := ⟨by simp; omega, fun o ho => (dr o (List.mem_of_mem_drop ho)).sh⟩
theorem ch4_ok (d : Dw k h) (l : Lo k h H) {os : List Ob} (hl : os.length ≤ 6) (dr : ∀ o ∈ os, DrO o) {a : Nat} {i : Int} {vs : List Vl} (h1 : 1 ≤ vs.length) (hv : vs.length ≤ 4) (sv : ∀ v ∈ vs, ShV v) {s : Nat} {z x : Int} (z0 : 0 ≤ z) (z5 : z < 5) {w8 w9 : Option W} :
    WS (ch4 (j + 4) (T.mo 40 (j + 4 + 1)) [some (.ref k), some (.d (mpT encO os)), some (.d (.int (a : Nat))), some (.d (.int (s : Nat))), some (.d (.int i)), some (.d (mpT encV vs)), some (.d (.int z)), some (.d (.int x)), w8, w9] H) (seqK (chE (j + 4) (T.mo 40 (j + 4 + 1))) (fnK h.length (ChO k h) E0')) := by
  unfold ch4
  have hk := d.lt
  replace dr := Hd.mk dr
  replace sv := Hd.mk sv
  replace hl := Hd.mk hl
  replace hv := Hd.mk hv
  have : z = 0 ∨ z = 1 ∨ z = 2 ∨ z = 3 ∨ z = 4 := by omega
  rcases this with rfl | rfl | rfl | rfl | rfl
  · have pk := pick_ok (j := j) l.d (ds := [.int 0, .int 1, .int 2, .int 3]) (by simp)
    replace l := Hd.mk l
    walk_at "wps"
    refine pk.imp ?_
    rintro w h' ⟨y, hy, rfl, n⟩
    obtain ⟨i', rfl⟩ : ∃ i' : Int, y = .int i' := by
      simp at hy
      rcases hy with rfl | rfl | rfl | rfl <;> exact ⟨_, rfl⟩
    clear pk hy
    replace n := Hd.mk n
    walk_at "wps"
    exact chE_ok (j := j) d (l.of.nx n.of) hl.of dr.of (a := a) (o := (i', vs)) ⟨Nat.le_trans hv.of (by decide), sv.of⟩
  · have nx := next_ok (j := j + 1) l.d (b := 2) (by decide)
    replace l := Hd.mk l
    walk_at "wps"
    refine nx.imp ?_
    rintro w h' ⟨y, rfl, y0, y1, n⟩
    replace n := Hd.mk n
    have : y = 0 ∨ y = 1 := by omega
    clear nx
    rcases this with rfl | rfl
    · obtain ⟨q, e1⟩ := slT_last (h := h') (f := encV) vs
      walk_at "wps"
      exact chE_ok (j := j) d (l.of.nx n.of) hl.of dr.of (a := a) (o := (i, vs.take q)) ⟨Nat.le_trans (Nat.le_trans (List.length_take_le' _ _) hv.of) (by decide), fun v m => sv.of v (List.mem_of_mem_take m)⟩
    · have e1 := addT1 (h := h') (f := encV) (M := T.mo 40 (j + 4 + 1)) vs (.one 0) (Nat.le_trans hv.of (by decide))
      have e2 : encV (.one 0) = .int 0 := rfl
      rw [e2] at e1
      clear e2
      walk_at "wps"
      exact chE_ok (j := j) d (l.of.nx n.of) hl.of dr.of (a := a) (o := (i, vs ++ [.one 0])) ⟨by
        show (vs ++ [Vl.one 0]).length ≤ 20
        have := hv.of
        rw [List.length_append, List.length_singleton]; omega, fun v m => by
        rcases List.mem_append.mp m with m | m
        · exact sv.of v m
        · rw [List.mem_singleton.mp m]; trivial⟩
  · have e1 := slT_take (h := H) (f := encV) vs s
    have e2 := slT_drop (h := H) (f := encV) vs s
    have e3 := addT1 (h := H) (f := encV) (M := T.mo 40 (j + 4 + 1)) (vs.take s) (.one x) (by have := hv.of; simp; omega)
    have e4 := addTT (h := H) (f := encV) (M := T.mo 40 (j + 4 + 1)) (vs.take s ++ [.one x]) (vs.drop (s + 1)) (by have := hv.of; simp; omega)
    have so := Hd.mk (shO_set hv.of sv.of s (v := .one x) trivial i)
    have e5 : encV (.one x) = .int x := rfl
    rw [e5] at e3
    clear e5
    generalize vs.take s ++ [.one x] ++ vs.drop (s + 1) = vs' at e4 so
    generalize vs.take s ++ [.one x] = vs1 at e3 e4
    replace l := Hd.mk l
    walk_at "wps"
    exact chE_ok (j := j) d l.of hl.of dr.of (a := a) (o := (i, vs')) so.of
  · have nx := next_ok (j := j + 1) l.d (b := 5) (by decide)
    replace l := Hd.mk l
    walk_at "wps"
    refine nx.imp ?_
    rintro w h' ⟨y, rfl, y0, y1, n⟩
    replace n := Hd.mk n
    have e0 := mulT (h := h') (f := D.int) (M := T.mo 40 (j + 4 + 1)) (l := [x]) (by simp) (z := y) y0 (by omega)
    have ev : mpT D.int [x] = .tup [.int x] := rfl
    rw [ev] at e0
    have hz : ShV (.many (List.replicate y.toNat [x]).flatten) := by
      show (List.replicate y.toNat [x]).flatten.length ≤ 20
      rw [flat_len, List.length_singleton]
      omega
    generalize (List.replicate y.toNat [x]).flatten = is at e0 hz
    have e1 := slT_take (h := h') (f := encV) vs s
    have e2 := slT_drop (h := h') (f := encV) vs s
    have e3 := addT1 (h := h') (f := encV) (M := T.mo 40 (j + 4 + 1)) (vs.take s) (.many is) (by have := hv.of; simp; omega)
    have e4 := addTT (h := h') (f := encV) (M := T.mo 40 (j + 4 + 1)) (vs.take s ++ [.many is]) (vs.drop (s + 1)) (by have := hv.of; simp; omega)
    have so := Hd.mk (shO_set hv.of sv.of s (v := .many is) hz i)
    have e5 : encV (.many is) = mpT D.int is := rfl
    rw [e5] at e3
    clear e5 ev nx y0 y1 hz
    generalize vs.take s ++ [.many is] ++ vs.drop (s + 1) = vs' at e4 so
    generalize vs.take s ++ [.many is] = vs1 at e3 e4
    walk_at "wps"
    exact chE_ok (j := j) d (l.of.nx n.of) hl.of dr.of (a := a) (o := (i, vs')) so.of
  · have nx := next_ok (j := j + 1) l.d (b := 2) (by decide)
    replace l := Hd.mk l
    walk_at "wps"
    refine nx.imp ?_
    rintro w h' ⟨y, rfl, y0, y1, n⟩
    replace n := Hd.mk n
    have : y = 0 ∨ y = 1 := by omega
    clear nx
    rcases this with rfl | rfl
    · have e1 := mulT (h := h') (f := encO) (M := T.mo 40 (j + 4 + 1)) (l := os) (Nat.le_trans hl.of (by decide)) (z := 4) (by decide) (by decide)
      have so := Hd.mk (sh_mul hl.of dr.of)
      generalize (List.replicate (4 : Int).toNat os).flatten = os' at e1 so
      walk_at "wps"
      exact (l.of.nx n.of).wp d fun h' nx => ⟨os', rfl, so.of, nx⟩
    · have e1 := slT_one (h := h') (f := encO) os
      have so := Hd.mk (sh_drop hl.of dr.of)
      generalize os.drop 1 = os' at e1 so
      walk_at "wps"
      exact (l.of.nx n.of).wp d fun h' nx => ⟨os', rfl, so.of, nx⟩
end
end K02

end
section
set_option Elab.async false
set_option linter.all false
set_option maxRecDepth 100000
set_option maxHeartbeats 1000000
namespace K02
open PySem PySem.Spec PyProof.Rows L2 PM
local macro_rules | `(tactic| walk_at "wps") => `(tactic| try simp only [↓wp_fn, ↓ws_seq, ↓ws_ret, ↓ws_asg, ↓ws_if, ↓ws_expr, ↓ws_for, ↓ws_par, ↓ws_skip, ↓ws_raise, ↓ws_raiseL, ↓ws_try, ↓seqK_nx, ↓seqK_rt, ↓seqK_exc, ↓fnK_rt, ↓fnK_nx, ↓fnK_exc, ↓loopK_nx, ↓loopK_rt, ↓loopK_exc, ↓wp_var, ↓wp_c, ↓wp_bin, ↓wp_un, ↓wp_nil, ↓wp_cons, ↓wp_star, ↓wp_cb, ↓wp_b, ↓wp_notT, ↓wp_andT, ↓wp_orT, ↓wp_yes, ↓wp_andV, ↓wp_orV, ↓wp_notV, ↓wp_if, ↓wp_chain, ↓wp_neg, ↓wp_tup, ↓wp_lst, ↓wp_lstR, ↓wp_slice, ↓wp_noPart, ↓wp_part, ↓wp_comp, ↓wp_lenSc, ↓wp_frzQ, ↓wp_items, ↓wp_enum, ↓wp_rng1, ↓wp_zip, zipD_tup, zipD_lst, ↓ws_match, ws_cs1, ↓ws_cs2, ↓wp_lstRgR, ↓wp_dc2, ↓wp_comp2, ↓wp_rng3, ↓wp_lstRg1, ↓wp_mthA, ↓ws_putK, oB_mulI, oB_modI, oB_addL, oB_addT, Int.reducePow, Int.reduceNeg, or_true, true_or, ↓tryK_rt, ↓tryK_nx, tryK_exc, ↓suiteK_rtD, setO_none, setO_some, ↓ws_stoA, ↓wp_make, ↓wp_bind, ↓mthK_cnt, fCnt_eq, fBs_map, wp_ok, wp_exc, wp_of, wp_pure, ws_some, gv0, gvS, unB_bl, if_true, if_false, Bool.false_eq_true, Bool.not_true, Bool.not_false, wp_cutD, wp_cutXD,
  oC_eqI, oC_neI, oC_eqB, oC_neB, oC_lt, oC_le, oC_gt, oC_ge, oC_is, oC_isNot, oB_addI, oB_subI, lenA_tup, lenA_lst, fInt_int, fTuple_lst, asgK_some, startA, List.map_cons, List.map_nil, List.replicate, List.length_cons, List.length_nil, List.length_map, List.cons_append, List.nil_append, List.append_nil, List.set_cons_zero, List.set_cons_succ, mgTup_d, mgCons_c, mgNil_n, mgName_n, bind_some', wipeA, setAll, mLen, isN_optS, isN_optI, isN_str, isN_int, isN_tup, isN_non, loopI, true_and, and_true, and_self, Nat.reduceAdd, Nat.reduceLT, Nat.reduceLeDiff, Nat.reduceEqDiff, Nat.reduceSub, Int.reduceEq, Int.reduceLT, Int.reduceLE, Int.reduceSub, Int.reduceAdd, Int.cast_ofNat_Int, decide_true, decide_false, not_true, not_false_iff, Nat.zero_add, unD_nil, unD_cons, Option.map_some, sizeLine, Nat.reducePow, Option.isNone_none, Option.isNone_some, *])
section
variable {j k : Nat} {h h1 h2 t H H1 : AHp} {M : Mo}
theorem lenA_mp {α : Type} {f : α → D} (l : List α) : lenA M [.d (mpT f l)] h = some (.ok (.d (.int (l.length : Nat))), h) := by
  show some (R.ok (W.d (.int ((l.map f).length : Nat))), h) = _
  rw [List.length_map]
theorem ix_mp {α : Type} {f : α → D} {l : List α} {a : Nat} {x : α} (e : l[a]? = some x) : oIx M (.d (mpT f l)) (.d (.int (a : Nat))) h = some (.ok (.d (f x)), h) := ix_map f (by omega) (by rw [Int.toNat_natCast]; exact e)
theorem changed_ok (d : Dw k h) {os : List Ob} (l1 : 1 ≤ os.length) (hl : os.length ≤ 6) (dr : ∀ o ∈ os, DrO o) : WP (r__law_changed (j + 5) [.ref k, .d (encOs os)] h) (ChO k h) E0' := by
  rw [sh__law_changed, ch_e', encOs_mp]
  have hk := d.lt
  have e1 := lenA_mp (h := h) (M := T.mo 40 (j + 4 + 1)) (f := encO) os
  have nx := next_ok (j := j + 1) d (b := (os.length : Nat)) (by omega)
  replace dr := Hd.mk dr
  replace hl := Hd.mk hl
  walk_at "wps"
  refine nx.imp ?_
  rintro w h1 ⟨z, rfl, z0, z1, n⟩
  obtain ⟨a, rfl⟩ : ∃ a : Nat, z = ((a : Nat) : Int) := ⟨z.toNat, by omega⟩
  have ha : a < os.length := by omega
  have eo : os[a]? = some os[a] := List.getElem?_eq_getElem ha
  have do_ := dr.of os[a] (List.getElem_mem ha)
  generalize os[a] = o at eo do_
  obtain ⟨i, vs⟩ := o
  have e2 := ix_mp (h := h1) (M := T.mo 40 (j + 4 + 1)) (f := encO) eo
  have e3 : encO (i, vs) = .tup [.int i, mpT encV vs] := rfl
  rw [e3] at e2
  have l := (Lo.refl d).nx n
  clear e1 nx z0 z1 eo ha e3
  have nx := next_ok (j := j + 1) l.d (b := 5) (by decide)
  replace n := Hd.mk n
  replace l := Hd.mk l
  replace do_ := Hd.mk do_
  walk_at "wps"
  refine nx.imp ?_
  rintro w h2 ⟨z, rfl, z0, z1, n2⟩
  have l2 := l.of.nx n2
  have pk := pick_ok (j := j) l2.d (ds := [.int 0, .int 1, .int 2, .int 3, .int 5, .int 9, .int 10, .int (-1)]) (by simp)
  replace l2 := Hd.mk l2
  replace z0 := Hd.mk z0
  replace z1 := Hd.mk z1
  clear nx e2
  walk_at "wps"
  refine pk.imp ?_
  rintro w h3 ⟨y, hy, rfl, n3⟩
  obtain ⟨x, rfl⟩ : ∃ x : Int, y = .int x := by
    simp at hy
    rcases hy with rfl | rfl | rfl | rfl | rfl | rfl | rfl | rfl <;> exact ⟨_, rfl⟩
  have l3 := l2.of.nx n3
  have d3 := do_.of
  have e1 := lenA_mp (h := h3) (M := T.mo 40 (j + 4 + 1)) (f := encV) vs
  have hv1 : 1 ≤ vs.length := d3.1
  have nx := next_ok (j := j + 1) l3.d (b := (vs.length : Nat)) (by omega)
  replace l3 := Hd.mk l3
  clear pk hy hv1 d3
  walk_at "wps"
  refine nx.imp ?_
  rintro w h4 ⟨y, rfl, y0, y1, n4⟩
  obtain ⟨s, rfl⟩ : ∃ s : Nat, y = ((s : Nat) : Int) := ⟨y.toNat, by omega⟩
  exact ch4_ok (j := j) d (l3.of.nx n4) hl.of dr.of do_.of.1 do_.of.2.1 do_.of.2.2 z0.of z1.of
end
end K02

end
section
set_option Elab.async false
set_option linter.all false
set_option maxRecDepth 100000
set_option maxHeartbeats 1000000
namespace K02
open PySem PySem.Spec PyProof.Rows L2 PM
local macro_rules | `(tactic| walk_at "wps") => `(tactic| try simp only [↓wp_fn, ↓ws_seq, ↓ws_ret, ↓ws_asg, ↓ws_if, ↓ws_expr, ↓ws_for, ↓ws_par, ↓ws_skip, ↓ws_raise, ↓ws_raiseL, ↓ws_try, ↓seqK_nx, ↓seqK_rt, ↓seqK_exc, ↓fnK_rt, ↓fnK_nx, ↓fnK_exc, ↓loopK_nx, ↓loopK_rt, ↓loopK_exc, ↓wp_var, ↓wp_c, ↓wp_bin, ↓wp_un, ↓wp_nil, ↓wp_cons, ↓wp_star, ↓wp_cb, ↓wp_b, ↓wp_notT, ↓wp_andT, ↓wp_orT, ↓wp_yes, ↓wp_andV, ↓wp_orV, ↓wp_notV, ↓wp_if, ↓wp_chain, ↓wp_neg, ↓wp_tup, ↓wp_lst, ↓wp_lstR, ↓wp_slice, ↓wp_noPart, ↓wp_part, ↓wp_comp, ↓wp_lenSc, ↓wp_frzQ, ↓wp_items, ↓wp_enum, ↓wp_rng1, ↓wp_zip, zipD_tup, zipD_lst, ↓ws_match, ws_cs1, ↓ws_cs2, ↓wp_lstRgR, ↓wp_dc2, ↓wp_comp2, ↓wp_rng3, ↓wp_lstRg1, ↓wp_mthA, ↓ws_putK, oB_mulI, oB_modI, oB_addL, oB_addT, Int.reducePow, Int.reduceNeg, or_true, true_or, ↓tryK_rt, ↓tryK_nx, tryK_exc, ↓suiteK_rtD, setO_none, setO_some, ↓ws_stoA, ↓wp_make, ↓wp_bind, ↓mthK_cnt, fCnt_eq, fBs_map, wp_ok, wp_exc, wp_of, wp_pure, ws_some, gv0, gvS, unB_bl, if_true, if_false, Bool.false_eq_true, Bool.not_true, Bool.not_false, wp_cutD, wp_cutXD,
  oC_eqI, oC_neI, oC_eqB, oC_neB, oC_lt, oC_le, oC_gt, oC_ge, oC_is, oC_isNot, oB_addI, oB_subI, lenA_tup, lenA_lst, fInt_int, fTuple_lst, asgK_some, startA, List.map_cons, List.map_nil, List.replicate, List.length_cons, List.length_nil, List.length_map, List.cons_append, List.nil_append, List.append_nil, List.set_cons_zero, List.set_cons_succ, mgTup_d, mgCons_c, mgNil_n, mgName_n, bind_some', wipeA, setAll, mLen, isN_optS, isN_optI, isN_str, isN_int, isN_tup, isN_non, loopI, true_and, and_true, and_self, Nat.reduceAdd, Nat.reduceLT, Nat.reduceLeDiff, Nat.reduceEqDiff, Nat.reduceSub, Int.reduceEq, Int.reduceLT, Int.reduceLE, Int.reduceSub, Int.reduceAdd, Int.cast_ofNat_Int, decide_true, decide_false, not_true, not_false_iff, Nat.zero_add, unD_nil, unD_cons, Option.map_some, sizeLine, Nat.reducePow, Option.isNone_none, Option.isNone_some, *])
section
variable {j k : Nat} {h h1 h2 t H H1 : AHp} {M : Mo}
theorem wr_ne (i : Option Nat) : oC M .NotEq (.d (wrD i)) (.d (wrD i)) h = some (.ok (.d (.bl false)), h) := by
  have e : ∀ i : Option Nat, wrD i = (fun p : Str × Option Int => D.tup [.str p.1, optD .int p.2]) ("wrong", i.map fun n => ((n : Nat) : Int)) := fun i => by cases i <;> rfl
  rw [e]
  exact ne_same (cmPair cmStr cmOI) (by decide) ⟨show PyData.strOk ("wrong" : Str) = true by decide +kernel, fun _ _ => trivial⟩
theorem dueO_none {K : List (List Fld)} {os : List Ob} (e : dueO K os = none) : os.length ≤ 6 ∧ ∀ o ∈ os, objB K os o = true := by
  unfold dueO at e
  split at e
  · rename_i c
    refine ⟨c.2, ?_⟩
    rw [Option.map_eq_none_iff] at e
    exact wrongOAt_none e
  · cases e
theorem pair_eq {K K' : List (List Fld)} (p : OkKs K) (p' : OkKs K') (os os' : List Ob) : oC M .Eq (.d (.tup [encOs os', encKs K'])) (.d (.tup [encOs os, encKs K])) h = some (.ok (.d (.bl (decide (K = K' ∧ os = os')))), h) := by
  have e := (cmPair cmOs cmKs).oEq (M := M) (h := h) (by decide) (a := (os', K')) (b := (os, K)) ⟨anyO _, p'.1⟩ ⟨anyO _, p.1⟩
  refine e.trans ?_
  congr 5
  by_cases c : K = K'
  · by_cases c' : os = os' <;> simp [c, c', eq_comm]
  · simp [c, eq_comm]
abbrev Bf := Option (List (List Fld) × List Ob)
def bfD (b : Bf) : D := match b with | none => .non | some p => store p.1 p.2
def BfOk (b : Bf) : Prop := ∀ p, b = some p → GKs p.1
def law_c3 (j : Nat) (M : Mo) : MS := (mSeq (mPar [7, 8] (mCons (mCB (mLen 2 (fun ws => r__law_due j (ws ++ []))) (mCons (mVar 5) (mCons (mVar 6) (mNil)))) (mCons (mCB (mLen 2 (fun ws => r__law_made j (ws ++ []))) (mCons (mMake "Schema" 2 (fun ws => r_Schema___init__ j (ws ++ [])) (mCons (mVar 5) (mNil))) (mCons (mVar 6) (mNil)))) (mNil)))) (mSeq (mIfS (mOrT (mB (mBin (oC M .IsNot) (mVar 7) (mC (.non)))) (mNotT (mB (mUn (isiM M false (.own "Store")) (mVar 8))))) (mSeq (mIfS (mOrT (mB (mUn (isiM M false (.own "Store")) (mVar 8))) (mB (mBin (oC M .NotEq) (mVar 8) (mVar 7)))) (mSeq (mRet (mC (.bl false))) (mSkip)) (mSkip)) (mSkip)) (mSeq (mIfS (mNotT (mB (mCB (mLen 3 (fun ws => r__law_store_right j (ws ++ []))) (mCons (mVar 5) (mCons (mVar 6) (mCons (mVar 8) (mNil))))))) (mSeq (mRet (mC (.bl false))) (mSkip)) (mSkip)) (mSeq (mIfS (mNotT (mB (mBin (oC M .Eq) (mVar 8) (mMake "Store" 3 (fun ws => r_Store___init__ j (ws ++ [])) (mCons (mMake "Schema" 2 (fun ws => r_Schema___init__ j (ws ++ [])) (mCons (mVar 5) (mNil))) (mCons (mVar 6) (mNil))))))) (mSeq (mRet (mC (.bl false))) (mSkip)) (mSkip)) (mSeq (mIfS (mB (mBin (oC M .IsNot) (mVar 4) (mC (.non)))) (mSeq (mAsg (mBin (oC M .Eq) (mTup (mCons (mUn (attrM M "objects") (mVar 4)) (mCons (mUn (attrM M "kinds") (mUn (attrM M "schema") (mVar 4))) (mNil)))) (mTup (mCons (mVar 6) (mCons (mVar 5) (mNil))))) (mgName 9)) (mSeq (mIfS (mB (mBin (oC M .NotEq) (mBin (oC M .Eq) (mVar 8) (mVar 4)) (mVar 9))) (mSeq (mRet (mC (.bl false))) (mSkip)) (mSkip)) (mSkip))) (mSkip)) (mSeq (mAsg (mVar 8) (mgName 4)) (mSkip)))))) (mSkip)))
theorem law_c3_ok (d : Dw k h) {K : List (List Fld)} (gk : GKs K) {os : List Ob} (so : ShOs os) {b : Bf} (ob : BfOk b) {s by_ t x7 x8 x9 : Option W} {Q : RS → AHp → Prop}
    (fin : ∀ b x5 x6 x7 x8 x9, BfOk b → Q (.nx [s, by_, t, some (.ref k), some (.d (bfD b)), x5, x6, x7, x8, x9]) h) :
    WS (law_c3 (j + 7) (T.mo 40 (j + 7 + 1)) [s, by_, t, some (.ref k), some (.d (bfD b)), some (.d (encKs K)), some (.d (encOs os)), x7, x8, x9] h) Q := by
  have e1 := due_ok (j := j + 4) d.gd gk so
  have e2 := made_ok (j := j) d.gd d.cl gk so
  have e3 := make_ok (j := j + 3) d.gd gk.ok gk.2.1 gk.2.2
  rw [gk.wrong] at e3
  dsimp only at e3
  have e4 := smake_ok (j := j + 1) d.gd gk so
  have fq := fun x5 x6 x7 x8 x9 => fin b x5 x6 x7 x8 x9 ob
  have fs := fun x5 x6 x7 x8 x9 => fin (some (K, os)) x5 x6 x7 x8 x9 (fun p e => by cases e; exact gk)
  have ebf : bfD (some (K, os)) = store K os := rfl
  rw [ebf] at fs
  clear ebf
  cases q : dueO K os with
  | some i =>
    have e5 := isi_store_t (j := j + 7) (h := h) [.str "wrong", natD i]
    have e6 := wr_ne (M := T.mo 40 (j + 7 + 1)) (h := h) i
    have e7 : isN (.d (wrD i)) = false := rfl
    have e8 : D.tup [.str "wrong", natD i] = wrD i := rfl
    rw [e8] at e5
    rw [show dueD K os = wrD i by unfold dueD; rw [q]] at e1
    rw [show madeD K os = wrD i by unfold madeD; rw [q]] at e2
    replace gk := Hd.mk gk
    replace so := Hd.mk so
    replace d := Hd.mk d
    clear e4 e8 q fs fin
    unfold law_c3
    walk_at "wps"
  | none =>
    obtain ⟨h6, hw⟩ := dueO_none q
    rw [q] at e4
    dsimp only at e4
    have e5 := isi_store (j := j + 7) (h := h) K os
    rw [show dueD K os = .non by unfold dueD; rw [q]] at e1
    rw [show madeD K os = store K os by unfold madeD; rw [q]] at e2
    have e6 := store_right_ok (j := j + 2) d.gd d.cl gk so h6 hw
    have e7 := seq_ok (j := j + 5) d.gd gk.ok gk.ok os os
    have e8 : decide (K = K ∧ os = os) = true := by simp
    rw [e8] at e7
    clear e8 q fin h6 hw
    cases b with
    | none =>
      replace gk := Hd.mk gk
      replace so := Hd.mk so
      replace d := Hd.mk d
      have e8 : bfD none = .non := rfl
      unfold law_c3
      clear fq
      walk_at "wps"
    | some p =>
      obtain ⟨K', os'⟩ := p
      have gk' := ob _ rfl
      have e8 : bfD (some (K', os')) = store K' os' := rfl
      rw [e8]
      have e9 := seq_ok (j := j + 5) d.gd gk.ok gk'.ok os os'
      have e10 := at_objects (j := j + 6) d.gd K' os'
      have e11 := at_schema (j := j + 6) d.gd K' os'
      have e12 := at_kinds (j := j + 6) d.gd K'
      have e13 := pair_eq (M := T.mo 40 (j + 7 + 1)) (h := h) gk.ok gk'.ok os os'
      have e14 : isN (.d (store K' os')) = false := rfl
      generalize decide (K = K' ∧ os = os') = r at e9 e13
      have e15 : oC (T.mo 40 (j + 7 + 1)) .NotEq (.d (.bl r)) (.d (.bl r)) h = some (.ok (.d (.bl false)), h) := by cases r <;> rfl
      replace gk := Hd.mk gk
      replace gk' := Hd.mk gk'
      replace so := Hd.mk so
      replace d := Hd.mk d
      replace ob := Hd.mk ob
      unfold law_c3
      clear fq e8
      walk_at "wps"
end
end K02

end
section
set_option Elab.async false
set_option linter.all false
set_option maxRecDepth 100000
set_option maxHeartbeats 1000000
namespace K02
open PySem PySem.Spec PyProof.Rows L2 PM
local macro_rules | `(tactic| walk_at "wps") => `(tactic| try simp only [↓wp_fn, ↓ws_seq, ↓ws_ret, ↓ws_asg, ↓ws_if, ↓ws_expr, ↓ws_for, ↓ws_par, ↓ws_skip, ↓ws_raise, ↓ws_raiseL, ↓ws_try, ↓seqK_nx, ↓seqK_rt, ↓seqK_exc, ↓fnK_rt, ↓fnK_nx, ↓fnK_exc, ↓loopK_nx, ↓loopK_rt, ↓loopK_exc, ↓wp_var, ↓wp_c, ↓wp_bin, ↓wp_un, ↓wp_nil, ↓wp_cons, ↓wp_star, ↓wp_cb, ↓wp_b, ↓wp_notT, ↓wp_andT, ↓wp_orT, ↓wp_yes, ↓wp_andV, ↓wp_orV, ↓wp_notV, ↓wp_if, ↓wp_chain, ↓wp_neg, ↓wp_tup, ↓wp_lst, ↓wp_lstR, ↓wp_slice, ↓wp_noPart, ↓wp_part, ↓wp_comp, ↓wp_lenSc, ↓wp_frzQ, ↓wp_items, ↓wp_enum, ↓wp_rng1, ↓wp_zip, zipD_tup, zipD_lst, ↓ws_match, ws_cs1, ↓ws_cs2, ↓wp_lstRgR, ↓wp_dc2, ↓wp_comp2, ↓wp_rng3, ↓wp_lstRg1, ↓wp_mthA, ↓ws_putK, oB_mulI, oB_modI, oB_addL, oB_addT, Int.reducePow, Int.reduceNeg, or_true, true_or, ↓tryK_rt, ↓tryK_nx, tryK_exc, ↓suiteK_rtD, setO_none, setO_some, ↓ws_stoA, ↓wp_make, ↓wp_bind, ↓mthK_cnt, fCnt_eq, fBs_map, wp_ok, wp_exc, wp_of, wp_pure, ws_some, gv0, gvS, unB_bl, if_true, if_false, Bool.false_eq_true, Bool.not_true, Bool.not_false, wp_cutD, wp_cutXD,
  oC_eqI, oC_neI, oC_eqB, oC_neB, oC_lt, oC_le, oC_gt, oC_ge, oC_is, oC_isNot, oB_addI, oB_subI, lenA_tup, lenA_lst, fInt_int, fTuple_lst, asgK_some, startA, List.map_cons, List.map_nil, List.replicate, List.length_cons, List.length_nil, List.length_map, List.cons_append, List.nil_append, List.append_nil, List.set_cons_zero, List.set_cons_succ, mgTup_d, mgCons_c, mgNil_n, mgName_n, bind_some', wipeA, setAll, mLen, isN_optS, isN_optI, isN_str, isN_int, isN_tup, isN_non, loopI, true_and, and_true, and_self, Nat.reduceAdd, Nat.reduceLT, Nat.reduceLeDiff, Nat.reduceEqDiff, Nat.reduceSub, Int.reduceEq, Int.reduceLT, Int.reduceLE, Int.reduceSub, Int.reduceAdd, Int.cast_ofNat_Int, decide_true, decide_false, not_true, not_false_iff, Nat.zero_add, unD_nil, unD_cons, Option.map_some, sizeLine, Nat.reducePow, Option.isNone_none, Option.isNone_some, *])
section
variable {j k : Nat} {h h1 h2 t H H1 : AHp} {M : Mo}
def law_c (j : Nat) (M : Mo) : MS := (mSeq (mAsg (mCB (mLen 2 (fun ws => r__law_kinds j (ws ++ []))) (mCons (mVar 3) (mCons (mC (.int (3))) (mNil)))) (mgName 5)) (mSeq (mAsg (mCB (mLen 3 (fun ws => r__law_objects j (ws ++ []))) (mCons (mVar 3) (mCons (mVar 5) (mCons (mC (.int (4))) (mNil))))) (mgName 6)) (mSeq (mAsg (mIf (mB (mBin (oC M .Lt) (mVar 2) (mC (.int (2))))) (mVar 6) (mCB (mLen 2 (fun ws => r__law_changed j (ws ++ []))) (mCons (mVar 3) (mCons (mVar 6) (mNil))))) (mgName 6)) (mSeq (mPar [7, 8] (mCons (mCB (mLen 2 (fun ws => r__law_due j (ws ++ []))) (mCons (mVar 5) (mCons (mVar 6) (mNil)))) (mCons (mCB (mLen 2 (fun ws => r__law_made j (ws ++ []))) (mCons (mMake "Schema" 2 (fun ws => r_Schema___init__ j (ws ++ [])) (mCons (mVar 5) (mNil))) (mCons (mVar 6) (mNil)))) (mNil)))) (mSeq (mIfS (mOrT (mB (mBin (oC M .IsNot) (mVar 7) (mC (.non)))) (mNotT (mB (mUn (isiM M false (.own "Store")) (mVar 8))))) (mSeq (mIfS (mOrT (mB (mUn (isiM M false (.own "Store")) (mVar 8))) (mB (mBin (oC M .NotEq) (mVar 8) (mVar 7)))) (mSeq (mRet (mC (.bl false))) (mSkip)) (mSkip)) (mSkip)) (mSeq (mIfS (mNotT (mB (mCB (mLen 3 (fun ws => r__law_store_right j (ws ++ []))) (mCons (mVar 5) (mCons (mVar 6) (mCons (mVar 8) (mNil))))))) (mSeq (mRet (mC (.bl false))) (mSkip)) (mSkip)) (mSeq (mIfS (mNotT (mB (mBin (oC M .Eq) (mVar 8) (mMake "Store" 3 (fun ws => r_Store___init__ j (ws ++ [])) (mCons (mMake "Schema" 2 (fun ws => r_Schema___init__ j (ws ++ [])) (mCons (mVar 5) (mNil))) (mCons (mVar 6) (mNil))))))) (mSeq (mRet (mC (.bl false))) (mSkip)) (mSkip)) (mSeq (mIfS (mB (mBin (oC M .IsNot) (mVar 4) (mC (.non)))) (mSeq (mAsg (mBin (oC M .Eq) (mTup (mCons (mUn (attrM M "objects") (mVar 4)) (mCons (mUn (attrM M "kinds") (mUn (attrM M "schema") (mVar 4))) (mNil)))) (mTup (mCons (mVar 6) (mCons (mVar 5) (mNil))))) (mgName 9)) (mSeq (mIfS (mB (mBin (oC M .NotEq) (mBin (oC M .Eq) (mVar 8) (mVar 4)) (mVar 9))) (mSeq (mRet (mC (.bl false))) (mSkip)) (mSkip)) (mSkip))) (mSkip)) (mSeq (mAsg (mVar 8) (mgName 4)) (mSkip)))))) (mSkip))))))
theorem law_ce (j : Nat) (M : Mo) : law_c j M = mSeq (mAsg (mCB (mLen 2 (fun ws => r__law_kinds j (ws ++ []))) (mCons (mVar 3) (mCons (mC (.int (3))) (mNil)))) (mgName 5)) (mSeq (mAsg (mCB (mLen 3 (fun ws => r__law_objects j (ws ++ []))) (mCons (mVar 3) (mCons (mVar 5) (mCons (mC (.int (4))) (mNil))))) (mgName 6)) (mSeq (mAsg (mIf (mB (mBin (oC M .Lt) (mVar 2) (mC (.int (2))))) (mVar 6) (mCB (mLen 2 (fun ws => r__law_changed j (ws ++ []))) (mCons (mVar 3) (mCons (mVar 6) (mNil))))) (mgName 6)) (law_c3 j M))) := rfl
def law_b (j : Nat) (M : Mo) : MS := (mSeq (mPar [3, 4] (mCons (mLstR (mCons (mVar 0) (mCons (mVar 1) (mCons (mC (.int (0))) (mNil))))) (mCons (mC (.non)) (mNil)))) (mSeq (mFor (mRng1 (mCons (mC (.int (6))) (mNil))) (mgName 2) (mSeq (mAsg (mCB (mLen 2 (fun ws => r__law_kinds j (ws ++ []))) (mCons (mVar 3) (mCons (mC (.int (3))) (mNil)))) (mgName 5)) (mSeq (mAsg (mCB (mLen 3 (fun ws => r__law_objects j (ws ++ []))) (mCons (mVar 3) (mCons (mVar 5) (mCons (mC (.int (4))) (mNil))))) (mgName 6)) (mSeq (mAsg (mIf (mB (mBin (oC M .Lt) (mVar 2) (mC (.int (2))))) (mVar 6) (mCB (mLen 2 (fun ws => r__law_changed j (ws ++ []))) (mCons (mVar 3) (mCons (mVar 6) (mNil))))) (mgName 6)) (mSeq (mPar [7, 8] (mCons (mCB (mLen 2 (fun ws => r__law_due j (ws ++ []))) (mCons (mVar 5) (mCons (mVar 6) (mNil)))) (mCons (mCB (mLen 2 (fun ws => r__law_made j (ws ++ []))) (mCons (mMake "Schema" 2 (fun ws => r_Schema___init__ j (ws ++ [])) (mCons (mVar 5) (mNil))) (mCons (mVar 6) (mNil)))) (mNil)))) (mSeq (mIfS (mOrT (mB (mBin (oC M .IsNot) (mVar 7) (mC (.non)))) (mNotT (mB (mUn (isiM M false (.own "Store")) (mVar 8))))) (mSeq (mIfS (mOrT (mB (mUn (isiM M false (.own "Store")) (mVar 8))) (mB (mBin (oC M .NotEq) (mVar 8) (mVar 7)))) (mSeq (mRet (mC (.bl false))) (mSkip)) (mSkip)) (mSkip)) (mSeq (mIfS (mNotT (mB (mCB (mLen 3 (fun ws => r__law_store_right j (ws ++ []))) (mCons (mVar 5) (mCons (mVar 6) (mCons (mVar 8) (mNil))))))) (mSeq (mRet (mC (.bl false))) (mSkip)) (mSkip)) (mSeq (mIfS (mNotT (mB (mBin (oC M .Eq) (mVar 8) (mMake "Store" 3 (fun ws => r_Store___init__ j (ws ++ [])) (mCons (mMake "Schema" 2 (fun ws => r_Schema___init__ j (ws ++ [])) (mCons (mVar 5) (mNil))) (mCons (mVar 6) (mNil))))))) (mSeq (mRet (mC (.bl false))) (mSkip)) (mSkip)) (mSeq (mIfS (mB (mBin (oC M .IsNot) (mVar 4) (mC (.non)))) (mSeq (mAsg (mBin (oC M .Eq) (mTup (mCons (mUn (attrM M "objects") (mVar 4)) (mCons (mUn (attrM M "kinds") (mUn (attrM M "schema") (mVar 4))) (mNil)))) (mTup (mCons (mVar 6) (mCons (mVar 5) (mNil))))) (mgName 9)) (mSeq (mIfS (mB (mBin (oC M .NotEq) (mBin (oC M .Eq) (mVar 8) (mVar 4)) (mVar 9))) (mSeq (mRet (mC (.bl false))) (mSkip)) (mSkip)) (mSkip))) (mSkip)) (mSeq (mAsg (mVar 8) (mgName 4)) (mSkip)))))) (mSkip))))))) (mSkip)))
theorem law_be (j : Nat) (M : Mo) : law_b j M = mSeq (mPar [3, 4] (mCons (mLstR (mCons (mVar 0) (mCons (mVar 1) (mCons (mC (.int (0))) (mNil))))) (mCons (mC (.non)) (mNil)))) (mSeq (mFor (mRng1 (mCons (mC (.int (6))) (mNil))) (mgName 2) (law_c j M)) (mSkip)) := rfl
theorem law_e (j : Nat) (M : Mo) : s_law j M = mSeq (mAsg (mSlice (mVar 0) (mNoPart) (mPart (mC (.int (63))))) (mgName 0)) (mSeq (mFor (mRng3 (mCons (mC (.int (0))) (mCons (mCB (fMax2) (mCons (mC (.int (1))) (mCons (mCB (fMin2) (mCons (mC (.int (12))) (mCons (mCB (lenA M) (mCons (mVar 0) (mNil))) (mNil)))) (mNil)))) (mCons (mC (.int (3))) (mNil))))) (mgName 1) (law_b j M)) (mSeq (mRet (mC (.bl true))) (mSkip))) := rfl
theorem drOs_sh {os : List Ob} (hl : os.length ≤ 6) (dr : ∀ o ∈ os, DrO o) : ShOs os := ⟨by omega, fun o ho => (dr o ho).sh⟩
theorem law_c_ok (d : Dw k h) {b : Bf} (ob : BfOk b) {s by_ x5 x6 x7 x8 x9 : Option W} {tn : Int} {Q : RS → AHp → Prop}
    (fin : ∀ h' b x5 x6 x7 x8 x9, Nx k h h' → BfOk b → Q (.nx [s, by_, some (.d (.int tn)), some (.ref k), some (.d (bfD b)), x5, x6, x7, x8, x9]) h') :
    WS (law_c (j + 7) (T.mo 40 (j + 7 + 1)) [s, by_, some (.d (.int tn)), some (.ref k), some (.d (bfD b)), x5, x6, x7, x8, x9] h) Q := by
  rw [law_ce]
  have kn := kinds_ok' (j := j) d
  replace ob := Hd.mk ob
  replace fin := Hd.mk fin
  walk_at "wps"
  refine kn.imp ?_
  rintro w h1 ⟨K, rfl, gk, n1⟩
  have on := objects_ok' (j := j + 1) n1.1 gk
  replace gk := Hd.mk gk
  replace n1 := Hd.mk n1
  clear kn
  walk_at "wps"
  refine on.imp ?_
  rintro w h2 ⟨os, rfl, l1, l6, dr, n2⟩
  have n := n1.of.trans n2
  have c1 := fun x7 x8 x9 => law_c3_ok (j := j) n2.1 gk.of (drOs_sh l6 dr) ob.of (s := s) (by_ := by_) (t := some (.d (.int tn))) (x7 := x7) (x8 := x8) (x9 := x9) (Q := Q) fun b x5 x6 x7 x8 x9 ob => fin.of h2 b x5 x6 x7 x8 x9 n ob
  have ch := Hd.mk (changed_ok (j := j + 2) n2.1 l1 l6 dr)
  replace n := Hd.mk n
  clear on l1 l6 dr n2
  walk_at "wps"
  split
  · trivial
  · refine ch.of.imp ?_
    rintro w h3 ⟨os', rfl, so, n3⟩
    exact law_c3_ok (j := j) n3.1 gk.of so ob.of fun b x5 x6 x7 x8 x9 ob => fin.of h3 b x5 x6 x7 x8 x9 (n.of.trans n3) ob
structure LB (o : AO) (H : AHp) : Prop where
  gd : Gd H
  cl : H.all AO.cln = true
  at0 : H[0]? = some o
theorem LB.dw {o : AO} (b : LB o H) {ns : List Int} {y : Int} (hy : 0 ≤ y) : Dw H.length (H ++ [drw ns y 0]) ∧ H.length ≠ 0 := by
  refine ⟨⟨⟨ns, y, 0, get_app0, hy, by decide⟩, b.gd.app fun o ho => ?_, ?_⟩, ?_⟩
  · rw [List.mem_singleton] at ho
    subst ho
    rfl
  · rw [List.all_append, b.cl]
    rfl
  · have := (List.getElem?_eq_some_iff.mp b.at0).1
    omega
theorem law_b_ok {o : AO} (b : LB o H) {ns : List Int} {y : Int} (hy : 0 ≤ y) {x2 x3 x4 x5 x6 x7 x8 x9 : Option W} {Q : RS → AHp → Prop}
    (fin : ∀ H' x2 x3 x4 x5 x6 x7 x8 x9, LB o H' → Q (.nx [some (.d (.lst (ns.map .int))), some (.d (.int y)), x2, x3, x4, x5, x6, x7, x8, x9]) H') :
    WS (law_b (j + 7) (T.mo 40 (j + 7 + 1)) [some (.d (.lst (ns.map .int))), some (.d (.int y)), x2, x3, x4, x5, x6, x7, x8, x9] H) Q := by
  rw [law_be]
  obtain ⟨d, h0⟩ := b.dw (ns := ns) hy
  have at0 : (H ++ [drw ns y 0])[0]? = some o := by
    rw [List.getElem?_append_left (by omega)]
    exact b.at0
  have ed : AO.lst [.d (.lst (ns.map .int)), .d (.int y), .d (.int 0)] = drw ns y 0 := rfl
  replace fin := Hd.mk fin
  have hr6 : (rngW 0 (6 : Int).toNat) = (List.range 6).map fun i => W.d (.int ((i : Nat) : Int)) := rng_map 6
  walk_at "wps"
  generalize H ++ [drw ns y 0] = H1 at d at0
  generalize H.length = k at d h0
  refine loop_inv (fun i : Nat => W.d (.int ((i : Nat) : Int))) (fun r σ h => Nx k H1 h ∧ ∃ x2 B x5 x6 x7 x8 x9, σ = [some (.d (.lst (ns.map .int))), some (.d (.int y)), x2, some (.ref k), some (.d (bfD B)), x5, x6, x7, x8, x9] ∧ BfOk B) ?_ ?_ (List.range 6) _ _ ⟨Nx.refl d, _, none, _, _, _, _, _, rfl, fun _ e => nomatch e⟩
  · rintro i r σ h ⟨n, z2, B, z5, z6, z7, z8, z9, rfl, pb⟩
    refine ⟨_, rfl, ?_⟩
    refine law_c_ok (j := j) n.1 pb ?_
    intro h' B' y5 y6 y7 y8 y9 n' p1
    exact ⟨n.trans n', _, B', _, _, _, _, _, rfl, p1⟩
  · rintro σ h ⟨n, z2, B, z5, z6, z7, z8, z9, rfl, pb⟩
    rw [seqK_nx, ws_skip]
    exact fin.of h _ _ _ _ _ _ _ _ ⟨n.1.gd, n.1.cl, (n.get (Ne.symm h0)).trans at0⟩
theorem rg12 (m : Int) (m1 : 1 ≤ m) (m2 : m ≤ 12) : ∃ n, rgc 0 m 3 = some n := by
  have : m = 1 ∨ m = 2 ∨ m = 3 ∨ m = 4 ∨ m = 5 ∨ m = 6 ∨ m = 7 ∨ m = 8 ∨ m = 9 ∨ m = 10 ∨ m = 11 ∨ m = 12 := by omega
  rcases this with rfl | rfl | rfl | rfl | rfl | rfl | rfl | rfl | rfl | rfl | rfl | rfl <;> exact ⟨_, rfl⟩
theorem law_ok (ns : List Int) : ∃ h', r_law (j + 8) [.ref 0] (scr ns) = some (.ok (.d (.bl true)), h') := by
  have key : WP (r_law (j + 8) [.ref 0] (scr ns)) (fun w h' => w = .d (.bl true)) E0' := by
    rw [sh_law, law_e]
    have e0 : (scr ns)[0]? = some (.rol (ns.map fun i => .d (.int i))) := rfl
    have e1 : fSl (.ref 0) none (some 63) (scr ns) = some (.ok (.d (.lst ((ns.take 63).map .int))), scr ns) := by
      show (match unD (ns.map fun i => W.d (.int i)) with | some ds => mPure (W.d (.lst (cutL ds none (some 63)))) (scr ns) | none => none) = _
      rw [unD_map]
      show some (R.ok (W.d (.lst (cutL (ns.map .int) none (some ((63 : Nat) : Int))))), scr ns) = _
      rw [cut_take, ← List.map_take]
    have lb : LB (.rol (ns.map fun i => .d (.int i))) (scr ns) := ⟨by
      unfold Gd scr
      simp [AO.low, W.low], by
      unfold scr
      simp [AO.cln, W.cln], rfl⟩
    have e2 : lenA (T.mo 40 (j + 7 + 1)) [.d (.lst ((ns.take 63).map .int))] (scr ns) = some (.ok (.d (.int ((ns.take 63).length : Nat))), scr ns) := by rw [lenA_lst, List.length_map]
    generalize ns.take 63 = ms at e1 e2
    have e3 : fMin2 [.d (.int 12), .d (.int (ms.length : Nat))] (scr ns) = some (.ok (.d (.int (if ((ms.length : Nat) : Int) < 12 then ((ms.length : Nat) : Int) else 12))), scr ns) := rfl
    have hm : ∀ i : Int, fMax2 [.d (.int 1), .d (.int i)] (scr ns) = some (.ok (.d (.int (if i > 1 then i else 1))), scr ns) := fun _ => rfl
    have e4 := hm (if ((ms.length : Nat) : Int) < 12 then ((ms.length : Nat) : Int) else 12)
    have bd : 1 ≤ (if (if ((ms.length : Nat) : Int) < 12 then ((ms.length : Nat) : Int) else 12) > 1 then (if ((ms.length : Nat) : Int) < 12 then ((ms.length : Nat) : Int) else 12) else 1) ∧ (if (if ((ms.length : Nat) : Int) < 12 then ((ms.length : Nat) : Int) else 12) > 1 then (if ((ms.length : Nat) : Int) < 12 then ((ms.length : Nat) : Int) else 12) else 1) ≤ 12 := by
      split <;> split <;> omega
    generalize (if ((ms.length : Nat) : Int) < 12 then ((ms.length : Nat) : Int) else 12) = m1 at e3 e4 bd
    generalize (if m1 > 1 then m1 else 1) = m2 at e4 bd
    obtain ⟨n, en⟩ := rg12 m2 bd.1 bd.2
    clear hm bd e0
    have hl : (scr ns).length = 1 := rfl
    generalize hs : scr ns = H0 at e1 e2 e3 e4 lb hl
    clear hs
    walk_at "wps"
    unfold rngC
    refine loop_inv (fun i : Nat => W.d (.int (0 + ((i : Nat) : Int) * 3))) (fun r σ h => LB (.rol (ns.map fun i => .d (.int i))) h ∧ ∃ y x2 x3 x4 x5 x6 x7 x8 x9, σ = [some (.d (.lst (ms.map .int))), y, x2, x3, x4, x5, x6, x7, x8, x9]) ?_ ?_ (List.range n) _ _ ⟨lb, _, _, _, _, _, _, _, _, _, rfl⟩
    · rintro i r σ h ⟨b, y, x2, x3, x4, x5, x6, x7, x8, x9, rfl⟩
      refine ⟨_, rfl, ?_⟩
      refine law_b_ok (j := j) b (by omega) ?_
      intro H' x2 x3 x4 x5 x6 x7 x8 x9 b'
      exact ⟨b', _, _, _, _, _, _, _, _, _, rfl⟩
    · rintro σ h ⟨b, y, x2, x3, x4, x5, x6, x7, x8, x9, rfl⟩
      have ec : cutR 1 (.ok (.d (.bl true))) h = some (.ok (.d (.bl true)), h.take 1) := by
        unfold cutR
        have b1 := b.at0
        cases h with
        | nil => cases b1
        | cons o r =>
          cases b1
          simp [AO.low, W.low, lowR]
      clear e1 e2 e3 e4 en
      walk_at "wps"
  obtain ⟨r, h', e, z⟩ := key
  cases r with
  | ok w => subst z; exact ⟨h', e⟩
  | exc c fs => exact z.elim
end
end K02

end
open PySem PySem.W PyProof.Rows
set_option maxRecDepth 100000 in
set_option maxHeartbeats 8000000 in
theorem PySem.Challenge.cw_emptyup_k02_whole_stores_holds : PySem.Challenge.rw_emptyup_k02_whole_stores.Holds := by
  exact K02.holds fun ns _ => K02.law_ok (j := 12) ns

