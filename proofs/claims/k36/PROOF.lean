import PyProof.Rows.All
import Wide.All
import OpenK.AllK
import Wide.FinOn
import KE.KOpsOwn
import PyProof.InstNe
import HandS.ForExc
import HandS.Comp
import HandS.More
import HandS.Slots
import HandS.SlotsOwn
import HandS.ClsMeth
import HandS.Lambda
import HandS.ExcIs
import HandS.IsInst
import HandS.Wide
import HandS.Defaults
import HandS.Iter
import HandS.Flow
import HandS.Star
import HandS.Evl
import HandS.EndTab
import PySem.Challenge.RW_emptyup_k36_whole_fractions
section
namespace M36
def l1 (t d : Nat) : Nat := t / Nat.gcd t d
def l2 (t d : Nat) : Nat := d / Nat.gcd t d
theorem g_pos {t d : Nat} (h : 0 < d) : 0 < Nat.gcd t d := Nat.gcd_pos_of_pos_right _ h
theorem eq1 (t d : Nat) : t = Nat.gcd t d * l1 t d := (Nat.mul_div_cancel' (Nat.gcd_dvd_left t d)).symm
theorem eq2 (t d : Nat) : d = Nat.gcd t d * l2 t d := (Nat.mul_div_cancel' (Nat.gcd_dvd_right t d)).symm
theorem sc1 {c : Nat} (h : 0 < c) (t d : Nat) : l1 (c * t) (c * d) = l1 t d := by
  unfold l1
  rw [Nat.gcd_mul_left, Nat.mul_div_mul_left _ _ h]
theorem sc2 {c : Nat} (h : 0 < c) (t d : Nat) : l2 (c * t) (c * d) = l2 t d := by
  unfold l2
  rw [Nat.gcd_mul_left, Nat.mul_div_mul_left _ _ h]
theorem l2_pos {t d : Nat} (h : 0 < d) : 0 < l2 t d := Nat.div_pos (Nat.le_of_dvd h (Nat.gcd_dvd_right t d)) (g_pos h)
theorem l2_le (t d : Nat) : l2 t d ≤ d := Nat.div_le_self _ _
theorem l1_le {t d : Nat} (h : t ≤ d) : l1 t d ≤ l2 t d := Nat.div_le_div_right h
theorem step {x y : Nat} : Nat.gcd y (x % y) = Nat.gcd x y := by
  rw [Nat.gcd_comm x y, Nat.gcd_rec y x, Nat.gcd_comm]
theorem of_sc {t d t' d' c : Nat} (h : 0 < c) (e1 : t' = c * t) (e2 : d' = c * d) : l1 t' d' = l1 t d ∧ l2 t' d' = l2 t d := by
  subst e1 e2
  exact ⟨sc1 h t d, sc2 h t d⟩
theorem l_zero {d : Nat} (h : 0 < d) : l1 0 d = l1 0 1 ∧ l2 0 d = l2 0 1 := by
  unfold l1 l2
  simp [Nat.div_self h]
theorem cross {t d t' d' : Nat} : t * d' = (Nat.gcd t d * Nat.gcd t' d') * (l1 t d * l2 t' d') := by
  have a := eq1 t d
  have b := eq2 t' d'
  generalize Nat.gcd t d = g at a ⊢
  generalize Nat.gcd t' d' = g' at b ⊢
  generalize l1 t d = p at a ⊢
  generalize l2 t' d' = w at b ⊢
  subst a b
  simp only [Nat.mul_assoc, Nat.mul_comm, Nat.mul_left_comm]
theorem cross' {t d t' d' : Nat} : t' * d = (Nat.gcd t d * Nat.gcd t' d') * (l1 t' d' * l2 t d) := by
  have := cross (t := t') (d := d') (t' := t) (d' := d)
  rw [this, Nat.mul_comm (Nat.gcd t' d')]
theorem crossD {t d t' d' : Nat} : d * d' = (Nat.gcd t d * Nat.gcd t' d') * (l2 t d * l2 t' d') := by
  have a := eq2 t d
  have b := eq2 t' d'
  generalize Nat.gcd t d = g at a ⊢
  generalize Nat.gcd t' d' = g' at b ⊢
  generalize l2 t d = p at a ⊢
  generalize l2 t' d' = w at b ⊢
  subst a b
  simp only [Nat.mul_assoc, Nat.mul_comm, Nat.mul_left_comm]
theorem crossT {t d t' d' : Nat} : t * t' = (Nat.gcd t d * Nat.gcd t' d') * (l1 t d * l1 t' d') := by
  have a := eq1 t d
  have b := eq1 t' d'
  generalize Nat.gcd t d = g at a ⊢
  generalize Nat.gcd t' d' = g' at b ⊢
  generalize l1 t d = p at a ⊢
  generalize l1 t' d' = w at b ⊢
  subst a b
  simp only [Nat.mul_assoc, Nat.mul_comm, Nat.mul_left_comm]
theorem gg {t d t' d' : Nat} (h : 0 < d) (h' : 0 < d') : 0 < Nat.gcd t d * Nat.gcd t' d' := Nat.mul_pos (g_pos h) (g_pos h')
theorem add_le {t d t' d' : Nat} (h : 0 < d) (h' : 0 < d') : (l1 t d * l2 t' d' + l1 t' d' * l2 t d ≤ l2 t d * l2 t' d') ↔ t * d' + t' * d ≤ d * d' := by
  rw [cross (t := t) (d := d) (t' := t') (d' := d'), cross' (t := t) (d := d) (t' := t') (d' := d'), crossD (t := t) (d := d) (t' := t') (d' := d'), ← Nat.mul_add]
  exact (Nat.mul_le_mul_left_iff (gg h h')).symm
theorem add_l {t d t' d' : Nat} (h : 0 < d) (h' : 0 < d') : l1 (t * d' + t' * d) (d * d') = l1 (l1 t d * l2 t' d' + l1 t' d' * l2 t d) (l2 t d * l2 t' d') ∧ l2 (t * d' + t' * d) (d * d') = l2 (l1 t d * l2 t' d' + l1 t' d' * l2 t d) (l2 t d * l2 t' d') := by
  refine of_sc (gg h h') ?_ crossD
  rw [Nat.mul_add, ← cross, ← cross']
theorem lt_iff {t d t' d' : Nat} (h : 0 < d) (h' : 0 < d') : (l1 t d * l2 t' d' < l1 t' d' * l2 t d) ↔ t * d' < t' * d := by
  rw [cross (t := t) (d := d) (t' := t') (d' := d'), cross' (t := t) (d := d) (t' := t') (d' := d')]
  exact (Nat.mul_lt_mul_left (gg h h')).symm
theorem le_iff {t d t' d' : Nat} (h : 0 < d) (h' : 0 < d') : (l1 t d * l2 t' d' ≤ l1 t' d' * l2 t d) ↔ t * d' ≤ t' * d := by
  rw [cross (t := t) (d := d) (t' := t') (d' := d'), cross' (t := t) (d := d) (t' := t') (d' := d')]
  exact (Nat.mul_le_mul_left_iff (gg h h')).symm
theorem sub_l {t d t' d' : Nat} (h : 0 < d) (h' : 0 < d') : l1 (t * d' - t' * d) (d * d') = l1 (l1 t d * l2 t' d' - l1 t' d' * l2 t d) (l2 t d * l2 t' d') ∧ l2 (t * d' - t' * d) (d * d') = l2 (l1 t d * l2 t' d' - l1 t' d' * l2 t d) (l2 t d * l2 t' d') := by
  refine of_sc (gg h h') ?_ crossD
  rw [Nat.mul_sub, ← cross, ← cross']
theorem mul_l {t d t' d' : Nat} (h : 0 < d) (h' : 0 < d') : l1 (t * t') (d * d') = l1 (l1 t d * l1 t' d') (l2 t d * l2 t' d') ∧ l2 (t * t') (d * d') = l2 (l1 t d * l1 t' d') (l2 t d * l2 t' d') :=
  of_sc (gg h h') crossT crossD
theorem one_l {t d : Nat} (h : 0 < d) : l1 (d - t) d = l1 (l2 t d - l1 t d) (l2 t d) ∧ l2 (d - t) d = l2 (l2 t d - l1 t d) (l2 t d) := by
  refine of_sc (c := Nat.gcd t d) (g_pos h) ?_ (eq2 t d)
  rw [Nat.mul_sub, ← eq2, ← eq1]
theorem pow_l {t d : Nat} (n : Nat) (h : 0 < d) : l1 (t ^ n) (d ^ n) = l1 (l1 t d ^ n) (l2 t d ^ n) ∧ l2 (t ^ n) (d ^ n) = l2 (l1 t d ^ n) (l2 t d ^ n) := by
  refine of_sc (c := Nat.gcd t d ^ n) (Nat.pow_pos (g_pos h)) ?_ ?_
  · rw [← Nat.mul_pow, ← eq1]
  · rw [← Nat.mul_pow, ← eq2]
theorem eq_iff {t d t' d' : Nat} (h : 0 < d) (h' : 0 < d') : (l1 t d = l1 t' d' ∧ l2 t d = l2 t' d') ↔ t * d' = t' * d := by
  constructor
  · rintro ⟨a, b⟩
    rw [cross (t := t) (d := d) (t' := t') (d' := d'), cross' (t := t) (d := d) (t' := t') (d' := d'), a, b]
  · intro e
    have a := sc1 h' t d
    have b := sc2 h' t d
    have a' := sc1 h t' d'
    have b' := sc2 h t' d'
    rw [← a, ← b, ← a', ← b', Nat.mul_comm d' t, e, Nat.mul_comm t' d, Nat.mul_comm d' d]
    exact ⟨rfl, rfl⟩
end M36

end
section
set_option Elab.async false
set_option linter.all false
set_option maxRecDepth 100000
set_option maxHeartbeats 4000000

namespace N1
open PySem PySem.Spec PyProof.Rows L2
section
variable {X : Cx} {CX : CXT} {C g : Addr} {n : Nat} {sp : Sp} {E : XK}
def rBin (C : Addr) (sp : Sp) (E : XK) : R2 := fun x y H Q => ∃ a dx vs b dy ws, x = .ref a ∧ y = .ref b ∧ SlX.Slt H a C dx vs ∧ SlX.Slt H b C dy ws ∧ sp [x, y] H Q E
theorem op_bin {op : Operator} (hc : PySem.W.selfFirst X.K C = true) (hs : PySem.W.findIn X.K (.ref C) (PySem.dunder op.info.2) = some (some (.ref g))) (hf : PySem.W.isFn X.K (.ref g) = true)
    (F : FnR X.prog X.w X.K X.mg X.base CX n g sp) (hr : Room n X.A) (hx : Passes CX X E) : OpR X (binaryOp op) (rBin C sp E) := by
  intro pins s σ H x y v u Q I rx ry h
  obtain ⟨a, dx, vs, b, dy, ws, rfl, rfl, ha, hb, q⟩ := h
  cases (show v = Value.ref a from rx)
  cases (show u = Value.ref b from ry)
  obtain ⟨sl, od, _, J, _⟩ := SlX.slt_inst I ha
  obtain ⟨sl', od', _, J', _⟩ := SlX.slt_inst I hb
  obtain ⟨m, hF⟩ := I.fr
  refine PySem.W.binop_K hF I.ok.mod.kin J J'.type hc hs hf ?_
  refine wpAny_mono (wpAny_call (run_fnR (us := [.ref a, .ref b]) (vs := [.ref a, .ref b]) F hr hx I (.cons rfl (.cons rfl .nil)) q)) (fun w s' z => ?_) fun _ _ x => x
  obtain ⟨z', H', I', rz, qz⟩ := z
  exact SlX.cmpback rz ⟨z', H', I', rz, qz⟩
structure BinI (K : PySem.W.Frag) (C g : Addr) (nm : String) (fo ro rc : Option Value) : Prop where
  hc : PySem.W.selfFirst K C = true
  hs : PySem.W.findIn K (.ref C) (PySem.dunder nm) = some (some (.ref g))
  hf : PySem.W.isFn K (.ref g) = true
  hr : PySem.W.findIn K (.ref C) (dunderR nm) = some rc
  hp : rc = none ∨ ∃ g' : Addr, rc = some (.ref g')
  h1 : PySem.W.findIn K (.type "int") (PySem.dunder nm) = some fo
  h2 : PySem.W.findIn K (.type "int") (dunderR nm) = some ro
  hsub : PySem.W.subIn K (.type "int") (.ref C) = some false
def rBinI (C : Addr) (sp : Sp) (E : XK) : R2 := fun x y H Q => ∃ a dx vs i, x = .ref a ∧ y = .int i ∧ SlX.Slt H a C dx vs ∧ sp [x, y] H Q E
theorem op_binI {op : Operator} {fo ro rc : Option Value} (B : BinI X.K C g op.info.2 fo ro rc) (F : FnR X.prog X.w X.K X.mg X.base CX n g sp) (hr : Room n X.A) (hx : Passes CX X E) : OpR X (binaryOp op) (rBinI C sp E) := by
  intro pins s σ H x y v u Q I rx ry h
  obtain ⟨a, dx, vs, i, rfl, rfl, ha, q⟩ := h
  cases (show v = Value.ref a from rx)
  obtain ⟨t, rfl⟩ := (show ∃ t, u = Value.int i t from ry)
  obtain ⟨sl, od, _, J, _⟩ := SlX.slt_inst I ha
  obtain ⟨m, hF⟩ := I.fr
  refine PySem.W.ksp_binT (T := "int") hF I.ok.mod.kin J rfl B.hc B.hs B.hf B.hr B.hp B.h1 B.h2 B.hsub ?_
  refine wpAny_mono (wpAny_call (run_fnR (us := [.ref a, .int i t]) (vs := [.ref a, .int i]) F hr hx I (.cons rfl (.cons ⟨t, rfl⟩ .nil)) q)) (fun w s' z => ?_) fun _ _ x => x
  obtain ⟨z', H', I', rz, qz⟩ := z
  exact SlX.cmpback rz ⟨z', H', I', rz, qz⟩
end

structure SMet (K : PySem.W.Frag) (C : Addr) (mc : Value) (m : Str) (p g : Addr) : Prop where
  at_ : PySem.W.findCls K (.ref C) mc m = some (.get (.builtin "staticmethod.__get__") (.ref p) .none (.ref C))
  rc : ∃ rest, PySem.W.recIn K p "staticmethod" = some (.ref g :: rest)
  kp : PySem.W.keepIn K (.ref g) = true
def tStat (C : Addr) (sp : Sp) (E : XK) (ta : TE) : TE := fun σ H Q => ta σ H fun x H1 => x = .ref C ∧ sp [] H1 Q E
section
variable {X : Cx} {CX : CXT} {C p g : Addr} {k : Nat} {sp : Sp} {E : XK} {mc : Value} {m : Str} {o : Expr} {ta : TE} {pos apos : Pos} {pl : Sem Bool}
theorem pe_static0 (he : PE X o ta) (r : ClX.CRead X.K C mc) (c : SMet X.K C mc m p g) (F : FnR X.prog X.w X.K X.mg X.base CX k g sp) (hr : Room k X.A) (hx : Passes CX X E)
    (ht : eval (.Call (.Attribute o m apos) [] [] pos) X.env = (do
      let ov ← eval o X.env
      standAt apos.atName
      let (f, first) ← holding [ov] (getMethod ov m pl)
      callWith pos f first (backTo pos (starEach [] X.env)) (backToKw pos (keywordEach [] X.env))) := by rfl) :
    PE X (.Call (.Attribute o m apos) [] [] pos) (tStat C sp E ta) := by
  refine ⟨fun pins s σ H Q I h => ?_⟩
  refine PySem.W.methodCall_KW (pl := pl) (thn (he.run pins s σ H _ I h) fun u s1 ⟨x, H1, I1, rx, ex, q⟩ => ?_) ht
  subst ex
  obtain rfl : u = Value.ref C := rx
  obtain ⟨rest, hp⟩ := c.rc
  refine PySem.W.method_cls I1.kIn r.ga (PySem.W.cls_bind I1.kIn r.rd c.at_ (wpAny_call (PySem.W.sm_get (s := { s1 with toks := s1.toks + 1 }) I1.kIn hp (PySem.W.handed_on rfl ?_))))
  have I2 : Inv X pins σ H1 { s1 with toks := s1.toks + 1 } := I1.tok _
  exact PySem.W.callWith_K0 (first := []) I2.kIn c.kp (wpAny_call (run_fnR (us := []) (vs := []) F hr hx I2 .nil q))

def gSl (K : PySem.W.Frag) (ta : TE) (f : Str) : TG := fun v σ H Q => ta σ H fun x H1 => ∃ a C dx p vs i, x = .ref a ∧ SlX.Slt H1 a C dx vs ∧ SlX.SCls K C ∧ SlX.Slot1 K C f p i ∧ Q σ (SlX.slH H1 a C dx (SlX.putS i v vs))
theorem pg_sl {f : Str} {pos : Pos} (ho : PE X o ta) : PG X (.Attribute o f pos) (gSl X.K ta f) := by
  refine ⟨fun pins s σ H v u Q I r h => ?_⟩
  show wpAny _ _ (do
    let ov ← holding [u] (eval o X.env)
    standAt pos.atName
    holding [u, ov] (setAttr ov f u)
    release [u, ov] []) _ _ _
  refine wpAny_bind (wpAny_holding (thn (ho.run pins s σ H _ I h) fun ov s1 ⟨x, H1, I1, r1, a, C, dx, p, vs, i, ex, hs, c, t, q⟩ => ?_))
  subst ex
  obtain rfl : ov = Value.ref a := r1
  refine wpAny_bind (wpAny_standAt (wpAny_bind (wpAny_holding (SlX.setslot_ok I1 hs c t r fun s2 I2 => wpAny_release ⟨σ, _, I2, q⟩))))
end
end N1

end
section
set_option Elab.async false
set_option linter.all false
set_option maxRecDepth 100000
set_option maxHeartbeats 4000000
namespace N1
open PySem PySem.Spec PyProof.Rows L2 PySem.W in
section
variable {prog : Program} {w : World} {A : Around} {E : Value → Shared → Prop} {s : Shared} {K : Frag} {x C f f0 : Addr} {ox : Obj} {od : Option Obj}
open PySem PySem.Spec PyProof.Rows L2 PySem.W
theorem int_sub_inst {i : Int} {t : Tok} {Q : Option Value → Shared → Prop} (hx : s.heap.get? x = some ox) (hd : ∀ v, ox.data ≠ .prim v) (h : Q none s) :
    wpAny (model prog w) A (tryMethod (.int i t) (PySem.dunder "sub") (.ref x)) Q E s := by
  have h1 : s.TypeIs (.int i t) "int" := PySem.typeIs_int s i t
  have h2 := PyProof.Rows.slot_int_sub
  apply wpAny_tryMethod_declines h1 h2
  refine wpAny_call_entry (T := "int") (id := "int.__sub__") PyProof.Rows.slot_int_sub (PySem.typeIs_int s i t) PyProof.Rows.entry_int_sub ?_ (PyProof.Rows.args_int_sub _ _)
  unfold Builtin.«int.__sub__» Builtin.Int.intBinary
  have e1 : slotArgs "__sub__" 1 ⟨[.int i t, .ref x], []⟩ = pure (.int i t, [.ref x]) := rfl
  have e2 : Builtin.Int.intOfSelf (.int i t) = pure i := rfl
  rw [e1]
  refine wpAny_bind (wpAny_pure ?_)
  show wpAny _ _ (Builtin.Int.intOfSelf (.int i t) >>= _) _ _ _
  rw [e2]
  refine wpAny_bind (wpAny_pure ?_)
  refine wpAny_bind ?_
  show wpAny _ _ (asInt? (.ref x)) _ _ _
  unfold asInt?
  refine wpAny_bind (wpAny_load hx ?_)
  obtain ⟨oc, odd, oda, osl⟩ := ox
  dsimp only
  cases oda with
  | prim v => exact absurd rfl (hd v)
  | _ => exact wpAny_pure (wpAny_bind (wpAny_rule (wpAny_pure ⟨_, rfl, rfl, h⟩)))
theorem rsub_inst {i : Int} {t : Tok} {Q : Value → Shared → Prop} (X : K.In s.heap) (I : InstAt s.heap x ox C od) (hd : ∀ v, ox.data ≠ .prim v) (hc : selfFirst K C = true)
    (h0 : findIn K (.ref C) (PySem.dunder "sub") = some (some (.ref f0)))
    (hs : findIn K (.ref C) (dunderR "sub") = some (some (.ref f))) (hf : isFn K (.ref f) = true) (hsub : subIn K (.ref C) (.type "int") = some false)
    (h : wpAny (model prog w) A (call (.ref f) [.ref x, .int i t]) (PySem.W.CmpBack Q) E s) : wpAny (model prog w) A (binaryOp .Sub (.int i t) (.ref x)) Q E s := by
  obtain ⟨cd, rest, hcd, hm⟩ := ksp_first hc
  have hx := I.at_
  have two := ksp_try X I hs hf h
  obtain ⟨hh, g, d, tt, os⟩ := s
  have L1 : Looks (model prog w) hh (typeOf (.ref x)) (.ref C) := I.type
  have L3 : Looks (model prog w) hh (fillsNumberSlot (.ref C) "sub") true := fills_K X hcd hm h0
  have L5 : Looks (model prog w) hh (isSubtype (.ref C) (.type "int")) false := looks_subIn X hsub
  have hne : (Value.type "int" == Value.ref C) = false := Bool.eq_false_iff.mpr fun q => by cases beq_iff_eq.mp q
  show wpAny _ _ (binaryOp .Sub (.int i t) (.ref x)) _ _ _
  simp only [binaryOp, Operator.info]
  refine wpAny_holding (wpAny_bind ?_)
  unfold binaryOp1
  refine wpAny_bind (wpAny_typeOf (PySem.typeIs_int _ i t) (wpAny_bind (L1.at (wpAny_bind ?_))))
  refine wpAny_of_eq (a := true) PyProof.Rows.fills_int_sub ?_
  simp only [hne, Bool.false_eq_true, if_false]
  refine wpAny_bind (L3.at ?_)
  simp only [Bool.and_self, if_true]
  refine wpAny_bind (L5.at ?_)
  have hpy : numberSlotInPython (.type "int") "sub" = pure false := rfl
  simp only [Bool.false_eq_true, if_false, pure_bind, Bool.not_false, Bool.and_self, if_true, hpy]
  refine wpAny_bind (int_sub_inst hx hd ?_)
  refine wpAny_bind (wpAny_mono two (fun r s' hr' => ?_) fun _ _ e => e)
  obtain ⟨v, rfl, hq⟩ := hr'
  exact wpAny_bind (wpAny_rule (wpAny_pure (wpAny_pure hq)))
end
open PySem PySem.Spec PyProof.Rows L2

theorem ns_some_of {K : PySem.W.Frag} {h : Heap} {N : Addr} {mg : Str → Option Value} {n : Str} {v : Value} (X : K.In h) (G : h.Ns N mg) (e : PySem.W.nsIn K N n = some (some v)) : mg n = some v := by
  obtain ⟨o, es, ep, ho, hd, _, hf⟩ := G
  unfold PySem.W.nsIn at e
  split at e
  · rename_i c d es' n' sl q
    have := X _ _ q
    rw [ho] at this
    cases this
    cases hd
    split at e
    · rename_i en he
      cases e
      rw [← hf]
      unfold nsFind findBy
      rw [← Array.find?_toList, he]
      rfl
    · split at e <;> cases e
  · cases e
structure NeC (K : PySem.W.Frag) (C g : Addr) : Prop where
  cls : ∃ nm q N bs hdct sn sub ab col dd k0 k1 k2 k3 k5 newId, K.lookup C = some (excClassObj nm q C N bs [.type "object"] hdct sn sub ab col dd k0 k1 k2 k3 k5 newId) ∧ PySem.W.nsOkIn K N = true ∧ PySem.W.nsIn K N "__eq__" = some (some (.ref g)) ∧ PySem.W.nsIn K N "__ne__" = some none
  fn : ∃ o, K.lookup g = some o ∧ o.cls = .type "function"
section
variable {X : Cx} {CX : CXT} {C g : Addr} {n : Nat} {sp : Sp} {E : XK}
def rRsub (C : Addr) (sp : Sp) (E : XK) : R2 := fun x y H Q => ∃ i a dx vs, x = .int i ∧ y = .ref a ∧ SlX.Slt H a C dx vs ∧ sp [y, x] H Q E
theorem op_rsub {g0 : Addr} (hc : PySem.W.selfFirst X.K C = true) (h0 : PySem.W.findIn X.K (.ref C) (PySem.dunder "sub") = some (some (.ref g0))) (hs : PySem.W.findIn X.K (.ref C) (dunderR "sub") = some (some (.ref g))) (hf : PySem.W.isFn X.K (.ref g) = true)
    (hsub : PySem.W.subIn X.K (.ref C) (.type "int") = some false) (F : FnR X.prog X.w X.K X.mg X.base CX n g sp) (hr : Room n X.A) (hx : Passes CX X E) : OpR X (binaryOp .Sub) (rRsub C sp E) := by
  intro pins s σ H x y v u Q I rx ry h
  obtain ⟨i, a, dx, vs, rfl, rfl, ha, q⟩ := h
  obtain ⟨t, rfl⟩ := (show ∃ t, v = Value.int i t from rx)
  cases (show u = Value.ref a from ry)
  obtain ⟨sl, od, _, J, _⟩ := SlX.slt_inst I ha
  refine rsub_inst I.kIn J (fun v z => nomatch z) hc h0 hs hf hsub ?_
  refine wpAny_mono (wpAny_call (run_fnR (us := [.ref a, .int i t]) (vs := [.ref a, .int i]) F hr hx I (.cons rfl (.cons ⟨t, rfl⟩ .nil)) q)) (fun w s' z => ?_) fun _ _ x => x
  obtain ⟨z', H', I', rz, qz⟩ := z
  exact SlX.cmpback rz ⟨z', H', I', rz, qz⟩
def rNeOwn (C : Addr) (sp : Sp) (E : XK) : R2 := fun x y H Q => ∃ a dx vs b dy ws, x = .ref a ∧ y = .ref b ∧ SlX.Slt H a C dx vs ∧ SlX.Slt H b C dy ws ∧ sp [x, y] H (fun v H' => ∃ c, v = .bl c ∧ Q (.bl (!c)) H') E
theorem op_neOwn (T : NeC X.K C g) (F : FnR X.prog X.w X.K X.mg X.base CX n g sp) (hr : Room (n + 1) X.A) (hx : Passes CX X E) : OpR X (compareOp .NotEq) (rNeOwn C sp E) := by
  intro pins s σ H x y v u Q I rx ry h
  obtain ⟨a, dx, vs, b, dy, ws, rfl, rfl, ha, hb, q⟩ := h
  cases (show v = Value.ref a from rx)
  cases (show u = Value.ref b from ry)
  obtain ⟨sl, od, _, J, _⟩ := SlX.slt_inst I ha
  obtain ⟨sl', od', _, J', _⟩ := SlX.slt_inst I hb
  obtain ⟨nm, qn, N, bs, hdct, sn, sub, ab, col, dd, k0, k1, k2, k3, k5, newId, lC, hok, he, hn⟩ := T.cls
  obtain ⟨of, lg, tg⟩ := T.fn
  have KX := I.kIn
  have ns : s.heap.Ns N _ := .of_isNs (PySem.W.isNs_of_in KX hok)
  obtain ⟨hp, gs, dr, tk, os⟩ := s
  have OE : hp.OwnEqNoNe a C g "object" [.type "object"] := by
    refine ⟨_, of, nm, qn, N, bs, hdct, sn, sub, ab, col, dd, k0, k1, k2, k3, k5, newId, _, _, J.at_, rfl, KX _ _ lC, ns, ?_, KX _ _ lg, tg, PySem.F.cmp_object.mro, PySem.F.cmp_object.eq.lookup, PySem.W.nsMap_none_of_in KX hok hn⟩
    exact ns_some_of KX ns he
  refine compareOp_ne_ownEq (prog := X.prog) (w := X.w) PySem.F.cmp_object OE J'.at_ rfl (by have := hr.un; omega) ?_
  refine wpAny_mono (wpAny_call (SlX.run_at (us := [.ref a, .ref b]) (ws := [.ref a, .ref b]) F hr.in1 I.env0.in1 hx I (.cons rfl (.cons rfl .nil)) q)) (fun w s' z => ?_) fun _ _ x => x
  obtain ⟨z', H', I', rz, c, ec, qz⟩ := z
  subst ec
  cases (show w = Value.bool c from rz)
  exact ⟨c, rfl, .bl (!c), H', I', rfl, qz⟩
end
end N1

end
section
set_option Elab.async false
set_option linter.all false
set_option maxRecDepth 100000
set_option maxHeartbeats 4000000
namespace N1
open PySem PySem.Spec PyProof.Rows L2
section
variable {X : Cx} {CX : CXT} {k : Nat} {f : Addr} {sp : Sp} {E : XK} {x : Str} {p pos : Pos} {e : Expr} {es : List Expr} {t : TA}
def tCallR (sp : Sp) (E : XK) (t : TA) : TE := fun σ H Q => t σ H fun vs H1 => sp vs H1 Q E
theorem pe_callR (F : FnR X.prog X.w X.K X.mg X.base CX k f sp) (hr : Room k X.A) (hg : Gl X x) (hm : X.mg x = some (.ref f)) (hk : PySem.W.keepIn X.K (.ref f) = true) (hx : Passes CX X E)
    (ha : PA X (e :: es) t) (hdb : (x == ("__debug__" : Str)) = false := by decide) (he : starEach (e :: es) X.env = (false, eval e X.env) :: starEach es X.env := by rfl) (hpl : (backTo pos (starEach es X.env)).any (·.1) = false := by rfl) :
    PE X (.Call (.Name x p) (e :: es) [] pos) (tCallR sp E t) := by
  refine ⟨fun pins s σ H Q I h => ?_⟩
  refine wpAny_Call_Name_kw (ld_glob I hg hm ?_ hdb)
  refine PySem.W.callWith_K (h₀ := X.base) I.ok.mod.kin hk (thn (ha.run pos pins s σ H _ I h) fun us s1 ⟨vs, H1, I1, r, q⟩ => ⟨I1.kIn, ?_⟩) he hpl
  exact wpAny_call (run_fnR F hr hx I1 r q)
end

section
variable {P : Program} {w : World} {K : PySem.W.Frag} {mg : Str → Option Value} {base : Heap}
abbrev Def1 (K : PySem.W.Frag) (x qual : Str) (st : Stmt) (dvs : List V) (f : Addr) : Prop := ∃ fd, FunD K x qual (defArgs st) (defBody st) (defScope st) dvs [] f fd
theorem def_R {CX : CXT} {x qual : Str} {st : Stmt} {f : Addr} {N ps : List Str} {k : Nat} {sp : Sp} (D : Def1 K x qual st [] f) (S : FnScope N ps (defScope st))
    (hb : ∀ (kV doc pm : Value) (an : Option Addr) (cdv ct : Value) (us : List Value), us.length = ps.length → bindArgs (PySem.W.fnOf x qual (defArgs st) (defBody st) (defScope st) .none kV doc pm an cdv ct) ⟨us, []⟩ = pure (ps.zip us))
    (len : ∀ vs H Q E, sp vs H Q E → vs.length = ps.length)
    (hbody : ∀ (cdv : Value) (A : Around) (outer : List Env) (s : Shared) (H : Hp) (vs : List V) (Q : VK) (E : XK), Room k (A.deeper (envOfC qual (defScope st) s.heap.objs.size f cdv)) → sp vs H Q E →
      ∃ t, PSs (cxOf CX P w K mg base N qual (defScope st) f cdv A outer s H E) (defBody st) t ∧ t { nx := fun _ H' => Q .non H', rt := Q } (start N vs) H) : FnR P w K mg base CX (k + 1) f sp := by
  obtain ⟨fd, F⟩ := D
  have G := F.ok S len hbody
  exact (G.raw (F.bindsN hb) .nil).imp fun vs H Q E h => by rw [List.append_nil]; exact h
theorem def_R1 {CX : CXT} {x qual : Str} {st : Stmt} {f : Addr} {N ps : List Str} {k n : Nat} {sp : Sp} {d : V} (D : Def1 K x qual st [d] f) (S : FnScope N ps (defScope st)) (hn : n + 1 = ps.length)
    (hb : ∀ (T : Addr) (kV doc pm : Value) (an : Option Addr) (cdv ct : Value) (us its : List Value), us.length = n → its.length = 1 →
      ∃ k, bindArgs (PySem.W.fnOf x qual (defArgs st) (defBody st) (defScope st) (.ref T) kV doc pm an cdv ct) ⟨us, []⟩ = seqItems? (.ref T) >>= k ∧ k (some its.toArray) = pure (ps.zip (us ++ its)))
    (hb0 : ∀ (T : Addr) (kV doc pm : Value) (an : Option Addr) (cdv ct : Value) (us its : List Value), us.length = ps.length → its.length = 1 →
      ∃ k, bindArgs (PySem.W.fnOf x qual (defArgs st) (defBody st) (defScope st) (.ref T) kV doc pm an cdv ct) ⟨us, []⟩ = seqItems? (.ref T) >>= k ∧ k (some its.toArray) = pure (ps.zip us))
    (len : ∀ vs H Q E, sp vs H Q E → vs.length = ps.length)
    (hbody : ∀ (cdv : Value) (A : Around) (outer : List Env) (s : Shared) (H : Hp) (vs : List V) (Q : VK) (E : XK), Room k (A.deeper (envOfC qual (defScope st) s.heap.objs.size f cdv)) → sp vs H Q E →
      ∃ t, PSs (cxOf CX P w K mg base N qual (defScope st) f cdv A outer s H E) (defBody st) t ∧ t { nx := fun _ H' => Q .non H', rt := Q } (start N vs) H) :
    FnR P w K mg base CX (k + 1) f sp ∧ FnR P w K mg base CX (k + 1) f (fun vs H Q E => sp (vs ++ [d]) H Q E) := by
  obtain ⟨fd, F⟩ := D
  have G := F.ok S len hbody
  obtain ⟨ds, r1, b1⟩ := F.binds1 (ps := ps) n 0 (by simp) (by simpa using hn) (fun T kV doc pm an cdv ct us its h1 h2 => by
    obtain ⟨k, e1, e2⟩ := hb T kV doc pm an cdv ct us its h1 (by simpa using h2)
    exact ⟨k, e1, by simpa using e2⟩)
  obtain ⟨ds0, r0, b0⟩ := F.binds1 (ps := ps) ps.length 1 (by simp) (by simp) (fun T kV doc pm an cdv ct us its h1 h2 => by
    obtain ⟨k, e1, e2⟩ := hb0 T kV doc pm an cdv ct us its h1 (by simpa using h2)
    have e3 : its.drop 1 = [] := List.drop_eq_nil_of_le (by simp at h2; omega)
    exact ⟨k, e1, by rw [e2, e3, List.append_nil]⟩)
  refine ⟨?_, ?_⟩
  · have r0' : Vals [] ds0 := by simpa using r0
    exact (G.raw b0 r0').imp fun vs H Q E h => by rw [List.append_nil]; exact h
  · have r1' : Vals [d] ds := by simpa using r1
    exact G.raw b1 r1'
end
theorem ifT {c : Bool} {A B : Prop} (hc : c = true) (h : A) : if c = true then A else B := by
  rw [if_pos hc]
  exact h
theorem ifF {c : Bool} {A B : Prop} (hc : c = false) (h : B) : if c = true then A else B := by
  rw [hc, if_neg Bool.false_ne_true]
  exact h
theorem ifB {c : Bool} {A B : Prop} (h1 : c = true → A) (h2 : c = false → B) : if c = true then A else B := by
  cases c with
  | true => exact iteT (h1 rfl)
  | false => exact iteF (h2 rfl)
end N1

end
section
set_option Elab.async false
set_option linter.all false
set_option maxRecDepth 100000
set_option maxHeartbeats 4000000
namespace K36
open PySem PySem.Spec PyProof.Rows L2 N1
def top (i : Nat) : Stmt := PySem.Challenge.pw_emptyup_k36_whole_fractions.main.body.getD i (.Pass ⟨0, 0, 0, 0⟩)
abbrev sNum : Stmt := top 4
abbrev sLowest : Stmt := top 6
abbrev sCh : Stmt := top 7
abbrev sInit : Stmt := inClass sCh 1
abbrev sTop : Stmt := inClass sCh 2
abbrev sBot : Stmt := inClass sCh 3
abbrev sNev : Stmt := inClass sCh 4
abbrev sSur : Stmt := inClass sCh 5
abbrev sAdd : Stmt := inClass sCh 6
abbrev sSub : Stmt := inClass sCh 7
abbrev sRsub : Stmt := inClass sCh 8
abbrev sMul : Stmt := inClass sCh 9
abbrev sPow : Stmt := inClass sCh 10
abbrev sLt : Stmt := inClass sCh 11
abbrev sLe : Stmt := inClass sCh 12
abbrev sGt : Stmt := inClass sCh 13
abbrev sGe : Stmt := inClass sCh 14
abbrev sEq : Stmt := inClass sCh 15
abbrev sCell : Stmt := top 9
abbrev sCommon : Stmt := top 10
abbrev sLow : Stmt := top 11
abbrev sDrawn : Stmt := top 12
abbrev sIs : Stmt := top 13
abbrev sKind : Stmt := top 14
abbrev sSums : Stmt := top 15
abbrev sTurns : Stmt := top 16
abbrev sAlone : Stmt := top 17
abbrev sRef : Stmt := top 18
abbrev sLaw : Stmt := top 19

structure Ad where
  C : Addr
  Ce : Addr
  Ch : Addr
  num : Addr
  lowest : Addr
  init : Addr
  pTop : Addr
  fTop : Addr
  pBot : Addr
  fBot : Addr
  pPart : Addr
  pWhole : Addr
structure Bt (mg : Str → Option Value) : Prop where
  isi : mg "isinstance" = none
  int : mg "int" = none
  bool : mg "bool" = none
  len : mg "len" = none
  abs : mg "abs" = none
  max : mg "max" = none
  range : mg "range" = none
  valueError : mg "ValueError" = none
structure T1 (K : PySem.W.Frag) (mg : Str → Option Value) (a : Ad) : Prop where
  b : Bt mg
  dNum : Def1 K "is_number" "is_number" sNum [.non] a.num
  gNum : mg "is_number" = some (.ref a.num)
  dLowest : Def1 K "lowest" "lowest" sLowest [] a.lowest
  gLowest : mg "lowest" = some (.ref a.lowest)
  dInit : Def1 K "__init__" "Chance.__init__" sInit [.int 1] a.init
  gC : mg "Chance" = some (.ref a.C)
  gCe : mg "BadChance" = some (.ref a.Ce)
  mkC : Mk K a.C a.init
  scl : SlX.SCls K a.C
  isi : SlX.SIsi K a.C
  part : SlX.Slot1 K a.C "part" a.pPart 0
  whole : SlX.Slot1 K a.C "whole" a.pWhole 1
  xE : PySem.W.excIn K a.Ce [.type "ValueError", .type "Exception", .type "BaseException", .type "object"] "ValueError.__new__" = true
  kE : PySem.W.keepIn K (.ref a.Ce) = true
  bE : PySem.W.subIn K (.ref a.Ce) (.type "BaseException") = some true
  tE : PySem.W.typeIn K (.ref a.Ce) = some (.type "type")
  dTop : Def1 K "top" "Chance.top" sTop [] a.fTop
  aTop : PySem.W.findIn K (.ref a.C) "top" = some (some (.ref a.pTop))
  gTop : PySem.W.specialIn K (.ref a.pTop) "__get__" = some (some (.builtin "property.__get__"))
  kTop : PySem.W.takesIn K (.ref a.pTop) = some true
  rTop : ∃ rest, PySem.W.recIn K a.pTop "property" = some (.ref a.fTop :: rest)
  dBot : Def1 K "bottom" "Chance.bottom" sBot [] a.fBot
  aBot : PySem.W.findIn K (.ref a.C) "bottom" = some (some (.ref a.pBot))
  gBot : PySem.W.specialIn K (.ref a.pBot) "__get__" = some (some (.builtin "property.__get__"))
  kBot : PySem.W.takesIn K (.ref a.pBot) = some true
  rBot : ∃ rest, PySem.W.recIn K a.pBot "property" = some (.ref a.fBot :: rest)
theorem kpD {K : PySem.W.Frag} {x q : Str} {st : Stmt} {ds : List V} {f : Addr} (D : Def1 K x q st ds f) : PySem.W.keepIn K (.ref f) = true := D.elim fun _ F => F.kp

def NotNum (H : Hp) (v : V) : Prop := v = .non ∨ (∃ b, v = .bl b) ∨ (∃ s, v = .str s) ∨ (∃ a xs, v = .ref a ∧ H a = some (.tup xs)) ∨ (∃ a xs, v = .ref a ∧ H a = some (.lst xs))
def spNum : Sp := fun vs H Q _ => ∃ (x : V) (l : Int) (m : V), vs = [x, .int l, m] ∧
  ((NotNum H x ∧ Q (.bl false) H) ∨ (∃ i, x = .int i ∧ m = .non ∧ Q (.bl (decide (l ≤ i))) H) ∨ (∃ i k, x = .int i ∧ m = .int k ∧ Q (.bl (decide (l ≤ i) && decide (i ≤ k))) H))
section
variable {P : Program} {w : World} {K : PySem.W.Frag} {mg : Str → Option Value} {base : Heap} {a : Ad}
theorem scNum : FnScope ["thing", "least", "most"] ["thing", "least", "most"] (defScope sNum) := ⟨rfl, rfl, rfl, by decide +kernel, rfl, by decide +kernel, by decide +kernel⟩
theorem ok_num (T : T1 K mg a) : FnR P w K mg base CX0 1 a.num spNum ∧ FnR P w K mg base CX0 1 a.num (fun vs H Q E => spNum (vs ++ [.non]) H Q E) := by
  refine def_R1 (n := 2) T.dNum scNum rfl (fun T kV doc pm an cdv ct us its h1 h2 => ?_) (fun T kV doc pm an cdv ct us its h1 h2 => ?_) (fun vs H Q E h => ?_) (fun cdv A outer s H vs Q E hr h => ?_)
  · match us, its, h1, h2 with
    | [_, _], [_], _, _ => exact ⟨_, rfl, rfl⟩
  · match us, its, h1, h2 with
    | [_, _, _], [_], _, _ => exact ⟨_, rfl, rfl⟩
  · obtain ⟨x, l, m, rfl, _⟩ := h
    rfl
  · obtain ⟨x, l, m, rfl, h⟩ := h
    refine ⟨_, PSs.nox (pss_cons (ps_if (PW.pt (pw_or (pt_not (pt_val (pe_callB call_isi (by rfl) T.b.isi (by decide +kernel) (pa_cons (pv 0) (pa_cons (pe_bltn (v := .ty "int") (by rfl) T.b.int boot_int rfl) pa_nil)))))
        (pw_or1 (pt_val (pe_callB call_isi (by rfl) T.b.isi (by decide +kernel) (pa_cons (pv 0) (pa_cons (pe_bltn (v := .ty "bool") (by rfl) T.b.bool (by decide +kernel) rfl) pa_nil))))))) (pss_one (ps_ret pe_bl)) pss_nil)
      (pss_one (ps_ret (pe_and (pe_cmp (pc_le (pv 1) (pv 0))) (pe_one (pe_or (pe_cmp (pc_isN (pv 2))) (pe_one (pe_cmp (pc_le (pv 0) (pv 2)))))))))), ?_⟩
    rcases h with ⟨hn, q⟩ | ⟨i, rfl, rfl, q⟩ | ⟨i, k, rfl, rfl, q⟩
    · rcases hn with rfl | ⟨b, rfl⟩ | ⟨z, rfl⟩ | ⟨p, xs, rfl, hp⟩ | ⟨p, xs, rfl, hp⟩
      · exact ⟨_, rfl, _, .ty "int", .type "NoneType", .type "int", false, rfl, .ty _, (.base .non), kit_ty (by decide +kernel), false, rfl, iteT (iteT q)⟩
      · refine ⟨_, rfl, _, .ty "int", .type "bool", .type "int", true, rfl, .ty _, .base (.bl b), kit_ty (by decide +kernel), true, rfl, ?_⟩
        refine iteF ⟨_, rfl, _, .ty "bool", .type "bool", .type "bool", true, rfl, .ty _, .base (.bl b), kit_ty (by decide +kernel), true, rfl, iteT q⟩
      · exact ⟨_, rfl, _, .ty "int", .type "str", .type "int", false, rfl, .ty _, (.base (.str z)), kit_ty (by decide +kernel), false, rfl, iteT (iteT q)⟩
      · exact ⟨_, rfl, _, .ty "int", .type "tuple", .type "int", false, rfl, .ty _, (.base (.tup hp)), kit_ty (by decide +kernel), false, rfl, iteT (iteT q)⟩
      · exact ⟨_, rfl, _, .ty "int", .type "list", .type "int", false, rfl, .ty _, (.base (.lst hp)), kit_ty (by decide +kernel), false, rfl, iteT (iteT q)⟩
    all_goals
      refine ⟨_, rfl, _, .ty "int", .type "int", .type "int", true, rfl, .ty _, .base (.int i), kit_ty (by decide +kernel), true, rfl, ?_⟩
      refine iteF ⟨_, rfl, _, .ty "bool", .type "int", .type "bool", false, rfl, .ty _, .base (.int i), kit_ty (by decide +kernel), false, rfl, iteF ?_⟩
      refine ⟨_, rfl, _, rfl, _, _, rfl, rfl, _, rfl, ?_⟩
    · by_cases c : l ≤ i
      · rw [decide_eq_true c] at q
        exact ifT (decide_eq_true c) ⟨_, rfl, true, rfl, iteT q⟩
      · rw [decide_eq_false c] at q
        exact ifF (decide_eq_false c) q
    · by_cases c : l ≤ i
      · rw [decide_eq_true c, Bool.true_and] at q
        exact ifT (decide_eq_true c) ⟨_, rfl, false, rfl, iteF ⟨_, rfl, _, rfl, _, _, rfl, rfl, q⟩⟩
      · rw [decide_eq_false c, Bool.false_and] at q
        exact ifF (decide_eq_false c) q
end
end K36

end
section
set_option Elab.async false
set_option linter.all false
set_option maxRecDepth 100000
set_option maxHeartbeats 4000000
namespace K36
open PySem PySem.Spec PyProof.Rows L2 N1 M36
theorem fmodN (x y : Nat) : (x : Int).fmod (y : Int) = ((x % y : Nat) : Int) := by
  rw [Int.fmod_eq_emod_of_nonneg _ (Int.natCast_nonneg y)]
  rfl
theorem wide (n : Nat) (h : n < 2 ^ 8000) (x : Int) (h0 : 0 < n) : CDivW x (n : Int) := wide_div (b := 8000) (by omega) (by simpa using h) (by decide) (by decide)

def spLowest : Sp := fun vs H Q _ => ∃ t d : Nat, vs = [.int (t : Int), .int (d : Int)] ∧ 0 < d ∧ d < 2 ^ 8000 ∧ ∀ p, H p = none → Q (.ref p) (upd H p (.tup [.int (l1 t d : Nat), .int (l2 t d : Nat)]))
theorem ndiv (a b : Nat) : (a : Int) / (b : Int) = ((a / b : Nat) : Int) := rfl
section
variable {P : Program} {w : World} {K : PySem.W.Frag} {mg : Str → Option Value} {base : Heap} {a : Ad}
theorem scLowest : FnScope ["top", "bottom", "one", "other"] ["top", "bottom"] (defScope sLowest) := ⟨rfl, rfl, rfl, by decide +kernel, rfl, by decide +kernel, by decide +kernel⟩
theorem ok_lowest (T : T1 K mg a) : FnR P w K mg base CX0 1 a.lowest spLowest := by
  refine def_R T.dLowest scLowest (fun _ _ _ _ _ _ us hl => match us, hl with | [_, _], _ => rfl) (fun vs H Q E h => ?_) (fun cdv A outer s H vs Q E hr h => ?_)
  · obtain ⟨t, d, rfl, _⟩ := h
    rfl
  · obtain ⟨t, d, rfl, hd, hb, q⟩ := h
    refine ⟨_, PSs.nox (pss_cons (ps_par (i := 2) (j := 3) (by rfl) scLowest.nd rfl rfl (by decide) rfl rfl (pa_cons (pv 0) (pa_cons (pv 1) pa_nil)) (by rfl))
      (pss_cons (ps_while PassesOwn.never (pt_cmpR op_ne (pv 3) pe_int (nomark _))
        (pss_one (ps_par (i := 2) (j := 3) (by rfl) scLowest.nd rfl rfl (by decide) rfl rfl (pa_cons (pv 3) (pa_cons (pe_op op_modN (pe_callTy call_int1 (by rfl) T.b.int boot_int (pa_cons (pv 2) pa_nil)) (pv 3)) pa_nil)) (by rfl))))
      (pss_one (ps_ret (pe_tup (pa_cons (pe_op op_fdivW (pv 0) (pv 2)) (pa_cons (pe_op op_fdivW (pv 1) (pv 2)) pa_nil))))))), ?_⟩
    refine ⟨_, rfl, _, rfl, _, _, rfl, ?_⟩
    refine while_by (fun σ H' => H' = H ∧ ∃ x y : Nat, σ = [some (.int (t : Int)), some (.int (d : Int)), some (.int (x : Int)), some (.int (y : Int))] ∧ Nat.gcd x y = Nat.gcd t d) (fun σ _ => match σ with | [_, _, _, some (.int y)] => y.toNat | _ => 0) ⟨rfl, t, d, rfl, rfl⟩ ?_ ?_
    · rintro σ H' ⟨rfl, x, y, rfl, g⟩
      refine ⟨_, rfl, rfl, _, rfl, ?_⟩
      by_cases c : y = 0
      · subst c
        refine ifF (by simp) ?_
        rw [Nat.gcd_zero_right] at g
        have hx : 0 < x := by rw [g]; exact g_pos hd
        have hxl : x < 2 ^ 8000 := by
          rw [g]
          exact Nat.lt_of_le_of_lt (Nat.le_of_dvd hd (Nat.gcd_dvd_right t d)) hb
        refine ⟨_, rfl, _, rfl, _, _, rfl, rfl, wide x hxl _ hx, _, rfl, _, rfl, _, _, rfl, rfl, wide x hxl _ hx, (by show 2 ≤ sizeLine; decide), fun p hp => ?_⟩
        have := q p hp
        unfold l1 l2 at this
        rw [← g] at this
        exact this
      · refine ifT (by simpa using c) ?_
        refine ⟨_, rfl, _, rfl, .inl ⟨_, rfl, _, rfl, _, _, rfl, rfl, (by omega), ?_⟩⟩
        refine ⟨_, _, rfl, ⟨rfl, y, x % y, ?_, ?_⟩, ?_⟩
        · show [some (V.int (t : Int)), some (V.int (d : Int)), some (V.int (y : Int)), some (V.int ((x : Int).fmod (y : Int)))] = _
          rw [fmodN]
        · rw [M36.step]
          exact g
        · show ((x : Int).fmod (y : Int)).toNat < (y : Int).toNat
          rw [fmodN]
          have := Nat.mod_lt x (Nat.pos_of_ne_zero c)
          omega
    · rintro σ H' Q Q' m ⟨v, h1, h2, b, e, h3⟩
      exact ⟨v, h1, h2, b, e, m _ _ h3⟩
end
end K36

end
section
set_option Elab.async false
set_option linter.all false
set_option maxRecDepth 100000
set_option maxHeartbeats 4000000
set_option exponentiation.threshold 10000
namespace K36
open PySem PySem.Spec PyProof.Rows L2 N1 M36
abbrev XN := LamX.ExtN
def ChF (a : Ad) (H : Hp) (x : Addr) (t d : Nat) : Prop := (∃ dx, SlX.Slt H x a.C dx [some (.int (l1 t d : Nat)), some (.int (l2 t d : Nat))]) ∧ 0 < d ∧ t ≤ d ∧ d < 2 ^ 2000
theorem slt_ext {H H' : Hp} {x C dx : Addr} {vs : List (Option V)} (e : XN H H') (h : SlX.Slt H x C dx vs) : SlX.Slt H' x C dx vs := by
  rcases h with ⟨h1, h2⟩ | ⟨h1, h2⟩
  · exact .inl ⟨e _ _ h1 (fun ps z => nomatch z), h2⟩
  · exact .inr ⟨e _ _ h1 (fun ps z => by unfold SlX.SlO at z; cases z), e _ _ h2 (fun ps z => nomatch z)⟩
theorem ChF.ext {a : Ad} {H H' : Hp} {x : Addr} {t d : Nat} (e : XN H H') (h : ChF a H x t d) : ChF a H' x t d := by
  obtain ⟨⟨dx, h1⟩, h2⟩ := h
  exact ⟨⟨dx, slt_ext e h1⟩, h2⟩
theorem ChF.same {a : Ad} {H H' : Hp} {x : Addr} {t d : Nat} (e : Same H H') (h : ChF a H x t d) : ChF a H' x t d := h.ext (LamX.ExtN.of e)
theorem ChF.of {a : Ad} {H : Hp} {x : Addr} {t d t' d' : Nat} (h : ChF a H x t d) (e : l1 t' d' = l1 t d ∧ l2 t' d' = l2 t d) (h1 : 0 < d') (h2 : t' ≤ d') (h3 : d' < 2 ^ 2000) : ChF a H x t' d' := by
  obtain ⟨⟨dx, q⟩, _⟩ := h
  refine ⟨⟨dx, ?_⟩, h1, h2, h3⟩
  rw [e.1, e.2]
  exact q
def BadCh (H : Hp) (vt vb : V) : Prop := (NotNum H vb ∨ ∃ b : Int, vb = .int b ∧ b < 1) ∨ (∃ b : Int, vb = .int b ∧ 1 ≤ b ∧ (NotNum H vt ∨ ∃ t : Int, vt = .int t ∧ (t < 0 ∨ b < t)))
def spInit (a : Ad) : Sp := fun vs H Q E => ∃ (x dx : Addr) (vt vb : V), vs = [.ref x, vt, vb] ∧ H x = some (.ins a.C dx []) ∧ dx ≠ x ∧
  ((∃ t d : Nat, vt = .int (t : Int) ∧ vb = .int (d : Int) ∧ 0 < d ∧ t ≤ d ∧ d < 2 ^ 2000 ∧ ∀ H', (∀ c o, H c = some o → c ≠ x → c ≠ dx → H' c = some o) → ChF a H' x t d → Q .non H') ∨
   (BadCh H vt vb ∧ E (.ref a.Ce) none H))
section
variable {P : Program} {w : World} {K : PySem.W.Frag} {mg : Str → Option Value} {base : Heap} {a : Ad}
theorem scInit : FnScope ["self", "top", "bottom"] ["self", "top", "bottom"] (defScope sInit) := ⟨rfl, rfl, rfl, by decide +kernel, rfl, by decide +kernel, by decide +kernel⟩
theorem ok_init (T : T1 K mg a) : FnR P w K mg base (L2.CX P w) 2 a.init (spInit a) ∧ FnR P w K mg base (L2.CX P w) 2 a.init (fun vs H Q E => spInit a (vs ++ [.int 1]) H Q E) := by
  refine def_R1 (n := 2) T.dInit scInit rfl (fun T kV doc pm an cdv ct us its h1 h2 => ?_) (fun T kV doc pm an cdv ct us its h1 h2 => ?_) (fun vs H Q E h => ?_) (fun cdv A outer s H vs Q E hr h => ?_)
  · match us, its, h1, h2 with
    | [_, _], [_], _, _ => exact ⟨_, rfl, rfl⟩
  · match us, its, h1, h2 with
    | [_, _, _], [_], _, _ => exact ⟨_, rfl, rfl⟩
  · obtain ⟨x, dx, vt, vb, rfl, _⟩ := h
    rfl
  · obtain ⟨x, dx, vt, vb, rfl, hx, nd, h⟩ := h
    have N := ok_num (P := P) (w := w) (base := base) T
    have L := ok_lowest (P := P) (w := w) (base := base) T
    refine ⟨_, pss_cons (ps_if (PW.pt (pw_or (pt_not (pt_val (pe_callR N.2 hr rfl T.gNum (kpD T.dNum) pass0 (pa_cons (pv 2) (pa_cons pe_int pa_nil)))))
        (pw_or1 (pt_not (pt_val (pe_callR N.1 hr rfl T.gNum (kpD T.dNum) pass0 (pa_cons (pv 1) (pa_cons pe_int (pa_cons (pv 2) pa_nil)))))))))
        (pss_one (ps_raise rfl (takes_of rfl rfl rfl rfl) (pmk_own PySem.F.excBase_ValueError T.xE T.gCe T.kE (raises_own T.bE T.tE) rfl))) pss_nil)
      (pss_one (ps_asg (pe_callR L hr rfl T.gLowest (kpD T.dLowest) pass0 (pa_cons (pv 1) (pa_cons (pv 2) pa_nil))) (pg_tup rfl (pgs_cons (pg_sl (pv 0)) (pgs_cons (pg_sl (pv 0)) pgs_nil))))), ?_⟩
    rcases h with ⟨t, d, rfl, rfl, hd, htd, hb, q⟩ | ⟨bad, q⟩
    · refine ⟨_, rfl, _, _, _, rfl, .inr (.inl ⟨_, rfl, rfl, ?_⟩)⟩
      refine ⟨_, rfl, ?_⟩
      refine ifF (by simp; omega) ?_
      refine ⟨_, rfl, _, rfl, _, _, _, rfl, .inr (.inr ⟨_, _, rfl, rfl, ?_⟩)⟩
      refine ⟨_, rfl, ?_⟩
      refine ifF (by simp; omega) ?_
      refine ⟨_, rfl, _, rfl, t, d, rfl, hd, Nat.lt_of_lt_of_le hb (Nat.pow_le_pow_right (by decide) (by decide)), fun p hp => ?_⟩
      have npx : p ≠ x := Ne.symm (ne_of_none hx hp)
      have hx1 : (upd H p (.tup [.int (l1 t d : Nat), .int (l2 t d : Nat)])) x = some (.ins a.C dx []) := by
        rw [upd_ne (Ne.symm npx)]
        exact hx
      refine ⟨p, _, rfl, .inl (.inl upd_same), rfl, _, _, rfl, _, rfl, x, a.C, dx, a.pPart, [], 0, rfl, .inl ⟨hx1, rfl⟩, T.scl, T.part, _, _, rfl, _, rfl, x, a.C, dx, a.pWhole, _, 1, rfl, SlX.slH_slt nd, T.scl, T.whole, rfl, ?_⟩
      refine q _ (fun c o hc h1 h2 => ?_) ⟨⟨dx, SlX.slH_slt nd⟩, hd, htd, hb⟩
      rw [SlX.slH_ne h1 h2, SlX.slH_ne h1 h2, upd_ne (ne_of_none hc hp)]
      exact hc
    · rcases bad with (nb | ⟨b, rfl, hb⟩) | ⟨b, rfl, hb, nt⟩
      · refine ⟨_, rfl, _, _, _, rfl, .inl ⟨nb, ?_⟩⟩
        exact ⟨_, rfl, iteT (iteT q)⟩
      · refine ⟨_, rfl, _, _, _, rfl, .inr (.inl ⟨_, rfl, rfl, ?_⟩)⟩
        refine ⟨_, rfl, ?_⟩
        exact ifT (by simp; omega) (iteT q)
      · refine ⟨_, rfl, _, _, _, rfl, .inr (.inl ⟨_, rfl, rfl, ?_⟩)⟩
        refine ⟨_, rfl, ?_⟩
        refine ifF (by simp; omega) ?_
        rcases nt with nt | ⟨t, rfl, ht⟩
        · refine ⟨_, rfl, _, rfl, _, _, _, rfl, .inl ⟨nt, ?_⟩⟩
          exact ⟨_, rfl, iteT q⟩
        · refine ⟨_, rfl, _, rfl, _, _, _, rfl, .inr (.inr ⟨_, _, rfl, rfl, ?_⟩)⟩
          exact ⟨_, rfl, ifT (by simp; omega) q⟩

def spTop (a : Ad) : Sp := fun vs H Q _ => ∃ x t d, vs = [.ref x] ∧ ChF a H x t d ∧ Q (.int (l1 t d : Nat)) H
def spBot (a : Ad) : Sp := fun vs H Q _ => ∃ x t d, vs = [.ref x] ∧ ChF a H x t d ∧ Q (.int (l2 t d : Nat)) H
theorem scTop : FnScope ["self"] ["self"] (defScope sTop) := ⟨rfl, rfl, rfl, by decide +kernel, rfl, by decide +kernel, by decide +kernel⟩
theorem scBot : FnScope ["self"] ["self"] (defScope sBot) := ⟨rfl, rfl, rfl, by decide +kernel, rfl, by decide +kernel, by decide +kernel⟩
theorem ok_top (T : T1 K mg a) : FnR P w K mg base CX0 1 a.fTop (spTop a) := by
  refine def_R T.dTop scTop (fun _ _ _ _ _ _ us hl => match us, hl with | [_], _ => rfl) (fun vs H Q E h => ?_) (fun cdv A outer s H vs Q E hr h => ?_)
  · obtain ⟨x, t, d, rfl, _⟩ := h
    rfl
  · obtain ⟨x, t, d, rfl, ⟨⟨dx, hx⟩, _⟩, q⟩ := h
    exact ⟨_, PSs.nox (pss_one (ps_ret (SlX.pe_sl (pv 0)))), _, rfl, x, a.C, dx, a.pPart, _, 0, _, rfl, hx, T.scl, T.part, rfl, q⟩
theorem ok_bot (T : T1 K mg a) : FnR P w K mg base CX0 1 a.fBot (spBot a) := by
  refine def_R T.dBot scBot (fun _ _ _ _ _ _ us hl => match us, hl with | [_], _ => rfl) (fun vs H Q E h => ?_) (fun cdv A outer s H vs Q E hr h => ?_)
  · obtain ⟨x, t, d, rfl, _⟩ := h
    rfl
  · obtain ⟨x, t, d, rfl, ⟨⟨dx, hx⟩, _⟩, q⟩ := h
    exact ⟨_, PSs.nox (pss_one (ps_ret (SlX.pe_sl (pv 0)))), _, rfl, x, a.C, dx, a.pWhole, _, 1, _, rfl, hx, T.scl, T.whole, rfl, q⟩
theorem p_top {X : Cx} {e : Expr} {ta : TE} {pos : Pos} (T : T1 X.K X.mg a) (hr : Room 2 X.A) (he : PE X e ta) (hb : attributeBase e "top" X.env (eval e X.env) = eval e X.env := by rfl) : PE X (.Attribute e "top" pos) (SlX.tPropSl a.C (spTop a) E0 ta) :=
  SlX.pe_propSl he T.scl T.aTop T.gTop T.kTop T.rTop (ok_top T) hr (fun _ _ _ _ h => h) hb
theorem p_bot {X : Cx} {e : Expr} {ta : TE} {pos : Pos} (T : T1 X.K X.mg a) (hr : Room 2 X.A) (he : PE X e ta) (hb : attributeBase e "bottom" X.env (eval e X.env) = eval e X.env := by rfl) : PE X (.Attribute e "bottom" pos) (SlX.tPropSl a.C (spBot a) E0 ta) :=
  SlX.pe_propSl he T.scl T.aBot T.gBot T.kBot T.rBot (ok_bot T) hr (fun _ _ _ _ h => h) hb
theorem mk_good {H : Hp} {Q : VK} {E : XK} {t d : Nat} (hd : 0 < d) (htd : t ≤ d) (hb : d < 2 ^ 2000) (q : ∀ x H', Same H H' → ChF a H' x t d → Q (.ref x) H') :
    ∀ x dx, H x = Option.none → H dx = Option.none → dx ≠ x → spInit a [V.ref x, .int (t : Int), .int (d : Int)] (upd (upd H dx (.own x)) x (.ins a.C dx [])) (fun v H2 => v = .non ∧ Q (.ref x) H2) E := by
  intro x dx hx hdx nd
  refine ⟨x, dx, _, _, rfl, upd_same, nd, .inl ⟨t, d, rfl, rfl, hd, htd, hb, fun H' k c => ⟨rfl, q x H' (fun b o e => ?_) c⟩⟩⟩
  have n1 := ne_of_none e hx
  have n2 := ne_of_none e hdx
  exact k b o (by rw [upd_ne n1, upd_ne n2]; exact e) n1 n2
theorem notNum_ext {H H' : Hp} {v : V} (e : Same H H') (h : NotNum H v) : NotNum H' v := by
  rcases h with h | h | h | ⟨p, xs, rfl, hp⟩ | ⟨p, xs, rfl, hp⟩
  · exact .inl h
  · exact .inr (.inl h)
  · exact .inr (.inr (.inl h))
  · exact .inr (.inr (.inr (.inl ⟨p, xs, rfl, e _ _ hp⟩)))
  · exact .inr (.inr (.inr (.inr ⟨p, xs, rfl, e _ _ hp⟩)))
theorem bad_ext {H H' : Hp} {v u : V} (e : Same H H') (h : BadCh H v u) : BadCh H' v u := by
  rcases h with (h | h) | ⟨b, h1, h2, h | h⟩
  · exact .inl (.inl (notNum_ext e h))
  · exact .inl (.inr h)
  · exact .inr ⟨b, h1, h2, .inl (notNum_ext e h)⟩
  · exact .inr ⟨b, h1, h2, .inr h⟩
theorem mk_bad {H : Hp} {Q : VK} {E : XK} {v u : V} (h : BadCh H v u) (q : ∀ H', Same H H' → E (.ref a.Ce) none H') :
    ∀ x dx, H x = Option.none → H dx = Option.none → dx ≠ x → spInit a [V.ref x, v, u] (upd (upd H dx (.own x)) x (.ins a.C dx [])) (fun v H2 => v = .non ∧ Q (.ref x) H2) E := by
  intro x dx hx hdx nd
  have s : Same H (upd (upd H dx (.own x)) x (.ins a.C dx [])) := fun b o e => by
    rw [upd_ne (ne_of_none e hx), upd_ne (ne_of_none e hdx)]
    exact e
  exact ⟨x, dx, _, _, rfl, upd_same, nd, .inr ⟨bad_ext s h, q _ s⟩⟩
end
end K36

end
section
set_option Elab.async false
set_option linter.all false
set_option maxRecDepth 100000
set_option maxHeartbeats 4000000
set_option exponentiation.threshold 10000
namespace K36
open PySem PySem.Spec PyProof.Rows L2 N1 M36
theorem cm {i j : Nat} (hi : i < 2 ^ 2000) (hj : j < 2 ^ 2000) : CMulW (i : Int) (j : Int) := wide_mul (a := 2000) (b := 2000) (by simpa using hi) (by simpa using hj) (by decide) (by decide) (by decide)
theorem ChF.b1 {a : Ad} {H : Hp} {x : Addr} {t d : Nat} (h : ChF a H x t d) : l1 t d < 2 ^ 2000 := Nat.lt_of_le_of_lt (Nat.le_trans (l1_le h.2.2.1) (l2_le t d)) h.2.2.2
theorem ChF.b2 {a : Ad} {H : Hp} {x : Addr} {t d : Nat} (h : ChF a H x t d) : l2 t d < 2 ^ 2000 := Nat.lt_of_le_of_lt (l2_le t d) h.2.2.2
theorem ChF.at {a : Ad} {H : Hp} {x : Addr} {t d : Nat} (h : ChF a H x t d) : ∃ dx, SlX.Slt H x a.C dx [some (.int (l1 t d : Nat)), some (.int (l2 t d : Nat))] := h.1
theorem dd_lt {t d t' d' : Nat} (h : d * d' < 2 ^ 2000) : l2 t d * l2 t' d' < 2 ^ 2000 := Nat.lt_of_le_of_lt (Nat.mul_le_mul (l2_le _ _) (l2_le _ _)) h
def Two (a : Ad) (vs : List V) (H : Hp) (x y : Addr) (t d t' d' : Nat) : Prop := vs = [.ref x, .ref y] ∧ ChF a H x t d ∧ ChF a H y t' d' ∧ d * d' < 2 ^ 2000
def spAdd (a : Ad) : Sp := fun vs H Q E => ∃ x y t d t' d', Two a vs H x y t d t' d' ∧
  ((t * d' + t' * d ≤ d * d' ∧ ∀ z H', Same H H' → ChF a H' z (t * d' + t' * d) (d * d') → Q (.ref z) H') ∨ (d * d' < t * d' + t' * d ∧ ∀ H', Same H H' → E (.ref a.Ce) none H'))
def spSub (a : Ad) : Sp := fun vs H Q E => ∃ x y t d t' d', Two a vs H x y t d t' d' ∧
  ((t' * d ≤ t * d' ∧ ∀ z H', Same H H' → ChF a H' z (t * d' - t' * d) (d * d') → Q (.ref z) H') ∨ (t * d' < t' * d ∧ ∀ H', Same H H' → E (.ref a.Ce) none H'))
def spMul (a : Ad) : Sp := fun vs H Q _ => ∃ x y t d t' d', Two a vs H x y t d t' d' ∧ ∀ z H', Same H H' → ChF a H' z (t * t') (d * d') → Q (.ref z) H'
def spCmp (p : Nat → Nat → Bool) (a : Ad) : Sp := fun vs H Q _ => ∃ x y t d t' d', Two a vs H x y t d t' d' ∧ Q (.bl (p (t * d') (t' * d))) H
def spRsub (a : Ad) : Sp := fun vs H Q _ => ∃ x t d, vs = [.ref x, .int 1] ∧ ChF a H x t d ∧ ∀ z H', Same H H' → ChF a H' z (d - t) d → Q (.ref z) H'
def spPow (a : Ad) : Sp := fun vs H Q _ => ∃ x t d n, vs = [.ref x, .int (n : Nat)] ∧ n ≤ 5 ∧ ChF a H x t d ∧ d < 2 ^ 200 ∧ ∀ z H', Same H H' → ChF a H' z (t ^ n) (d ^ n) → Q (.ref z) H'
def spConst (a : Ad) (t : Nat) : Sp := fun vs H Q _ => vs = [] ∧ ∀ z H', Same H H' → ChF a H' z t 1 → Q (.ref z) H'
structure AdO where
  add : Addr
  sub : Addr
  rsub : Addr
  mul : Addr
  pow : Addr
  lt : Addr
  le : Addr
  gt : Addr
  ge : Addr
  eq : Addr
  nev : Addr
  sur : Addr
structure T2 (K : PySem.W.Frag) (mg : Str → Option Value) (a : Ad) (o : AdO) : Prop where
  t : T1 K mg a
  dAdd : Def1 K "__add__" "Chance.__add__" sAdd [] o.add
  dSub : Def1 K "__sub__" "Chance.__sub__" sSub [] o.sub
  dRsub : Def1 K "__rsub__" "Chance.__rsub__" sRsub [] o.rsub
  dMul : Def1 K "__mul__" "Chance.__mul__" sMul [] o.mul
  dPow : Def1 K "__pow__" "Chance.__pow__" sPow [] o.pow
  dLt : Def1 K "__lt__" "Chance.__lt__" sLt [] o.lt
  dLe : Def1 K "__le__" "Chance.__le__" sLe [] o.le
  dGt : Def1 K "__gt__" "Chance.__gt__" sGt [] o.gt
  dGe : Def1 K "__ge__" "Chance.__ge__" sGe [] o.ge
  dEq : Def1 K "__eq__" "Chance.__eq__" sEq [] o.eq
  dNev : Def1 K "never" "Chance.never" sNev [] o.nev
  dSur : Def1 K "surely" "Chance.surely" sSur [] o.sur
  kit : PySem.W.kitOne K (.ref a.C) (.ref a.C) = some true
section
variable {P : Program} {w : World} {K : PySem.W.Frag} {mg : Str → Option Value} {base : Heap} {a : Ad} {o : AdO}
theorem passX {X : Cx} {E : XK} (hs : X.stack = X.env :: X.outer := by rfl) (hf : X.env.frame = some X.env.locals := by rfl) (hex : X.ex = [] := by rfl) {E₁ : Value → Shared → Prop}
    (hx : X.xe = fun e s' => wpAny (model X.prog X.w) X.A (leaving X.env e) (fun _ s'' => L2.CX X.prog X.w X.outer X.H_0 X.s_0 E e s'') E₁ s' := by rfl) : Passes (L2.CX X.prog X.w) X E := passes_call (takes_of hs hf hex hx) (fun _ _ _ _ h => h)
theorem sc2 {st : Stmt} (h : FnScope ["self", "other"] ["self", "other"] (defScope st)) : FnScope ["self", "other"] ["self", "other"] (defScope st) := h
theorem scAdd : FnScope ["self", "other"] ["self", "other"] (defScope sAdd) := ⟨rfl, rfl, rfl, by decide +kernel, rfl, by decide +kernel, by decide +kernel⟩
theorem scSub : FnScope ["self", "other"] ["self", "other"] (defScope sSub) := ⟨rfl, rfl, rfl, by decide +kernel, rfl, by decide +kernel, by decide +kernel⟩
theorem scMul : FnScope ["self", "other"] ["self", "other"] (defScope sMul) := ⟨rfl, rfl, rfl, by decide +kernel, rfl, by decide +kernel, by decide +kernel⟩
theorem ok_add (T : T2 K mg a o) : FnR P w K mg base (L2.CX P w) 4 o.add (spAdd a) := by
  refine def_R T.dAdd scAdd (fun _ _ _ _ _ _ us hl => match us, hl with | [_, _], _ => rfl) (fun vs H Q E h => ?_) (fun cdv A outer s H vs Q E hr h => ?_)
  · obtain ⟨x, y, t, d, t', d', ⟨rfl, _⟩, _⟩ := h
    rfl
  · obtain ⟨x, y, t, d, t', d', ⟨rfl, cx, cy, hb⟩, h⟩ := h
    have hr2 : Room 2 _ := hr.mono (by decide)
    have I := ok_init (P := P) (w := w) (base := base) T.t
    refine ⟨_, pss_one (ps_ret (StX.pe_makeR T.t.mkC I.1 hr rfl T.t.gC passX (pa_cons (pe_op op_add (pe_op op_mulW (SlX.pe_sl (pv 0)) (p_bot T.t hr2 (pv 1))) (pe_op op_mulW (p_top T.t hr2 (pv 1)) (SlX.pe_sl (pv 0))))
      (pa_cons (pe_op op_mulW (SlX.pe_sl (pv 0)) (p_bot T.t hr2 (pv 1))) pa_nil)))), ?_⟩
    obtain ⟨dx, sx⟩ := cx.at
    obtain ⟨dy, sy⟩ := cy.at
    refine ⟨_, rfl, x, a.C, dx, a.pPart, _, 0, _, rfl, sx, T.t.scl, T.t.part, rfl, _, rfl, y, dy, _, rfl, sy, y, t', d', rfl, cy, _, _, rfl, rfl, cm cx.b1 cy.b2, ?_⟩
    refine ⟨_, rfl, y, dy, _, rfl, sy, y, t', d', rfl, cy, _, rfl, x, a.C, dx, a.pWhole, _, 1, _, rfl, sx, T.t.scl, T.t.whole, rfl, _, _, rfl, rfl, cm cy.b1 cx.b2, ?_⟩
    refine ⟨_, _, rfl, rfl, _, rfl, x, a.C, dx, a.pWhole, _, 1, _, rfl, sx, T.t.scl, T.t.whole, rfl, _, rfl, y, dy, _, rfl, sy, y, t', d', rfl, cy, _, _, rfl, rfl, cm cx.b2 cy.b2, ?_⟩
    have h0 := cx.2.1
    have h0' := cy.2.1
    rcases h with ⟨hle, q⟩ | ⟨hlt, q⟩
    · refine mk_good (t := l1 t d * l2 t' d' + l1 t' d' * l2 t d) (d := l2 t d * l2 t' d') (Nat.mul_pos (l2_pos h0) (l2_pos h0')) ((M36.add_le h0 h0').mpr hle) (dd_lt hb) fun z H' s c => ?_
      exact q z H' s (c.of (add_l h0 h0') (Nat.mul_pos h0 h0') hle hb)
    · have n : ¬ (l1 t d * l2 t' d' + l1 t' d' * l2 t d ≤ l2 t d * l2 t' d') := fun z => Nat.not_le.mpr hlt ((M36.add_le h0 h0').mp z)
      have p1 := Nat.mul_pos (l2_pos (t := t) h0) (l2_pos (t := t') h0')
      refine mk_bad (.inr ⟨((l2 t d * l2 t' d' : Nat) : Int), rfl, by omega, .inr ⟨((l1 t d * l2 t' d' + l1 t' d' * l2 t d : Nat) : Int), rfl, .inr ?_⟩⟩) q
      omega
theorem ok_sub (T : T2 K mg a o) : FnR P w K mg base (L2.CX P w) 4 o.sub (spSub a) := by
  refine def_R T.dSub scSub (fun _ _ _ _ _ _ us hl => match us, hl with | [_, _], _ => rfl) (fun vs H Q E h => ?_) (fun cdv A outer s H vs Q E hr h => ?_)
  · obtain ⟨x, y, t, d, t', d', ⟨rfl, _⟩, _⟩ := h
    rfl
  · obtain ⟨x, y, t, d, t', d', ⟨rfl, cx, cy, hb⟩, h⟩ := h
    have hr2 : Room 2 _ := hr.mono (by decide)
    have I := ok_init (P := P) (w := w) (base := base) T.t
    refine ⟨_, pss_one (ps_ret (StX.pe_makeR T.t.mkC I.1 hr rfl T.t.gC passX (pa_cons (pe_op op_sub (pe_op op_mulW (SlX.pe_sl (pv 0)) (p_bot T.t hr2 (pv 1))) (pe_op op_mulW (p_top T.t hr2 (pv 1)) (SlX.pe_sl (pv 0))))
      (pa_cons (pe_op op_mulW (SlX.pe_sl (pv 0)) (p_bot T.t hr2 (pv 1))) pa_nil)))), ?_⟩
    obtain ⟨dx, sx⟩ := cx.at
    obtain ⟨dy, sy⟩ := cy.at
    refine ⟨_, rfl, x, a.C, dx, a.pPart, _, 0, _, rfl, sx, T.t.scl, T.t.part, rfl, _, rfl, y, dy, _, rfl, sy, y, t', d', rfl, cy, _, _, rfl, rfl, cm cx.b1 cy.b2, ?_⟩
    refine ⟨_, rfl, y, dy, _, rfl, sy, y, t', d', rfl, cy, _, rfl, x, a.C, dx, a.pWhole, _, 1, _, rfl, sx, T.t.scl, T.t.whole, rfl, _, _, rfl, rfl, cm cy.b1 cx.b2, ?_⟩
    refine ⟨_, _, rfl, rfl, _, rfl, x, a.C, dx, a.pWhole, _, 1, _, rfl, sx, T.t.scl, T.t.whole, rfl, _, rfl, y, dy, _, rfl, sy, y, t', d', rfl, cy, _, _, rfl, rfl, cm cx.b2 cy.b2, ?_⟩
    have h0 := cx.2.1
    have h0' := cy.2.1
    rcases h with ⟨hle, q⟩ | ⟨hlt, q⟩
    · have hl := (M36.le_iff h0' h0).mpr hle
      have e : ((l1 t d : Nat) : Int) * ((l2 t' d' : Nat) : Int) - ((l1 t' d' : Nat) : Int) * ((l2 t d : Nat) : Int) = ((l1 t d * l2 t' d' - l1 t' d' * l2 t d : Nat) : Int) := by
        rw [Int.natCast_sub hl]
        rfl
      have le2 : t * d' - t' * d ≤ d * d' := Nat.le_trans (Nat.sub_le _ _) (Nat.mul_le_mul_right _ cx.2.2.1)
      have le3 : l1 t d * l2 t' d' - l1 t' d' * l2 t d ≤ l2 t d * l2 t' d' := Nat.le_trans (Nat.sub_le _ _) (Nat.mul_le_mul_right _ (l1_le cx.2.2.1))
      have g := mk_good (a := a) (H := H) (Q := Q) (E := E) (t := l1 t d * l2 t' d' - l1 t' d' * l2 t d) (d := l2 t d * l2 t' d') (Nat.mul_pos (l2_pos h0) (l2_pos h0')) le3 (dd_lt hb) fun z H' s c => q z H' s (c.of (sub_l h0 h0') (Nat.mul_pos h0 h0') le2 hb)
      rw [← e] at g
      exact g
    · have n := (M36.lt_iff h0 h0').mpr hlt
      have p1 := Nat.mul_pos (l2_pos (t := t) h0) (l2_pos (t := t') h0')
      refine mk_bad (.inr ⟨((l2 t d * l2 t' d' : Nat) : Int), rfl, by omega, .inr ⟨((l1 t d * l2 t' d' : Nat) : Int) - ((l1 t' d' * l2 t d : Nat) : Int), rfl, .inl ?_⟩⟩) q
      omega
theorem ok_mul (T : T2 K mg a o) : FnR P w K mg base (L2.CX P w) 4 o.mul (spMul a) := by
  refine def_R T.dMul scMul (fun _ _ _ _ _ _ us hl => match us, hl with | [_, _], _ => rfl) (fun vs H Q E h => ?_) (fun cdv A outer s H vs Q E hr h => ?_)
  · obtain ⟨x, y, t, d, t', d', ⟨rfl, _⟩, _⟩ := h
    rfl
  · obtain ⟨x, y, t, d, t', d', ⟨rfl, cx, cy, hb⟩, q⟩ := h
    have hr2 : Room 2 _ := hr.mono (by decide)
    have I := ok_init (P := P) (w := w) (base := base) T.t
    refine ⟨_, pss_one (ps_ret (StX.pe_makeR T.t.mkC I.1 hr rfl T.t.gC passX (pa_cons (pe_op op_mulW (SlX.pe_sl (pv 0)) (p_top T.t hr2 (pv 1)))
      (pa_cons (pe_op op_mulW (SlX.pe_sl (pv 0)) (p_bot T.t hr2 (pv 1))) pa_nil)))), ?_⟩
    obtain ⟨dx, sx⟩ := cx.at
    obtain ⟨dy, sy⟩ := cy.at
    refine ⟨_, rfl, x, a.C, dx, a.pPart, _, 0, _, rfl, sx, T.t.scl, T.t.part, rfl, _, rfl, y, dy, _, rfl, sy, y, t', d', rfl, cy, _, _, rfl, rfl, cm cx.b1 cy.b1, ?_⟩
    refine ⟨_, rfl, x, a.C, dx, a.pWhole, _, 1, _, rfl, sx, T.t.scl, T.t.whole, rfl, _, rfl, y, dy, _, rfl, sy, y, t', d', rfl, cy, _, _, rfl, rfl, cm cx.b2 cy.b2, ?_⟩
    have h0 := cx.2.1
    have h0' := cy.2.1
    refine mk_good (t := l1 t d * l1 t' d') (d := l2 t d * l2 t' d') (Nat.mul_pos (l2_pos h0) (l2_pos h0')) (Nat.mul_le_mul (l1_le cx.2.2.1) (l1_le cy.2.2.1)) (dd_lt hb) fun z H' s c => ?_
    exact q z H' s (c.of (mul_l h0 h0') (Nat.mul_pos h0 h0') (Nat.mul_le_mul cx.2.2.1 cy.2.2.1) hb)
end
end K36

end
section
set_option Elab.async false
set_option linter.all false
set_option maxRecDepth 100000
set_option maxHeartbeats 4000000
set_option exponentiation.threshold 10000
namespace K36
open PySem PySem.Spec PyProof.Rows L2 N1 M36
section
variable {P : Program} {w : World} {K : PySem.W.Frag} {mg : Str → Option Value} {base : Heap} {a : Ad} {o : AdO}
theorem scRsub : FnScope ["self", "number"] ["self", "number"] (defScope sRsub) := ⟨rfl, rfl, rfl, by decide +kernel, rfl, by decide +kernel, by decide +kernel⟩
theorem ok_rsub (T : T2 K mg a o) : FnR P w K mg base (L2.CX P w) 4 o.rsub (spRsub a) := by
  refine def_R T.dRsub scRsub (fun _ _ _ _ _ _ us hl => match us, hl with | [_, _], _ => rfl) (fun vs H Q E h => ?_) (fun cdv A outer s H vs Q E hr h => ?_)
  · obtain ⟨x, t, d, rfl, _⟩ := h
    rfl
  · obtain ⟨x, t, d, rfl, cx, q⟩ := h
    have I := ok_init (P := P) (w := w) (base := base) T.t
    refine ⟨_, pss_one (ps_ret (StX.pe_makeR T.t.mkC I.1 hr rfl T.t.gC passX (pa_cons (pe_op op_sub (pe_op op_mulW (pv 1) (SlX.pe_sl (pv 0))) (SlX.pe_sl (pv 0)))
      (pa_cons (SlX.pe_sl (pv 0)) pa_nil)))), ?_⟩
    obtain ⟨dx, sx⟩ := cx.at
    refine ⟨_, rfl, _, rfl, x, a.C, dx, a.pWhole, _, 1, _, rfl, sx, T.t.scl, T.t.whole, rfl, _, _, rfl, rfl, cm (i := 1) (Nat.one_lt_two_pow (by decide)) cx.b2, ?_⟩
    refine ⟨_, rfl, x, a.C, dx, a.pPart, _, 0, _, rfl, sx, T.t.scl, T.t.part, rfl, _, _, rfl, rfl, ?_⟩
    refine ⟨_, rfl, x, a.C, dx, a.pWhole, _, 1, _, rfl, sx, T.t.scl, T.t.whole, rfl, ?_⟩
    have h0 := cx.2.1
    have e : (1 : Int) * ((l2 t d : Nat) : Int) - ((l1 t d : Nat) : Int) = ((l2 t d - l1 t d : Nat) : Int) := by
      have := l1_le cx.2.2.1
      omega
    have g := mk_good (a := a) (H := H) (Q := Q) (E := E) (t := l2 t d - l1 t d) (d := l2 t d) (l2_pos h0) (Nat.sub_le _ _) cx.b2 fun z H' s c => q z H' s (c.of (one_l h0) h0 (Nat.sub_le _ _) cx.2.2.2)
    rw [← e] at g
    exact g
theorem same_new {H : Hp} {p : Addr} {o : HO} (h : H p = none) : Same H (upd H p o) := fun b u e => by
  rw [upd_ne (ne_of_none e h)]
  exact e
theorem scPow : FnScope ["self", "times", "top", "bottom", "turn"] ["self", "times"] (defScope sPow) := ⟨rfl, rfl, rfl, by decide +kernel, rfl, by decide +kernel, by decide +kernel⟩
theorem pw_lt {b n : Nat} (h : b < 2 ^ 200) (hn : n ≤ 5) : b ^ n < 2 ^ 2000 := by
  have h1 : b ^ n ≤ (2 ^ 200) ^ n := Nat.pow_le_pow_left (Nat.le_of_lt h) n
  have h2 : (2 ^ 200 : Nat) ^ n ≤ 2 ^ 1000 := by
    rw [← Nat.pow_mul]
    exact Nat.pow_le_pow_right (by decide) (by omega)
  have h3 : (2 : Nat) ^ 1000 < 2 ^ 2000 := Nat.pow_lt_pow_right (by decide) (by decide)
  omega
theorem pw_ge {x w n : Nat} (h : x ≤ w) : x ^ n ≤ w ^ n := Nat.pow_le_pow_left h n
theorem ok_pow (T : T2 K mg a o) : FnR P w K mg base (L2.CX P w) 4 o.pow (spPow a) := by
  refine def_R T.dPow scPow (fun _ _ _ _ _ _ us hl => match us, hl with | [_, _], _ => rfl) (fun vs H Q E h => ?_) (fun cdv A outer s H vs Q E hr h => ?_)
  · obtain ⟨x, t, d, n, rfl, _⟩ := h
    rfl
  · obtain ⟨x, t, d, n, rfl, hn, cx, hd2, q⟩ := h
    have I := ok_init (P := P) (w := w) (base := base) T.t
    refine ⟨_, pss_cons (ps_asg (pe_tup (pa_cons pe_int (pa_cons pe_int pa_nil))) (pg_tup rfl (pgs_cons (pg_name (i := 2) scPow.nd rfl (Or.inl rfl)) (pgs_cons (pg_name (i := 3) scPow.nd rfl (Or.inl rfl)) pgs_nil))))
      (pss_cons (ps_for (passes_of rfl) rfl (pi_range1 rfl T.t.b.range (pa_cons (pv 1) pa_nil)) (pg_name (i := 4) scPow.nd rfl (Or.inl rfl))
        (pss_one (ps_par (i := 2) (j := 3) (by rfl) scPow.nd rfl rfl (by decide) rfl rfl (pa_cons (pe_op op_mulW (pv 2) (SlX.pe_sl (pv 0))) (pa_cons (pe_op op_mulW (pv 3) (SlX.pe_sl (pv 0))) pa_nil)) (by rfl))))
      (pss_one (ps_ret (StX.pe_makeR T.t.mkC I.1 hr rfl T.t.gC passX (pa_cons (pv 2) (pa_cons (pv 3) pa_nil)))))), ?_⟩
    refine ⟨(by show 2 ≤ sizeLine; decide), fun p hp => ⟨p, _, rfl, .inl (.inl upd_same), rfl, _, _, rfl, _, _, rfl, rfl, ?_⟩⟩
    have sm := same_new (o := .tup [.int 1, .int 1]) hp
    generalize upd H p (HO.tup [V.int 1, V.int 1]) = H1 at sm ⊢
    replace cx := cx.same sm
    obtain ⟨dx, sx⟩ := cx.at
    have h0 := cx.2.1
    have w1 : l1 t d < 2 ^ 200 := Nat.lt_of_le_of_lt (Nat.le_trans (l1_le cx.2.2.1) (l2_le t d)) hd2
    have w2 : l2 t d < 2 ^ 200 := Nat.lt_of_le_of_lt (l2_le t d) hd2
    refine ⟨_, rfl, (n : Int), rfl, (by omega), (by omega), for_range (lo := 0) (n := ((n : Int)).toNat) (fun i σ H' => H' = H1 ∧ ∃ v, σ = [some (.ref x), some (.int (n : Int)), some (.int ((l1 t d ^ i : Nat) : Int)), some (.int ((l2 t d ^ i : Nat) : Int)), v]) ⟨rfl, none, rfl⟩ ?_ ?_⟩
    · rintro i σ H' hi ⟨rfl, v, rfl⟩
      have hi' : i ≤ 5 := by omega
      refine ⟨_, rfl, _, rfl, x, a.C, dx, a.pPart, _, 0, _, rfl, sx, T.t.scl, T.t.part, rfl, _, _, rfl, rfl, cm (pw_lt w1 hi') cx.b1, ?_⟩
      refine ⟨_, rfl, _, rfl, x, a.C, dx, a.pWhole, _, 1, _, rfl, sx, T.t.scl, T.t.whole, rfl, _, _, rfl, rfl, cm (pw_lt w2 hi') cx.b2, ?_⟩
      refine ⟨_, _, rfl, rfl, some (.int (0 + (i : Int))), ?_⟩
      rfl
    · rintro σ H' ⟨rfl, v, rfl⟩
      refine ⟨_, rfl, _, rfl, ?_⟩
      have e : ((n : Int)).toNat = n := Int.toNat_natCast n
      rw [e]
      refine mk_good (t := l1 t d ^ n) (d := l2 t d ^ n) (Nat.pow_pos (l2_pos h0)) (pw_ge (l1_le cx.2.2.1)) (pw_lt w2 hn) fun z H' s c => ?_
      exact q z H' (sm.trans s) (c.of (pow_l n h0) (Nat.pow_pos h0) (pw_ge cx.2.2.1) (pw_lt hd2 hn))

theorem scLt : FnScope ["self", "other"] ["self", "other"] (defScope sLt) := ⟨rfl, rfl, rfl, by decide +kernel, rfl, by decide +kernel, by decide +kernel⟩
theorem scLe : FnScope ["self", "other"] ["self", "other"] (defScope sLe) := ⟨rfl, rfl, rfl, by decide +kernel, rfl, by decide +kernel, by decide +kernel⟩
theorem scGt : FnScope ["self", "other"] ["self", "other"] (defScope sGt) := ⟨rfl, rfl, rfl, by decide +kernel, rfl, by decide +kernel, by decide +kernel⟩
theorem scGe : FnScope ["self", "other"] ["self", "other"] (defScope sGe) := ⟨rfl, rfl, rfl, by decide +kernel, rfl, by decide +kernel, by decide +kernel⟩
theorem scEq : FnScope ["self", "other"] ["self", "other"] (defScope sEq) := ⟨rfl, rfl, rfl, by decide +kernel, rfl, by decide +kernel, by decide +kernel⟩
theorem nlt (x y : Nat) : decide ((x : Int) < (y : Int)) = decide (x < y) := by
  by_cases h : x < y
  · rw [decide_eq_true h, decide_eq_true (by omega)]
  · rw [decide_eq_false h, decide_eq_false (by omega)]
theorem nle (x y : Nat) : decide ((x : Int) ≤ (y : Int)) = decide (x ≤ y) := by
  by_cases h : x ≤ y
  · rw [decide_eq_true h, decide_eq_true (by omega)]
  · rw [decide_eq_false h, decide_eq_false (by omega)]
theorem dec_iff {p q : Prop} [Decidable p] [Decidable q] (h : p ↔ q) : decide p = decide q := by
  by_cases c : p
  · rw [decide_eq_true c, decide_eq_true (h.mp c)]
  · rw [decide_eq_false c, decide_eq_false (fun z => c (h.mpr z))]
theorem ok_lt (T : T2 K mg a o) : FnR P w K mg base CX0 4 o.lt (spCmp (fun i j => decide (i < j)) a) := by
  refine def_R T.dLt scLt (fun _ _ _ _ _ _ us hl => match us, hl with | [_, _], _ => rfl) (fun vs H Q E h => ?_) (fun cdv A outer s H vs Q E hr h => ?_)
  · obtain ⟨x, y, t, d, t', d', ⟨rfl, _⟩, _⟩ := h
    rfl
  · obtain ⟨x, y, t, d, t', d', ⟨rfl, cx, cy, hb⟩, q⟩ := h
    have hr2 : Room 2 _ := hr.mono (by decide)
    refine ⟨_, PSs.nox (pss_one (ps_ret (pe_cmp (pc_lt (pe_op op_mulW (SlX.pe_sl (pv 0)) (p_bot T.t hr2 (pv 1))) (pe_op op_mulW (p_top T.t hr2 (pv 1)) (SlX.pe_sl (pv 0))))))), ?_⟩
    obtain ⟨dx, sx⟩ := cx.at
    obtain ⟨dy, sy⟩ := cy.at
    refine ⟨_, rfl, x, a.C, dx, a.pPart, _, 0, _, rfl, sx, T.t.scl, T.t.part, rfl, _, rfl, y, dy, _, rfl, sy, y, t', d', rfl, cy, _, _, rfl, rfl, cm cx.b1 cy.b2, ?_⟩
    refine ⟨_, rfl, y, dy, _, rfl, sy, y, t', d', rfl, cy, _, rfl, x, a.C, dx, a.pWhole, _, 1, _, rfl, sx, T.t.scl, T.t.whole, rfl, _, _, rfl, rfl, cm cy.b1 cx.b2, ?_⟩
    refine ⟨_, _, rfl, rfl, ?_⟩
    replace q : Q (.bl (decide (t * d' < t' * d))) H := q
    rw [← dec_iff (M36.lt_iff cx.2.1 cy.2.1), ← nlt] at q
    exact q
theorem ok_le (T : T2 K mg a o) : FnR P w K mg base CX0 4 o.le (spCmp (fun i j => decide (i ≤ j)) a) := by
  refine def_R T.dLe scLe (fun _ _ _ _ _ _ us hl => match us, hl with | [_, _], _ => rfl) (fun vs H Q E h => ?_) (fun cdv A outer s H vs Q E hr h => ?_)
  · obtain ⟨x, y, t, d, t', d', ⟨rfl, _⟩, _⟩ := h
    rfl
  · obtain ⟨x, y, t, d, t', d', ⟨rfl, cx, cy, hb⟩, q⟩ := h
    have hr2 : Room 2 _ := hr.mono (by decide)
    refine ⟨_, PSs.nox (pss_one (ps_ret (pe_cmp (pc_le (pe_op op_mulW (SlX.pe_sl (pv 0)) (p_bot T.t hr2 (pv 1))) (pe_op op_mulW (p_top T.t hr2 (pv 1)) (SlX.pe_sl (pv 0))))))), ?_⟩
    obtain ⟨dx, sx⟩ := cx.at
    obtain ⟨dy, sy⟩ := cy.at
    refine ⟨_, rfl, x, a.C, dx, a.pPart, _, 0, _, rfl, sx, T.t.scl, T.t.part, rfl, _, rfl, y, dy, _, rfl, sy, y, t', d', rfl, cy, _, _, rfl, rfl, cm cx.b1 cy.b2, ?_⟩
    refine ⟨_, rfl, y, dy, _, rfl, sy, y, t', d', rfl, cy, _, rfl, x, a.C, dx, a.pWhole, _, 1, _, rfl, sx, T.t.scl, T.t.whole, rfl, _, _, rfl, rfl, cm cy.b1 cx.b2, ?_⟩
    refine ⟨_, _, rfl, rfl, ?_⟩
    replace q : Q (.bl (decide (t * d' ≤ t' * d))) H := q
    rw [← dec_iff (M36.le_iff cx.2.1 cy.2.1), ← nle] at q
    exact q
theorem ok_gt (T : T2 K mg a o) : FnR P w K mg base CX0 4 o.gt (spCmp (fun i j => decide (j < i)) a) := by
  refine def_R T.dGt scGt (fun _ _ _ _ _ _ us hl => match us, hl with | [_, _], _ => rfl) (fun vs H Q E h => ?_) (fun cdv A outer s H vs Q E hr h => ?_)
  · obtain ⟨x, y, t, d, t', d', ⟨rfl, _⟩, _⟩ := h
    rfl
  · obtain ⟨x, y, t, d, t', d', ⟨rfl, cx, cy, hb⟩, q⟩ := h
    have hr2 : Room 2 _ := hr.mono (by decide)
    refine ⟨_, PSs.nox (pss_one (ps_ret (pe_cmp (pc_gt (pe_op op_mulW (SlX.pe_sl (pv 0)) (p_bot T.t hr2 (pv 1))) (pe_op op_mulW (p_top T.t hr2 (pv 1)) (SlX.pe_sl (pv 0))))))), ?_⟩
    obtain ⟨dx, sx⟩ := cx.at
    obtain ⟨dy, sy⟩ := cy.at
    refine ⟨_, rfl, x, a.C, dx, a.pPart, _, 0, _, rfl, sx, T.t.scl, T.t.part, rfl, _, rfl, y, dy, _, rfl, sy, y, t', d', rfl, cy, _, _, rfl, rfl, cm cx.b1 cy.b2, ?_⟩
    refine ⟨_, rfl, y, dy, _, rfl, sy, y, t', d', rfl, cy, _, rfl, x, a.C, dx, a.pWhole, _, 1, _, rfl, sx, T.t.scl, T.t.whole, rfl, _, _, rfl, rfl, cm cy.b1 cx.b2, ?_⟩
    refine ⟨_, _, rfl, rfl, ?_⟩
    replace q : Q (.bl (decide (t' * d < t * d'))) H := q
    rw [← dec_iff (M36.lt_iff cy.2.1 cx.2.1), ← nlt] at q
    exact q
theorem ok_ge (T : T2 K mg a o) : FnR P w K mg base CX0 4 o.ge (spCmp (fun i j => decide (j ≤ i)) a) := by
  refine def_R T.dGe scGe (fun _ _ _ _ _ _ us hl => match us, hl with | [_, _], _ => rfl) (fun vs H Q E h => ?_) (fun cdv A outer s H vs Q E hr h => ?_)
  · obtain ⟨x, y, t, d, t', d', ⟨rfl, _⟩, _⟩ := h
    rfl
  · obtain ⟨x, y, t, d, t', d', ⟨rfl, cx, cy, hb⟩, q⟩ := h
    have hr2 : Room 2 _ := hr.mono (by decide)
    refine ⟨_, PSs.nox (pss_one (ps_ret (pe_cmp (pc_ge (pe_op op_mulW (SlX.pe_sl (pv 0)) (p_bot T.t hr2 (pv 1))) (pe_op op_mulW (p_top T.t hr2 (pv 1)) (SlX.pe_sl (pv 0))))))), ?_⟩
    obtain ⟨dx, sx⟩ := cx.at
    obtain ⟨dy, sy⟩ := cy.at
    refine ⟨_, rfl, x, a.C, dx, a.pPart, _, 0, _, rfl, sx, T.t.scl, T.t.part, rfl, _, rfl, y, dy, _, rfl, sy, y, t', d', rfl, cy, _, _, rfl, rfl, cm cx.b1 cy.b2, ?_⟩
    refine ⟨_, rfl, y, dy, _, rfl, sy, y, t', d', rfl, cy, _, rfl, x, a.C, dx, a.pWhole, _, 1, _, rfl, sx, T.t.scl, T.t.whole, rfl, _, _, rfl, rfl, cm cy.b1 cx.b2, ?_⟩
    refine ⟨_, _, rfl, rfl, ?_⟩
    replace q : Q (.bl (decide (t' * d ≤ t * d'))) H := q
    rw [← dec_iff (M36.le_iff cy.2.1 cx.2.1), ← nle] at q
    exact q
theorem neq (x y : Nat) : decide ((x : Int) = (y : Int)) = decide (x = y) := dec_iff (by omega)
theorem veq (x y : Int) : decide (V.int x = V.int y) = decide (x = y) := dec_iff ⟨fun h => by cases h; rfl, fun h => by rw [h]⟩
theorem isi_ch {X : Cx} {e : Expr} {te : TE} {p1 p2 p3 : Pos} (T : T2 X.K X.mg a o) (he : PE X e te) (hg : Gl X "isinstance") (hg2 : Gl X "Chance")
    (hst : starEach (e :: [Expr.Name "Chance" p2]) X.env = (false, eval e X.env) :: starEach [Expr.Name "Chance" p2] X.env := by rfl) :
    PE X (.Call (.Name "isinstance" p1) [e, .Name "Chance" p2] [] p3) (tCB (SlX.rIsiSl X.K (.ref a.C)) (tCons te (tCons (tC (.ref a.C)) tNil))) :=
  pe_callB (he := hst) (SlX.call_isiSl (.ref a.C)) hg T.t.b.isi (by decide +kernel) (pa_cons (hs := hst) he (pa_cons (pe_glob hg2 T.t.gC rfl) pa_nil))
theorem ok_eq (T : T2 K mg a o) : FnR P w K mg base CX0 4 o.eq (spCmp (fun i j => decide (i = j)) a) := by
  refine def_R T.dEq scEq (fun _ _ _ _ _ _ us hl => match us, hl with | [_, _], _ => rfl) (fun vs H Q E h => ?_) (fun cdv A outer s H vs Q E hr h => ?_)
  · obtain ⟨x, y, t, d, t', d', ⟨rfl, _⟩, _⟩ := h
    rfl
  · obtain ⟨x, y, t, d, t', d', ⟨rfl, cx, cy, hb⟩, q⟩ := h
    have hr2 : Room 2 _ := hr.mono (by decide)
    refine ⟨_, PSs.nox (pss_one (ps_ret (pe_and (isi_ch T (pv 1) rfl rfl) (pe_and (pe_cmp (pc_eqI (SlX.pe_sl (pv 0)) (p_top T.t hr2 (pv 1)))) (pe_one (pe_cmp (pc_eqI (SlX.pe_sl (pv 0)) (p_bot T.t hr2 (pv 1))))))))), ?_⟩
    obtain ⟨dx, sx⟩ := cx.at
    obtain ⟨dy, sy⟩ := cy.at
    refine ⟨_, rfl, y, a.C, dy, _, .ref a.C, true, rfl, rfl, (fun _ h => h), sy, T.t.scl, T.t.isi, T.kit, true, rfl, iteT ?_⟩
    refine ⟨_, rfl, x, a.C, dx, a.pPart, _, 0, _, rfl, sx, T.t.scl, T.t.part, rfl, _, rfl, y, dy, _, rfl, sy, y, t', d', rfl, cy, _, _, rfl, rfl, _, rfl, ?_⟩
    replace q : Q (.bl (decide (t * d' = t' * d))) H := q
    rw [← dec_iff (M36.eq_iff cx.2.1 cy.2.1)] at q
    by_cases c : l1 t d = l1 t' d'
    · refine ifT (decide_eq_true (by rw [c])) ?_
      refine ⟨_, rfl, x, a.C, dx, a.pWhole, _, 1, _, rfl, sx, T.t.scl, T.t.whole, rfl, _, rfl, y, dy, _, rfl, sy, y, t', d', rfl, cy, _, _, rfl, rfl, ?_⟩
      rw [dec_iff (show (l1 t d = l1 t' d' ∧ l2 t d = l2 t' d') ↔ ((l2 t d : Nat) : Int) = ((l2 t' d' : Nat) : Int) by omega)] at q
      exact q
    · refine ifF (decide_eq_false (by omega)) ?_
      rw [decide_eq_false (fun z => c z.1)] at q
      exact q
theorem scNev : FnScope [] [] (defScope sNev) := ⟨rfl, rfl, rfl, by decide +kernel, rfl, by decide +kernel, by decide +kernel⟩
theorem scSur : FnScope [] [] (defScope sSur) := ⟨rfl, rfl, rfl, by decide +kernel, rfl, by decide +kernel, by decide +kernel⟩
theorem ok_nev (T : T2 K mg a o) : FnR P w K mg base (L2.CX P w) 4 o.nev (spConst a 0) := by
  refine def_R T.dNev scNev (fun _ _ _ _ _ _ us hl => match us, hl with | [], _ => rfl) (fun vs H Q E h => ?_) (fun cdv A outer s H vs Q E hr h => ?_)
  · obtain ⟨rfl, _⟩ := h
    rfl
  · obtain ⟨rfl, q⟩ := h
    have I := ok_init (P := P) (w := w) (base := base) T.t
    refine ⟨_, pss_one (ps_ret (StX.pe_makeR T.t.mkC I.2 hr rfl T.t.gC passX (pa_cons pe_int pa_nil))), ?_⟩
    exact mk_good (t := 0) (d := 1) (by decide) (by decide) (Nat.one_lt_two_pow (by decide)) q
theorem ok_sur (T : T2 K mg a o) : FnR P w K mg base (L2.CX P w) 4 o.sur (spConst a 1) := by
  refine def_R T.dSur scSur (fun _ _ _ _ _ _ us hl => match us, hl with | [], _ => rfl) (fun vs H Q E h => ?_) (fun cdv A outer s H vs Q E hr h => ?_)
  · obtain ⟨rfl, _⟩ := h
    rfl
  · obtain ⟨rfl, q⟩ := h
    have I := ok_init (P := P) (w := w) (base := base) T.t
    refine ⟨_, pss_one (ps_ret (StX.pe_makeR T.t.mkC I.2 hr rfl T.t.gC passX (pa_cons pe_int pa_nil))), ?_⟩
    exact mk_good (t := 1) (d := 1) (by decide) (by decide) (Nat.one_lt_two_pow (by decide)) q
end
end K36

end
section
set_option Elab.async false
set_option linter.all false
set_option maxRecDepth 100000
set_option maxHeartbeats 4000000
set_option exponentiation.threshold 10000
namespace K36
open PySem PySem.Spec PyProof.Rows L2 N1 M36
structure AdL where
  cell : Addr
  common : Addr
  low : Addr
  drawn : Addr
  is_ : Addr
structure T3 (K : PySem.W.Frag) (mg : Str → Option Value) (a : Ad) (o : AdO) (l : AdL) : Prop where
  t : T2 K mg a o
  dCell : Def1 K "_law_cell_at" "_law_cell_at" sCell [] l.cell
  gCell : mg "_law_cell_at" = some (.ref l.cell)
  dCommon : Def1 K "_law_common" "_law_common" sCommon [] l.common
  gCommon : mg "_law_common" = some (.ref l.common)
  dLow : Def1 K "_law_low" "_law_low" sLow [] l.low
  gLow : mg "_law_low" = some (.ref l.low)
  dDrawn : Def1 K "_law_drawn" "_law_drawn" sDrawn [] l.drawn
  gDrawn : mg "_law_drawn" = some (.ref l.drawn)
  dIs : Def1 K "_law_is" "_law_is" sIs [] l.is_
  gIs : mg "_law_is" = some (.ref l.is_)
  aEq : PySem.W.findIn K (.ref a.C) (cmpInfo .Eq).2.1 = some (some (.ref o.eq))
  iEq : PySem.W.isFn K (.ref o.eq) = true
section
variable {P : Program} {w : World} {K : PySem.W.Frag} {mg : Str → Option Value} {base : Heap} {a : Ad} {o : AdO} {l : AdL}

def spCell (K : PySem.W.Frag) : Sp := fun vs H Q _ => ∃ (p : Addr) (ns : List Int) (k : Nat), vs = [.ref p, .int (k : Int)] ∧ SqL K H p (ns.map V.int) ∧ Q (.int (ns.getD k 0)) H
theorem scCell : FnScope ["_law_script", "_law_k"] ["_law_script", "_law_k"] (defScope sCell) := ⟨rfl, rfl, rfl, by decide +kernel, rfl, by decide +kernel, by decide +kernel⟩
theorem ok_cell (T : T3 K mg a o l) : FnR P w K mg base CX0 1 l.cell (spCell K) := by
  refine def_R T.dCell scCell (fun _ _ _ _ _ _ us hl => match us, hl with | [_, _], _ => rfl) (fun vs H Q E h => ?_) (fun cdv A outer s H vs Q E hr h => ?_)
  · obtain ⟨p, ns, k, rfl, _⟩ := h
    rfl
  · obtain ⟨p, ns, k, rfl, hS, q⟩ := h
    refine ⟨_, PSs.nox (pss_cons (ps_if (pt_cmp (pc_lt (pv 1) (pe_callB call_len_seq (by rfl) T.t.t.b.len PySem.boot_len (pa_cons (pv 0) pa_nil)))) (pss_one (ps_ret (pe_ix ix_list (pv 0) (pv 1) (fun _ _ => rfl)))) pss_nil)
      (pss_one (ps_ret pe_int))), ?_⟩
    refine ⟨_, rfl, _, rfl, p, _, rfl, .inl hS, _, _, rfl, rfl, _, rfl, ?_⟩
    by_cases c : k < ns.length
    · refine ifT (decide_eq_true (by rw [List.length_map]; omega)) ?_
      have e : ns[k]? = some ns[k] := List.getElem?_eq_getElem c
      refine ⟨_, rfl, _, rfl, p, _, _, .int ns[k], rfl, rfl, hS, atI_nat (by rw [List.getElem?_map, e]; rfl), ?_⟩
      rw [List.getD_eq_getElem?_getD, e] at q
      exact q
    · refine ifF (decide_eq_false (by rw [List.length_map]; omega)) ?_
      have e : ns[k]? = none := List.getElem?_eq_none (by omega)
      rw [List.getD_eq_getElem?_getD, e] at q
      exact q

def spCommon : Sp := fun vs H Q _ => ∃ t d : Nat, vs = [.int (t : Int), .int (d : Int)] ∧ Q (.int (Nat.gcd t d : Nat)) H
theorem scCommon : FnScope ["_law_one", "_law_other"] ["_law_one", "_law_other"] (defScope sCommon) := ⟨rfl, rfl, rfl, by decide +kernel, rfl, by decide +kernel, by decide +kernel⟩
theorem ok_common (T : T3 K mg a o l) : FnR P w K mg base CX0 1 l.common spCommon := by
  refine def_R T.dCommon scCommon (fun _ _ _ _ _ _ us hl => match us, hl with | [_, _], _ => rfl) (fun vs H Q E h => ?_) (fun cdv A outer s H vs Q E hr h => ?_)
  · obtain ⟨t, d, rfl, _⟩ := h
    rfl
  · obtain ⟨t, d, rfl, q⟩ := h
    refine ⟨_, PSs.nox (pss_cons (ps_while PassesOwn.never (pt_cmp (pc_gt (pv 1) pe_int))
        (pss_one (ps_par (i := 0) (j := 1) (by rfl) scCommon.nd rfl rfl (by decide) rfl rfl (pa_cons (pv 1) (pa_cons (pe_op op_modN (pe_callTy call_int1 (by rfl) T.t.t.b.int boot_int (pa_cons (pv 0) pa_nil)) (pv 1)) pa_nil)) (by rfl))))
      (pss_one (ps_ret (pv 0)))), ?_⟩
    refine while_by (fun σ H' => H' = H ∧ ∃ x y : Nat, σ = [some (.int (x : Int)), some (.int (y : Int))] ∧ Nat.gcd x y = Nat.gcd t d) (fun σ _ => match σ with | [_, some (.int y)] => y.toNat | _ => 0) ⟨rfl, t, d, rfl, rfl⟩ ?_ ?_
    · rintro σ H' ⟨rfl, x, y, rfl, g⟩
      refine ⟨_, rfl, _, _, rfl, rfl, _, rfl, ?_⟩
      by_cases c : y = 0
      · subst c
        refine ifF (by simp) ?_
        rw [Nat.gcd_zero_right] at g
        rw [← g] at q
        exact ⟨_, rfl, q⟩
      · refine ifT (decide_eq_true (by omega)) ?_
        refine ⟨_, rfl, _, rfl, .inl ⟨_, rfl, _, rfl, _, _, rfl, rfl, (by omega), ?_⟩⟩
        refine ⟨_, _, rfl, ⟨rfl, y, x % y, ?_, ?_⟩, ?_⟩
        · show [some (V.int (y : Int)), some (V.int ((x : Int).fmod (y : Int)))] = _
          rw [fmodN]
        · rw [M36.step]
          exact g
        · show ((x : Int).fmod (y : Int)).toNat < (y : Int).toNat
          rw [fmodN]
          have := Nat.mod_lt x (Nat.pos_of_ne_zero c)
          omega
    · rintro σ H' Q Q' m ⟨v, h1, i, j, e1, e2, b, e, h3⟩
      exact ⟨v, h1, i, j, e1, e2, b, e, m _ _ h3⟩
theorem scLow : FnScope ["_law_top", "_law_bottom", "_law_most"] ["_law_top", "_law_bottom"] (defScope sLow) := ⟨rfl, rfl, rfl, by decide +kernel, rfl, by decide +kernel, by decide +kernel⟩
theorem ok_low (T : T3 K mg a o l) : FnR P w K mg base CX0 2 l.low spLowest := by
  refine def_R T.dLow scLow (fun _ _ _ _ _ _ us hl => match us, hl with | [_, _], _ => rfl) (fun vs H Q E h => ?_) (fun cdv A outer s H vs Q E hr h => ?_)
  · obtain ⟨t, d, rfl, _⟩ := h
    rfl
  · obtain ⟨t, d, rfl, hd, hb, q⟩ := h
    have C := ok_common (P := P) (w := w) (base := base) T
    refine ⟨_, PSs.nox (pss_cons (ps_set (i := 2) scLow.nd rfl (Or.inl rfl) (pe_callR C hr rfl T.gCommon (kpD T.dCommon) pass0 (pa_cons (pv 0) (pa_cons (pv 1) pa_nil))))
      (pss_one (ps_ret (pe_tup (pa_cons (pe_op op_fdivW (pv 0) (pv 2)) (pa_cons (pe_op op_fdivW (pv 1) (pv 2)) pa_nil)))))), ?_⟩
    have hx := g_pos (t := t) hd
    have hxl : Nat.gcd t d < 2 ^ 8000 := Nat.lt_of_le_of_lt (Nat.le_of_dvd hd (Nat.gcd_dvd_right t d)) hb
    refine ⟨_, rfl, _, rfl, t, d, rfl, ?_⟩
    exact ⟨_, rfl, _, rfl, _, _, rfl, rfl, wide _ hxl _ hx, _, rfl, _, rfl, _, _, rfl, rfl, wide _ hxl _ hx, (by show 2 ≤ sizeLine; decide), fun p hp => q p hp⟩

def spDrawn (K : PySem.W.Frag) : Sp := fun vs H Q _ => ∃ (p : Addr) (ns : List Int) (k : Nat), vs = [.ref p, .int (k : Int)] ∧ SqL K H p (ns.map V.int) ∧ k ≤ 100 ∧
  ∀ (t d : Nat) (q : Addr) (H' : Hp), Same H H' → t ≤ d → 0 < d → d < 2 ^ 100 → H' q = some (.tup [.int (t : Int), .int (d : Int)]) → Q (.ref q) H'
theorem scDrawn : FnScope ["_law_script", "_law_k", "_law_cell", "_law_other", "_law_bound", "_law_bottom"] ["_law_script", "_law_k"] (defScope sDrawn) := ⟨rfl, rfl, rfl, by decide +kernel, rfl, by decide +kernel, by decide +kernel⟩
theorem absN (i : Int) : (if i < 0 then -i else i) = ((i.natAbs : Nat) : Int) := by
  by_cases h : i < 0
  · rw [if_pos h]; omega
  · rw [if_neg h]; omega
theorem ok_drawn (T : T3 K mg a o l) : FnR P w K mg base CX0 2 l.drawn (spDrawn K) := by
  refine def_R T.dDrawn scDrawn (fun _ _ _ _ _ _ us hl => match us, hl with | [_, _], _ => rfl) (fun vs H Q E h => ?_) (fun cdv A outer s H vs Q E hr h => ?_)
  · obtain ⟨p, ns, k, rfl, _⟩ := h
    rfl
  · obtain ⟨p, ns, k, rfl, hS, hk, q⟩ := h
    have C := ok_cell (P := P) (w := w) (base := base) T
    refine ⟨_, PSs.nox (pss_cons (ps_par (i := 2) (j := 3) (by rfl) scDrawn.nd rfl rfl (by decide) rfl rfl
        (pa_cons (pe_op op_add (pe_callB call_abs (by rfl) T.t.t.b.abs (by decide +kernel) (pa_cons (pe_callR C hr rfl T.gCell (kpD T.dCell) pass0 (pa_cons (pv 0) (pa_cons (pv 1) pa_nil))) pa_nil)) (pv 1))
        (pa_cons (pe_op op_add (pe_op op_fdiv (pe_callB call_abs (by rfl) T.t.t.b.abs (by decide +kernel) (pa_cons (pe_callR C hr rfl T.gCell (kpD T.dCell) pass0 (pa_cons (pv 0) (pa_cons (pe_op op_add (pv 1) pe_int) pa_nil))) pa_nil)) pe_int) (pe_op op_mulW pe_int (pv 1))) pa_nil)) (by rfl))
      (pss_cons (ps_set (i := 4) scDrawn.nd rfl (Or.inl rfl) (pe_ix ix_tup (pe_tup (pa_cons pe_int (pa_cons pe_int (pa_cons (pe_op op_pow pe_int pe_int) pa_nil)))) (pe_op op_modN (pe_callTy call_int1 (by rfl) T.t.t.b.int boot_int (pa_cons (pe_op op_add (pv 2) (pv 3)) pa_nil)) pe_int) (fun _ _ => rfl)))
      (pss_cons (ps_set (i := 5) scDrawn.nd rfl (Or.inl rfl) (pe_op op_add pe_int (pe_op op_modN (pe_callTy call_int1 (by rfl) T.t.t.b.int boot_int (pa_cons (pv 3) pa_nil)) (pv 4))))
      (pss_one (ps_ret (pe_tup (pa_cons (pe_op op_modN (pe_callTy call_int1 (by rfl) T.t.t.b.int boot_int (pa_cons (pe_op op_fdiv (pv 2) pe_int) pa_nil)) (pe_op op_add (pv 5) pe_int)) (pa_cons (pv 5) pa_nil)))))))), ?_⟩
    refine ⟨_, rfl, _, rfl, p, ns, k, rfl, hS, _, rfl, _, rfl, _, _, rfl, rfl, ?_⟩
    refine ⟨_, rfl, _, rfl, _, _, rfl, rfl, p, ns, k + 1, rfl, hS, _, rfl, _, _, rfl, rfl, ⟨by decide, by decide⟩, _, rfl, _, _, rfl, rfl, wide_mul (a := 10) (b := 10) (by decide) (by omega) (by decide) (by decide) (by decide), ?_⟩
    obtain ⟨c, hc⟩ : ∃ c : Nat, c = (ns.getD k 0).natAbs + k := ⟨_, rfl⟩
    obtain ⟨u, hu⟩ : ∃ u : Nat, u = (ns.getD (k + 1) 0).natAbs / 7 + 3 * k := ⟨_, rfl⟩
    refine ⟨_, _, rfl, rfl, .int (c : Int), .int (u : Int), ?_, ?_⟩
    · show [V.int ((if ns.getD k 0 < 0 then -ns.getD k 0 else ns.getD k 0) + (k : Int)), V.int ((if ns.getD (k + 1) 0 < 0 then -ns.getD (k + 1) 0 else ns.getD (k + 1) 0) / 7 + 3 * (k : Int))] = _
      rw [absN, absN, hc, hu]
      rfl
    refine ⟨_, _, rfl, rfl, ⟨by decide, by decide, by decide⟩, (by show 3 ≤ sizeLine; decide), fun r hr0 => ?_⟩
    have sm := same_new (o := .tup [.int 9, .int 100, .int ((10 : Int) ^ (30 : Int).toNat)]) hr0
    have hrt : (upd H r (.tup [.int 9, .int 100, .int ((10 : Int) ^ (30 : Int).toNat)])) r = some (.tup [.int 9, .int 100, .int ((10 : Int) ^ (30 : Int).toNat)]) := upd_same
    refine ⟨_, rfl, _, rfl, _, _, rfl, rfl, .inl ⟨_, rfl, _, _, rfl, rfl, (by show (3 : Int) ≠ 0; decide), ?_⟩⟩
    obtain ⟨b, hb0, hb1, hat⟩ : ∃ b : Nat, 0 < b ∧ b ≤ 10 ^ 30 ∧ atI [V.int 9, V.int 100, V.int ((10 : Int) ^ (30 : Int).toNat)] (((c : Int) + (u : Int)).fmod 3) = some (.int (b : Int)) := by
      have e : ((c : Int) + (u : Int)).fmod 3 = (((c + u) % 3 : Nat) : Int) := fmodN (c + u) 3
      rw [e]
      have h3 : (c + u) % 3 < 3 := Nat.mod_lt _ (by decide)
      generalize (c + u) % 3 = j at h3 ⊢
      match j, h3 with
      | 0, _ => exact ⟨9, by decide, by decide, rfl⟩
      | 1, _ => exact ⟨100, by decide, by decide, rfl⟩
      | 2, _ => exact ⟨10 ^ 30, by decide, by decide, rfl⟩
    refine ⟨r, _, _, _, rfl, rfl, .inl (.inl hrt), hat, ?_⟩
    refine ⟨_, rfl, .inl ⟨_, rfl, _, rfl, _, _, rfl, rfl, (by omega), ?_⟩⟩
    refine ⟨_, _, rfl, rfl, ?_⟩
    obtain ⟨d, hd⟩ : ∃ d : Nat, d = 1 + u % b := ⟨_, rfl⟩
    have ed : (1 : Int) + (u : Int).fmod (b : Int) = (d : Int) := by
      rw [fmodN, hd]
      rfl
    refine ⟨_, rfl, _, _, rfl, rfl, ⟨by decide, by decide⟩, .inl ⟨_, rfl, _, rfl, _, _, rfl, rfl, _, _, rfl, rfl, ?_, _, rfl, (by show 2 ≤ sizeLine; decide), fun z hz => ?_⟩⟩
    · show ((1 : Int) + (u : Int).fmod (b : Int)) + 1 ≠ 0
      rw [ed]
      omega
    · have hm : u % b < b := Nat.mod_lt _ hb0
      have hd100 : d < 2 ^ 100 := by
        have : (10 : Nat) ^ 30 + 1 < 2 ^ 100 := by decide
        omega
      have hdp : 0 < d := by omega
      have ht : c / 11 % (d + 1) ≤ d := Nat.le_of_lt_succ (Nat.mod_lt _ (by omega))
      refine q (c / 11 % (d + 1)) d z _ (sm.trans (same_new hz)) ht hdp hd100 ?_
      show (upd _ z (.tup [V.int (((c : Int) / 11).fmod ((1 : Int) + (u : Int).fmod (b : Int) + 1)), V.int ((1 : Int) + (u : Int).fmod (b : Int))])) z = _
      rw [upd_same, ed]
      have e2 : ((c : Int) / 11).fmod ((d : Int) + 1) = ((c / 11 % (d + 1) : Nat) : Int) := fmodN (c / 11) (d + 1)
      rw [e2]
end
end K36

end
section
set_option Elab.async false
set_option linter.all false
set_option maxRecDepth 100000
set_option maxHeartbeats 4000000
set_option exponentiation.threshold 10000
namespace K36
open PySem PySem.Spec PyProof.Rows L2 N1 M36
section
variable {P : Program} {w : World} {K : PySem.W.Frag} {mg : Str → Option Value} {base : Heap} {a : Ad} {o : AdO} {l : AdL}
theorem sqT_same {H H' : Hp} {p : Addr} {xs : List V} (e : Same H H') (h : SqT K H p xs) : SqT K H' p xs := by
  rcases h with (h | ⟨o, h⟩) | h
  · exact .inl (.inl (e _ _ h))
  · exact .inl (.inr ⟨o, e _ _ h⟩)
  · exact .inr h
theorem sqT_ext {H H' : Hp} {p : Addr} {xs : List V} (e : XN H H') (h : SqT K H p xs) : SqT K H' p xs := by
  rcases h with (h | ⟨o, h⟩) | h
  · exact .inl (.inl (e _ _ h (fun _ z => nomatch z)))
  · exact .inl (.inr ⟨o, e _ _ h (fun _ z => nomatch z)⟩)
  · exact .inr h
theorem sqL_ext {H H' : Hp} {p : Addr} {xs : List V} (e : XN H H') (h : SqL K H p xs) : SqL K H' p xs := by
  rcases h with (h | ⟨o, h⟩) | h
  · exact .inl (.inl (e _ _ h (fun _ z => nomatch z)))
  · exact .inl (.inr ⟨o, e _ _ h (fun _ z => nomatch z)⟩)
  · exact .inr h
def spIs (K : PySem.W.Frag) (a : Ad) : Sp := fun vs H Q _ => ∃ (x q : Addr) (t d : Nat), vs = [.ref x, .ref q] ∧ ChF a H x t d ∧ SqT K H q [.int (t : Int), .int (d : Int)] ∧ d < 2 ^ 1000 ∧ ∀ H', Same H H' → Q (.bl true) H'
theorem scIs : FnScope ["_law_found", "_law_pair", "_law_due"] ["_law_found", "_law_pair"] (defScope sIs) := ⟨rfl, rfl, rfl, by decide +kernel, rfl, by decide +kernel, by decide +kernel⟩
theorem dup {t d : Nat} (h : d < 2 ^ 1000) : d * l2 t d < 2 ^ 2000 := by
  have e : (2 : Nat) ^ 2000 = 2 ^ 1000 * 2 ^ 1000 := by rw [← Nat.pow_add]
  rw [e]
  exact Nat.mul_lt_mul'' h (Nat.lt_of_le_of_lt (l2_le t d) h)
theorem self_eq (t d : Nat) : t * l2 t d = l1 t d * d := by
  have e1 := eq1 t d
  have e2 := eq2 t d
  generalize Nat.gcd t d = g at e1 e2
  generalize l1 t d = p at e1 e2 ⊢
  generalize l2 t d = q at e1 e2 ⊢
  subst e1 e2
  simp only [Nat.mul_assoc, Nat.mul_comm, Nat.mul_left_comm]
theorem ok_is (T : T3 K mg a o l) : FnR P w K mg base CX0 6 l.is_ (spIs K a) := by
  refine def_R T.dIs scIs (fun _ _ _ _ _ _ us hl => match us, hl with | [_, _], _ => rfl) (fun vs H Q E h => ?_) (fun cdv A outer s H vs Q E hr h => ?_)
  · obtain ⟨x, q, t, d, rfl, _⟩ := h
    rfl
  · obtain ⟨x, p, t, d, rfl, cx, hp, hd3, q⟩ := h
    have hr2 : Room 2 _ := hr.mono (by decide)
    have hr3 : Room 3 _ := hr.mono (by decide)
    have hr4 : Room 4 _ := hr.mono (by decide)
    have L := ok_low (P := P) (w := w) (base := base) T
    have I := ok_init (P := P) (w := w) (base := base) T.t.t
    have Q4 := ok_eq (P := P) (w := w) (base := base) T.t
    refine ⟨_, PSs.nox (pss_cons (ps_set (i := 2) scIs.nd rfl (Or.inl rfl) (pe_callR L hr2 rfl T.gLow (kpD T.dLow) pass0 (pa_cons (pe_ix ix_tup (pv 1) pe_int (fun _ _ => rfl)) (pa_cons (pe_ix ix_tup (pv 1) pe_int (fun _ _ => rfl)) pa_nil))))
      (pss_cons (ps_if (PW.pt (pw_or (pt_not (pt_val (isi_ch T.t (pv 0) rfl rfl)))
        (pw_or (pt_val (pe_callB call_isi (by rfl) T.t.t.b.isi (by decide +kernel) (pa_cons (p_top T.t.t hr2 (pv 0)) (pa_cons (pe_bltn (v := .ty "bool") (by rfl) T.t.t.b.bool (by decide +kernel) rfl) pa_nil))))
        (pw_or1 (pt_val (pe_callB call_isi (by rfl) T.t.t.b.isi (by decide +kernel) (pa_cons (p_bot T.t.t hr2 (pv 0)) (pa_cons (pe_bltn (v := .ty "bool") (by rfl) T.t.t.b.bool (by decide +kernel) rfl) pa_nil)))))))) (pss_one (ps_ret pe_bl)) pss_nil)
      (pss_one (ps_ret (pe_and (pe_cmpR (op_eqD hr.units) (pe_tup (pa_cons (p_top T.t.t hr2 (pv 0)) (pa_cons (p_bot T.t.t hr2 (pv 0)) pa_nil))) (pv 2) (nomark _))
        (pe_one (pe_cmpR (SlX.op_own (op := .Eq) (fun _ _ => rfl) T.aEq T.iEq Q4 hr4 pass0) (pv 0) (StX.pe_makeR T.t.t.mkC I.1 hr3 rfl T.t.t.gC passL (pa_cons (pe_ix ix_tup (pv 2) pe_int (fun _ _ => rfl)) (pa_cons (pe_ix ix_tup (pv 2) pe_int (fun _ _ => rfl)) pa_nil))) (nomark _)))))))), ?_⟩
    refine ⟨_, rfl, p, _, _, _, rfl, rfl, hp, rfl, _, rfl, p, _, _, _, rfl, rfl, hp, rfl, t, d, rfl, cx.2.1, Nat.lt_of_lt_of_le cx.2.2.2 (Nat.pow_le_pow_right (by decide) (by decide)), fun r hr0 => ?_⟩
    have sm := same_new (o := .tup [.int (l1 t d : Nat), .int (l2 t d : Nat)]) hr0
    have hrt : (upd H r (.tup [.int (l1 t d : Nat), .int (l2 t d : Nat)])) r = some (.tup [.int (l1 t d : Nat), .int (l2 t d : Nat)]) := upd_same
    generalize upd H r (.tup [.int (l1 t d : Nat), .int (l2 t d : Nat)]) = H1 at sm hrt ⊢
    have c1 := cx.same sm
    obtain ⟨dx, sx⟩ := c1.at
    refine ⟨_, rfl, x, a.C, dx, _, .ref a.C, true, rfl, rfl, (fun _ h => h), sx, T.t.t.scl, T.t.t.isi, T.t.kit, true, rfl, iteF ?_⟩
    refine ⟨_, rfl, x, dx, _, rfl, sx, x, t, d, rfl, c1, _, .ty "bool", .type "int", .type "bool", false, rfl, .ty _, .base (.int _), kit_ty (by decide +kernel), false, rfl, iteF ?_⟩
    refine ⟨_, rfl, x, dx, _, rfl, sx, x, t, d, rfl, c1, _, .ty "bool", .type "int", .type "bool", false, rfl, .ty _, .base (.int _), kit_ty (by decide +kernel), false, rfl, iteF ?_⟩
    refine ⟨_, rfl, x, dx, _, rfl, sx, x, t, d, rfl, c1, _, rfl, x, dx, _, rfl, sx, x, t, d, rfl, c1, (by show 2 ≤ sizeLine; decide), fun z hz => ?_⟩
    have sm2 := same_new (o := .tup [.int (l1 t d : Nat), .int (l2 t d : Nat)]) hz
    have hzt : (upd H1 z (.tup [.int (l1 t d : Nat), .int (l2 t d : Nat)])) z = some (.tup [.int (l1 t d : Nat), .int (l2 t d : Nat)]) := upd_same
    generalize upd H1 z (.tup [.int (l1 t d : Nat), .int (l2 t d : Nat)]) = H2 at sm2 hzt ⊢
    refine ⟨_, rfl, .tuple [.int (l1 t d : Nat), .int (l2 t d : Nat)], .tuple [.int (l1 t d : Nat), .int (l2 t d : Nat)], .tup (.inl (.inl hzt)) (.cons (.int _) (.cons (.int _) .nil)), .tup (.inl (.inl (sm2 _ _ hrt))) (.cons (.int _) (.cons (.int _) .nil)), rfl, rfl, _, rfl, ifT (SeqAt.eqv_refl _ rfl) ?_⟩
    refine ⟨_, rfl, _, rfl, r, _, _, _, rfl, rfl, .inl (.inl (sm2 _ _ hrt)), rfl, _, rfl, r, _, _, _, rfl, rfl, .inl (.inl (sm2 _ _ hrt)), rfl, ?_⟩
    have c2 := c1.same sm2
    refine mk_good (Q := fun y H3 => SlX.rOwn K a.C (spCmp (fun i j => decide (i = j)) a) E0 (V.ref x) y H3 Q) (t := l1 t d) (d := l2 t d) (l2_pos c2.2.1) (l1_le c2.2.2.1) c2.b2 fun y H3 sm3 cy => ?_
    have c3 := c2.same sm3
    obtain ⟨dx3, sx3⟩ := c3.at
    obtain ⟨dy, sy⟩ := cy.at
    refine ⟨x, dx3, _, y, a.C, dy, _, rfl, rfl, sx3, sy, (by unfold PySem.W.notFirst; simp), x, y, t, d, l1 t d, l2 t d, ⟨rfl, c3, cy, dup hd3⟩, ?_⟩
    show Q (.bl (decide (t * l2 t d = l1 t d * d))) H3
    rw [decide_eq_true (self_eq t d)]
    exact q H3 ((sm.trans sm2).trans sm3)
end
end K36

end
section
set_option Elab.async false
set_option linter.all false
set_option maxRecDepth 100000
set_option maxHeartbeats 4000000
set_option exponentiation.threshold 10000
namespace K36
open PySem PySem.Spec PyProof.Rows L2 N1 M36
structure T4 (K : PySem.W.Frag) (mg : Str → Option Value) (a : Ad) (o : AdO) (l : AdL) (fTurns : Addr) : Prop where
  t : T3 K mg a o l
  dTurns : Def1 K "_law_turns_right" "_law_turns_right" sTurns [] fTurns
  gTurns : mg "_law_turns_right" = some (.ref fTurns)
  aLt : PySem.W.findIn K (.ref a.C) (cmpInfo .Lt).2.1 = some (some (.ref o.lt))
  iLt : PySem.W.isFn K (.ref o.lt) = true
  aLe : PySem.W.findIn K (.ref a.C) (cmpInfo .LtE).2.1 = some (some (.ref o.le))
  iLe : PySem.W.isFn K (.ref o.le) = true
  aGt : PySem.W.findIn K (.ref a.C) (cmpInfo .Gt).2.1 = some (some (.ref o.gt))
  iGt : PySem.W.isFn K (.ref o.gt) = true
  aGe : PySem.W.findIn K (.ref a.C) (cmpInfo .GtE).2.1 = some (some (.ref o.ge))
  iGe : PySem.W.isFn K (.ref o.ge) = true
  ne : NeC K a.C o.eq
section
variable {P : Program} {w : World} {K : PySem.W.Frag} {mg : Str → Option Value} {base : Heap} {a : Ad} {o : AdO} {l : AdL} {fT : Addr}
def Four (K : PySem.W.Frag) (a : Ad) (vs : List V) (H : Hp) (x y q r : Addr) (t d t' d' : Nat) : Prop := vs = [.ref x, .ref y, .ref q, .ref r] ∧ ChF a H x t d ∧ ChF a H y t' d' ∧ SqT K H q [.int (t : Int), .int (d : Int)] ∧ SqT K H r [.int (t' : Int), .int (d' : Int)] ∧ d < 2 ^ 200 ∧ d' < 2 ^ 200
def spTurns (K : PySem.W.Frag) (a : Ad) : Sp := fun vs H Q _ => ∃ x y q r t d t' d', Four K a vs H x y q r t d t' d' ∧ ∀ H', Same H H' → Q (.bl true) H'
theorem b200 {i : Nat} (h : i < 2 ^ 200) : i < 2 ^ 2000 := Nat.lt_of_lt_of_le h (Nat.pow_le_pow_right (by decide) (by decide))
theorem bb {d d' : Nat} (h : d < 2 ^ 200) (h' : d' < 2 ^ 200) : d * d' < 2 ^ 400 := by
  have e : (2 : Nat) ^ 400 = 2 ^ 200 * 2 ^ 200 := by rw [← Nat.pow_add]
  rw [e]
  exact Nat.mul_lt_mul'' h h'
theorem b400 {i : Nat} (h : i < 2 ^ 400) : i < 2 ^ 1000 := Nat.lt_of_lt_of_le h (Nat.pow_le_pow_right (by decide) (by decide))
theorem b4 {i : Nat} (h : i < 2 ^ 400) : i < 2 ^ 2000 := Nat.lt_of_lt_of_le h (Nat.pow_le_pow_right (by decide) (by decide))
theorem scTurns : FnScope ["_law_one", "_law_other", "_law_mine", "_law_theirs", "_law_here", "_law_there"] ["_law_one", "_law_other", "_law_mine", "_law_theirs"] (defScope sTurns) := ⟨rfl, rfl, rfl, by decide +kernel, rfl, by decide +kernel, by decide +kernel⟩
theorem nf (K : PySem.W.Frag) (C : Addr) : PySem.W.notFirst K C (.ref C) = true := by unfold PySem.W.notFirst; simp
theorem rv_cmp {H : Hp} {x y : Addr} {t d t' d' : Nat} (p : Nat → Nat → Bool) (cx : ChF a H x t d) (cy : ChF a H y t' d') (hb : d * d' < 2 ^ 2000) : Evl.RV (SlX.rOwn K a.C (spCmp p a) E0) (.ref x) (.ref y) H (.bl (p (t * d') (t' * d))) :=
  Evl.rv_val fun H1 e Q q => by
    have c1 := cx.same e
    have c2 := cy.same e
    obtain ⟨dx, sx⟩ := c1.at
    obtain ⟨dy, sy⟩ := c2.at
    exact ⟨x, dx, _, y, a.C, dy, _, rfl, rfl, sx, sy, nf _ _, x, y, t, d, t', d', ⟨rfl, c1, c2, hb⟩, q⟩
theorem ev_cmp {σ : L2.St} {H : Hp} {p : Int → Int → Bool} {ta tb : TE} {i j : Int} (ha : Evl.Ev ta σ H (.int i)) (hb : Evl.Ev tb σ H (.int j)) : Evl.Ev (tCmp p ta tb) σ H (.bl (p i j)) := fun H1 e Q q =>
  ha H1 e _ fun H2 e2 => hb H2 (e.trans e2) _ fun H3 e3 => ⟨i, j, rfl, rfl, q H3 (e2.trans e3)⟩
theorem ok_turns (T : T4 K mg a o l fT) : FnR P w K mg base CX0 6 fT (spTurns K a) := by
  refine def_R T.dTurns scTurns (fun _ _ _ _ _ _ us hl => match us, hl with | [_, _, _, _], _ => rfl) (fun vs H Q E h => ?_) (fun cdv A outer s H vs Q E hr h => ?_)
  · obtain ⟨x, y, q, r, t, d, t', d', ⟨rfl, _⟩, _⟩ := h
    rfl
  · obtain ⟨x, y, p, r, t, d, t', d', ⟨rfl, cx, cy, hp, hr0, hd, hd'⟩, q⟩ := h
    have hr4 : Room 4 _ := hr.mono (by decide)
    have hr5 : Room 5 _ := hr
    have OL := ok_lt (P := P) (w := w) (base := base) T.t.t
    have OE := ok_le (P := P) (w := w) (base := base) T.t.t
    have OG := ok_gt (P := P) (w := w) (base := base) T.t.t
    have OH := ok_ge (P := P) (w := w) (base := base) T.t.t
    have OQ := ok_eq (P := P) (w := w) (base := base) T.t.t
    refine ⟨_, PSs.nox (pss_cons (ps_par (i := 4) (j := 5) (by rfl) scTurns.nd rfl rfl (by decide) rfl rfl
        (pa_cons (pe_op op_mulW (pe_ix ix_tup (pv 2) pe_int (fun _ _ => rfl)) (pe_ix ix_tup (pv 3) pe_int (fun _ _ => rfl))) (pa_cons (pe_op op_mulW (pe_ix ix_tup (pv 3) pe_int (fun _ _ => rfl)) (pe_ix ix_tup (pv 2) pe_int (fun _ _ => rfl))) pa_nil)) (by rfl))
      (pss_cons (ps_if (pt_cmpR (op_neD hr.units)
        (pe_lst (pa_cons (pe_cmpR (SlX.op_own (op := .Lt) (fun _ _ => rfl) T.aLt T.iLt OL hr4 pass0) (pv 0) (pv 1) (nomark _))
          (pa_cons (pe_cmpR (SlX.op_own (op := .LtE) (fun _ _ => rfl) T.aLe T.iLe OE hr4 pass0) (pv 0) (pv 1) (nomark _))
          (pa_cons (pe_cmpR (SlX.op_own (op := .Gt) (fun _ _ => rfl) T.aGt T.iGt OG hr4 pass0) (pv 0) (pv 1) (nomark _))
          (pa_cons (pe_cmpR (SlX.op_own (op := .GtE) (fun _ _ => rfl) T.aGe T.iGe OH hr4 pass0) (pv 0) (pv 1) (nomark _)) pa_nil)))))
        (pe_lst (pa_cons (pe_cmp (pc_lt (pv 4) (pv 5))) (pa_cons (pe_cmp (pc_le (pv 4) (pv 5))) (pa_cons (pe_cmp (pc_gt (pv 4) (pv 5))) (pa_cons (pe_cmp (pc_ge (pv 4) (pv 5))) pa_nil))))) (nomark _)) (pss_one (ps_ret pe_bl)) pss_nil)
      (pss_one (ps_ret (pe_and (pe_cmpR op_eq (pe_cmpR (SlX.op_own (op := .Eq) (fun _ _ => rfl) T.t.aEq T.t.iEq OQ hr4 pass0) (pv 0) (pv 1) (nomark _)) (pe_cmp (pc_eqI (pv 4) (pv 5))) (nomark _))
        (pe_one (pe_cmpR op_eq (pe_cmpR (op_neOwn T.ne OQ hr5 pass0) (pv 0) (pv 1) (nomark _)) (pe_cmp (pc_neI (pv 4) (pv 5))) (nomark _)))))))), ?_⟩
    have ht : t < 2 ^ 200 := Nat.lt_of_le_of_lt cx.2.2.1 hd
    have ht' : t' < 2 ^ 200 := Nat.lt_of_le_of_lt cy.2.2.1 hd'
    have hb := b4 (bb hd hd')
    refine ⟨_, rfl, p, _, _, _, rfl, rfl, hp, rfl, _, rfl, r, _, _, _, rfl, rfl, hr0, rfl, _, _, rfl, rfl, cm (b200 ht) (b200 hd'), ?_⟩
    refine ⟨_, rfl, r, _, _, _, rfl, rfl, hr0, rfl, _, rfl, p, _, _, _, rfl, rfl, hp, rfl, _, _, rfl, rfl, cm (b200 ht') (b200 hd), ?_⟩
    refine ⟨.int ((t * d' : Nat) : Int), .int ((t' * d : Nat) : Int), rfl, ?_⟩
    have cb : ∀ (p : Nat → Nat → Bool), Evl.RV (SlX.rOwn K a.C (spCmp p a) E0) (.ref x) (.ref y) H (.bl (p (t * d') (t' * d))) := fun p => rv_cmp p cx cy hb
    have s0 : Evl.Ev (tVar 0) [some (V.ref x), some (V.ref y), some (V.ref p), some (V.ref r), some (.int ((t * d' : Nat) : Int)), some (.int ((t' * d : Nat) : Int))] H (.ref x) := Evl.ev_var rfl
    have s1 : Evl.Ev (tVar 1) [some (V.ref x), some (V.ref y), some (V.ref p), some (V.ref r), some (.int ((t * d' : Nat) : Int)), some (.int ((t' * d : Nat) : Int))] H (.ref y) := Evl.ev_var rfl
    have s4 : Evl.Ev (tVar 4) [some (V.ref x), some (V.ref y), some (V.ref p), some (V.ref r), some (.int ((t * d' : Nat) : Int)), some (.int ((t' * d : Nat) : Int))] H (.int ((t * d' : Nat) : Int)) := Evl.ev_var rfl
    have s5 : Evl.Ev (tVar 5) [some (V.ref x), some (V.ref y), some (V.ref p), some (V.ref r), some (.int ((t * d' : Nat) : Int)), some (.int ((t' * d : Nat) : Int))] H (.int ((t' * d : Nat) : Int)) := Evl.ev_var rfl
    refine Evl.q_when (b := false) (Evl.et_is (Evl.et_test (Evl.ev_opLL (Evl.el_lst (Evl.ea_cons (Evl.ev_op s0 s1 (cb _)) (Evl.ea_cons (Evl.ev_op s0 s1 (cb _)) (Evl.ea_cons (Evl.ev_op s0 s1 (cb _)) (Evl.ea_cons (Evl.ev_op s0 s1 (cb _)) Evl.ea_nil)))) (by show 4 ≤ 100000; decide))
      (Evl.el_lst (Evl.ea_cons (ev_cmp s4 s5) (Evl.ea_cons (ev_cmp s4 s5) (Evl.ea_cons (ev_cmp s4 s5) (Evl.ea_cons (ev_cmp s4 s5) Evl.ea_nil)))) (by show 4 ≤ 100000; decide)) ?_)) rfl) (fun z => nomatch z) (fun _ H1 e1 => ?_)
    · intro u v H1 hu hv e1
      refine Evl.rv_val fun H2 e2 Q' q' => ?_
      have hu2 := e2 _ _ hu
      have hv2 := e2 _ _ hv
      rw [nlt, nle, nlt, nle] at hv2
      refine ⟨.list [.bool (decide (t * d' < t' * d)), .bool (decide (t * d' ≤ t' * d)), .bool (decide (t' * d < t * d')), .bool (decide (t' * d ≤ t * d'))], .list [.bool (decide (t * d' < t' * d)), .bool (decide (t * d' ≤ t' * d)), .bool (decide (t' * d < t * d')), .bool (decide (t' * d ≤ t * d'))],
        .lst (.inl (.inl hu2)) (.cons (.bl _) (.cons (.bl _) (.cons (.bl _) (.cons (.bl _) .nil)))), .lst (.inl (.inl hv2)) (.cons (.bl _) (.cons (.bl _) (.cons (.bl _) (.cons (.bl _) .nil)))), rfl, rfl, ?_⟩
      rw [SeqAt.eqv_refl _ rfl]
      exact q'
    · have cx2 := cx.same e1
      have cy2 := cy.same e1
      obtain ⟨dx2, sx2⟩ := cx2.at
      obtain ⟨dy2, sy2⟩ := cy2.at
      have tw2 : Two a [.ref x, .ref y] H1 x y t d t' d' := ⟨rfl, cx2, cy2, hb⟩
      refine ⟨_, rfl, _, rfl, x, dx2, _, y, a.C, dy2, _, rfl, rfl, sx2, sy2, nf _ _, x, y, t, d, t', d', tw2, ?_⟩
      refine ⟨_, rfl, _, rfl, _, _, rfl, rfl, rfl, _, rfl, ifT ?_ ?_⟩
      · refine decide_eq_true ?_
        show V.bl (decide (t * d' = t' * d)) = V.bl (decide (((t * d' : Nat) : Int) = ((t' * d : Nat) : Int)))
        rw [neq]
      · refine ⟨_, rfl, _, rfl, x, dx2, _, y, dy2, _, rfl, rfl, sx2, sy2, x, y, t, d, t', d', tw2, _, rfl, ?_⟩
        refine ⟨_, rfl, _, rfl, _, _, rfl, rfl, rfl, ?_⟩
        have e5 : decide (V.bl (!decide (t * d' = t' * d)) = V.bl (!decide (((t * d' : Nat) : Int) = ((t' * d : Nat) : Int)))) = true := decide_eq_true (by rw [neq])
        show Q (.bl (decide (V.bl (!decide (t * d' = t' * d)) = V.bl (!decide (((t * d' : Nat) : Int) = ((t' * d : Nat) : Int)))))) _
        rw [e5]
        exact q _ e1
end
end K36

end
section
set_option Elab.async false
set_option linter.all false
set_option maxRecDepth 100000
set_option maxHeartbeats 4000000
set_option exponentiation.threshold 10000
namespace K36
open PySem PySem.Spec PyProof.Rows L2 N1 M36
open Evl (Ev EvT EvA Ex)
def EvC (te : TE) (σ : L2.St) (H : Hp) (P : Addr → Hp → Prop) : Prop := ∀ H1, Ex H H1 → ∀ Q : VK, (∀ p H2, Ex H1 H2 → P p H2 → Q (.ref p) H2) → te σ H1 Q
abbrev EvCh (a : Ad) (te : TE) (σ : L2.St) (H : Hp) (t d : Nat) : Prop := EvC te σ H fun p H2 => ChF a H2 p t d
abbrev EvPr (K : PySem.W.Frag) (te : TE) (σ : L2.St) (H : Hp) (t d : Nat) : Prop := EvC te σ H fun p H2 => SqT K H2 p [.int (t : Int), .int (d : Int)]
section
variable {K : PySem.W.Frag} {a : Ad} {o : AdO} {l : AdL} {σ : L2.St} {H H' : Hp} {te tf tp : TE} {t d t' d' : Nat}
theorem EvC.mono {P : Addr → Hp → Prop} (e : Ex H H') (h : EvC te σ H P) : EvC te σ H' P := fun H1 e1 Q q => h H1 (e.trans e1) Q q
theorem ech_var {i : Nat} {x : Addr} (h : σ[i]? = some (some (.ref x))) (c : ChF a H x t d) : EvCh a (tVar i) σ H t d := fun H1 e Q q => ⟨_, h, q x H1 (Ex.refl H1) (c.same e)⟩
theorem epr_var {i : Nat} {x : Addr} (h : σ[i]? = some (some (.ref x))) (c : SqT K H x [.int (t : Int), .int (d : Int)]) : EvPr K (tVar i) σ H t d := fun H1 e Q q => ⟨_, h, q x H1 (Ex.refl H1) (sqT_same e c)⟩
theorem epr_tup {ta : TA} (h : EvA ta σ H [.int (t : Int), .int (d : Int)]) : EvPr K (tTup ta) σ H t d := fun H1 e Q q =>
  h H1 e _ fun H2 e2 => ⟨by show 2 ≤ sizeLine; decide, fun p hp => q p _ (e2.trans (Ex.new hp)) (.inl (.inl upd_same))⟩
theorem ech_of (h : EvCh a te σ H t d) (e : l1 t' d' = l1 t d ∧ l2 t' d' = l2 t d) (h1 : 0 < d') (h2 : t' ≤ d') (h3 : d' < 2 ^ 2000) : EvCh a te σ H t' d' := fun H1 e1 Q q => h H1 e1 Q fun p H2 e2 c => q p H2 e2 (c.of e h1 h2 h3)
theorem ech_rsub {E : XK} (h : EvCh a te σ H t d) : EvCh a (tOp (rRsub a.C (spRsub a) E) (tC (.int 1)) te) σ H (d - t) d := fun H1 e1 Q q => h H1 e1 _ fun p H2 e2 c => by
  obtain ⟨dx, sx⟩ := c.at
  exact ⟨1, p, dx, _, rfl, rfl, sx, p, t, d, rfl, c, fun z H3 e3 c3 => q z H3 (e2.trans e3) c3⟩
theorem ech_add {E : XK} (h : EvCh a te σ H t d) (h' : EvCh a tf σ H t' d') (hb : d * d' < 2 ^ 2000) (hle : t * d' + t' * d ≤ d * d') : EvCh a (tOp (rBin a.C (spAdd a) E) te tf) σ H (t * d' + t' * d) (d * d') := fun H1 e1 Q q =>
  h H1 e1 _ fun x H2 e2 c => h' H2 (e1.trans e2) _ fun y H3 e3 c' => by
    have c2 := c.same e3
    obtain ⟨dx, sx⟩ := c2.at
    obtain ⟨dy, sy⟩ := c'.at
    exact ⟨x, dx, _, y, dy, _, rfl, rfl, sx, sy, x, y, t, d, t', d', ⟨rfl, c2, c', hb⟩, .inl ⟨hle, fun z H4 e4 c4 => q z H4 ((e2.trans e3).trans e4) c4⟩⟩
theorem ech_sub {E : XK} (h : EvCh a te σ H t d) (h' : EvCh a tf σ H t' d') (hb : d * d' < 2 ^ 2000) (hle : t' * d ≤ t * d') : EvCh a (tOp (rBin a.C (spSub a) E) te tf) σ H (t * d' - t' * d) (d * d') := fun H1 e1 Q q =>
  h H1 e1 _ fun x H2 e2 c => h' H2 (e1.trans e2) _ fun y H3 e3 c' => by
    have c2 := c.same e3
    obtain ⟨dx, sx⟩ := c2.at
    obtain ⟨dy, sy⟩ := c'.at
    exact ⟨x, dx, _, y, dy, _, rfl, rfl, sx, sy, x, y, t, d, t', d', ⟨rfl, c2, c', hb⟩, .inl ⟨hle, fun z H4 e4 c4 => q z H4 ((e2.trans e3).trans e4) c4⟩⟩
theorem ech_mul {E : XK} (h : EvCh a te σ H t d) (h' : EvCh a tf σ H t' d') (hb : d * d' < 2 ^ 2000) : EvCh a (tOp (rBin a.C (spMul a) E) te tf) σ H (t * t') (d * d') := fun H1 e1 Q q =>
  h H1 e1 _ fun x H2 e2 c => h' H2 (e1.trans e2) _ fun y H3 e3 c' => by
    have c2 := c.same e3
    obtain ⟨dx, sx⟩ := c2.at
    obtain ⟨dy, sy⟩ := c'.at
    exact ⟨x, dx, _, y, dy, _, rfl, rfl, sx, sy, x, y, t, d, t', d', ⟨rfl, c2, c', hb⟩, fun z H4 e4 c4 => q z H4 ((e2.trans e3).trans e4) c4⟩
theorem ech_pow {E : XK} (n : Nat) (hn : n ≤ 5) (h : EvCh a te σ H t d) (hd : d < 2 ^ 200) : EvCh a (tOp (rBinI a.C (spPow a) E) te (tC (.int (n : Nat)))) σ H (t ^ n) (d ^ n) := fun H1 e1 Q q => h H1 e1 _ fun x H2 e2 c => by
  obtain ⟨dx, sx⟩ := c.at
  exact ⟨x, dx, _, (n : Int), rfl, rfl, sx, x, t, d, n, rfl, hn, c, hd, fun z H3 e3 c3 => q z H3 (e2.trans e3) c3⟩
theorem ech_const {E : XK} : EvCh a (tStat a.C (spConst a t) E (tC (.ref a.C))) σ H t 1 := fun H1 e1 Q q => ⟨rfl, rfl, fun z H2 e2 c => q z H2 e2 c⟩
theorem ech_make1 {E : XK} : EvCh a (StX.tMakeR a.C (fun vs H Q E => spInit a (vs ++ [.int 1]) H Q E) E (tCons (tC (.int 1)) tNil)) σ H 1 1 := fun H1 e1 Q q =>
  mk_good (t := 1) (d := 1) (by decide) (by decide) (Nat.one_lt_two_pow (by decide)) q
theorem ech_make {E : XK} {ta : TA} (h : EvA ta σ H [.int (t : Int), .int (d : Int)]) (hd : 0 < d) (htd : t ≤ d) (hb : d < 2 ^ 2000) : EvCh a (StX.tMakeR a.C (spInit a) E ta) σ H t d := fun H1 e1 Q q =>
  h H1 e1 _ fun H2 e2 => mk_good (t := t) (d := d) hd htd hb fun z H3 e3 c => q z H3 (e2.trans e3) c
theorem ev_is {E : XK} (h : EvCh a te σ H t d) (hp : EvPr K tp σ H t d) (hd : d < 2 ^ 1000) : Ev (tCallR (spIs K a) E (tCons te (tCons tp tNil))) σ H (.bl true) := fun H1 e1 Q q =>
  h H1 e1 _ fun x H2 e2 c => hp H2 (e1.trans e2) _ fun r H3 e3 hr => ⟨x, r, t, d, rfl, c.same e3, hr, hd, fun H4 e4 => q H4 ((e2.trans e3).trans e4)⟩
theorem ev_own {p : Nat → Nat → Bool} (h : EvCh a te σ H t d) (h' : EvCh a tf σ H t' d') (hb : d * d' < 2 ^ 2000) : Ev (tOp (SlX.rOwn K a.C (spCmp p a) E0) te tf) σ H (.bl (p (t * d') (t' * d))) := fun H1 e1 Q q =>
  h H1 e1 _ fun x H2 e2 c => h' H2 (e1.trans e2) _ fun y H3 e3 c' => rv_cmp p (c.same e3) c' hb H3 (Ex.refl H3) Q fun H4 e4 => q H4 ((e2.trans e3).trans e4)
end
theorem ix_mul {D : Ends} {K : PySem.W.Frag} {x p : Addr} {i2 i3 t d : Int} {v4 : Option V} {H : Hp} (h0 : Ev (tOp (rIxT K) (tVar 1) (tC (.int 0))) [some (.ref x), some (.ref p), some (.int i2), some (.int i3), v4] H (.int t)) (c0 : CMulW i2 t)
    (h1 : Ev (tOp (rIxT K) (tVar 1) (tC (.int 1))) [some (.ref x), some (.ref p), some (.int i2), some (.int i3), v4] H (.int d)) (c1 : CMulW i3 d)
    (k : ∀ H1, Same H H1 → D.nx [some (.ref x), some (.ref p), some (.int (i2 * t)), some (.int (i3 * d)), v4] H1) :
    tPar 2 3 (tCons (tOp (rI CMulW fun i j => .int (i * j)) (tVar 2) (tOp (rIxT K) (tVar 1) (tC (.int 0)))) (tCons (tOp (rI CMulW fun i j => .int (i * j)) (tVar 3) (tOp (rIxT K) (tVar 1) (tC (.int 1)))) tNil)) D [some (.ref x), some (.ref p), some (.int i2), some (.int i3), v4] H := by
  have e : EvA (tCons (tOp (rI CMulW fun i j => .int (i * j)) (tVar 2) (tOp (rIxT K) (tVar 1) (tC (.int 0)))) (tCons (tOp (rI CMulW fun i j => .int (i * j)) (tVar 3) (tOp (rIxT K) (tVar 1) (tC (.int 1)))) tNil)) [some (.ref x), some (.ref p), some (.int i2), some (.int i3), v4] H [.int (i2 * t), .int (i3 * d)] :=
    Evl.ea_cons (Evl.ev_op (Evl.ev_var rfl) h0 (Evl.rv_I c0)) (Evl.ea_cons (Evl.ev_op (Evl.ev_var rfl) h1 (Evl.rv_I c1)) Evl.ea_nil)
  exact e H (Ex.refl H) _ fun H1 e1 => ⟨_, _, rfl, k H1 e1⟩
structure T5 (K : PySem.W.Frag) (mg : Str → Option Value) (a : Ad) (o : AdO) (l : AdL) (fT fA pN pS : Addr) (mc : Value) (fo ro rc : Option Value) : Prop where
  t : T4 K mg a o l fT
  dAlone : Def1 K "_law_alone_right" "_law_alone_right" sAlone [] fA
  gAlone : mg "_law_alone_right" = some (.ref fA)
  sf : PySem.W.selfFirst K a.C = true
  aAdd : PySem.W.findIn K (.ref a.C) (PySem.dunder "add") = some (some (.ref o.add))
  iAdd : PySem.W.isFn K (.ref o.add) = true
  aSub : PySem.W.findIn K (.ref a.C) (PySem.dunder "sub") = some (some (.ref o.sub))
  iSub : PySem.W.isFn K (.ref o.sub) = true
  aMul : PySem.W.findIn K (.ref a.C) (PySem.dunder "mul") = some (some (.ref o.mul))
  iMul : PySem.W.isFn K (.ref o.mul) = true
  aRsub : PySem.W.findIn K (.ref a.C) (dunderR "sub") = some (some (.ref o.rsub))
  iRsub : PySem.W.isFn K (.ref o.rsub) = true
  nsub : PySem.W.subIn K (.ref a.C) (.type "int") = some false
  pow : BinI K a.C o.pow "pow" fo ro rc
  rd : ClX.CRead K a.C mc
  mNev : SMet K a.C mc "never" pN o.nev
  mSur : SMet K a.C mc "surely" pS o.sur
section
variable {P : Program} {w : World} {K : PySem.W.Frag} {mg : Str → Option Value} {base : Heap} {a : Ad} {o : AdO} {l : AdL} {fT fA pN pS : Addr} {mc : Value} {fo ro rc : Option Value}
def spAlone (K : PySem.W.Frag) (a : Ad) : Sp := fun vs H Q _ => ∃ x q t d, vs = [.ref x, .ref q] ∧ ChF a H x t d ∧ SqT K H q [.int (t : Int), .int (d : Int)] ∧ d < 2 ^ 200 ∧ ∀ H', Same H H' → Q (.bl true) H'
theorem scAlone : FnScope ["_law_one", "_law_mine", "_law_top", "_law_bottom", "_law_found"] ["_law_one", "_law_mine"] (defScope sAlone) := ⟨rfl, rfl, rfl, by decide +kernel, rfl, by decide +kernel, by decide +kernel⟩
theorem ok_alone (T : T5 K mg a o l fT fA pN pS mc fo ro rc) : FnR P w K mg base CX0 8 fA (spAlone K a) := by
  refine def_R T.dAlone scAlone (fun _ _ _ _ _ _ us hl => match us, hl with | [_, _], _ => rfl) (fun vs H Q E h => ?_) (fun cdv A outer s H vs Q E hr h => ?_)
  · obtain ⟨x, q, t, d, rfl, _⟩ := h
    rfl
  · obtain ⟨x, p, t, d, rfl, cx, hp, hd, q⟩ := h
    have T2 := T.t.t.t
    have T1 := T.t.t.t.t
    have hr3 : Room 3 _ := hr.mono (by decide)
    have hr4 : Room 4 _ := hr.mono (by decide)
    have hr6 : Room 6 _ := hr.mono (by decide)
    have OI := ok_is (P := P) (w := w) (base := base) T.t.t
    have OR := ok_rsub (P := P) (w := w) (base := base) T2
    have OP := ok_pow (P := P) (w := w) (base := base) T2
    have OA := ok_add (P := P) (w := w) (base := base) T2
    have OS := ok_sub (P := P) (w := w) (base := base) T2
    have OM := ok_mul (P := P) (w := w) (base := base) T2
    have OLe := ok_le (P := P) (w := w) (base := base) T2
    have OEq := ok_eq (P := P) (w := w) (base := base) T2
    have ON := ok_nev (P := P) (w := w) (base := base) T2
    have OU := ok_sur (P := P) (w := w) (base := base) T2
    have I := ok_init (P := P) (w := w) (base := base) T1
    refine ⟨_, PSs.nox (pss_cons (ps_if (PW.pt (pw_or
        (pt_not (pt_val (pe_callR OI hr6 rfl T.t.t.gIs (kpD T.t.t.dIs) pass0 (pa_cons (pe_op (op_rsub T.sf T.aSub T.aRsub T.iRsub T.nsub OR hr4 passL) pe_int (pv 0)) (pa_cons (pe_tup (pa_cons (pe_op op_sub (pe_ix ix_tup (pv 1) pe_int (fun _ _ => rfl)) (pe_ix ix_tup (pv 1) pe_int (fun _ _ => rfl))) (pa_cons (pe_ix ix_tup (pv 1) pe_int (fun _ _ => rfl)) pa_nil))) pa_nil)))))
        (pw_or1 (pt_not (pt_val (pe_callR OI hr6 rfl T.t.t.gIs (kpD T.t.t.dIs) pass0 (pa_cons (pe_op (op_rsub T.sf T.aSub T.aRsub T.iRsub T.nsub OR hr4 passL) pe_int (pe_op (op_rsub T.sf T.aSub T.aRsub T.iRsub T.nsub OR hr4 passL) pe_int (pv 0))) (pa_cons (pv 1) pa_nil)))))))) (pss_one (ps_ret pe_bl)) pss_nil)
      (pss_cons (ps_asg (pe_tup (pa_cons pe_int (pa_cons pe_int pa_nil))) (pg_tup rfl (pgs_cons (pg_name (i := 2) scAlone.nd rfl (Or.inl rfl)) (pgs_cons (pg_name (i := 3) scAlone.nd rfl (Or.inl rfl)) pgs_nil))))
      (pss_cons (ps_for PassesOwn.never rfl (pi_list (pe_lst (pa_cons (pe_op (op_binI (op := .Pow) T.pow OP hr4 passL) (pv 0) pe_int) (pa_cons (pe_op (op_binI (op := .Pow) T.pow OP hr4 passL) (pv 0) pe_int) (pa_cons (pe_op (op_binI (op := .Pow) T.pow OP hr4 passL) (pv 0) pe_int)
          (pa_cons (pe_op (op_binI (op := .Pow) T.pow OP hr4 passL) (pv 0) pe_int) (pa_cons (pe_op (op_binI (op := .Pow) T.pow OP hr4 passL) (pv 0) pe_int) (pa_cons (pe_op (op_binI (op := .Pow) T.pow OP hr4 passL) (pv 0) pe_int) pa_nil)))))))) (pg_name (i := 4) scAlone.nd rfl (Or.inl rfl))
        (pss_cons (ps_if (pt_not (pt_val (pe_callR OI hr6 rfl T.t.t.gIs (kpD T.t.t.dIs) pass0 (pa_cons (pv 4) (pa_cons (pe_tup (pa_cons (pv 2) (pa_cons (pv 3) pa_nil))) pa_nil))))) (pss_one (ps_ret pe_bl)) pss_nil)
        (pss_one (ps_par (i := 2) (j := 3) (by rfl) scAlone.nd rfl rfl (by decide) rfl rfl (pa_cons (pe_op op_mulW (pv 2) (pe_ix ix_tup (pv 1) pe_int (fun _ _ => rfl))) (pa_cons (pe_op op_mulW (pv 3) (pe_ix ix_tup (pv 1) pe_int (fun _ _ => rfl))) pa_nil)) (by rfl)))))
      (pss_cons (ps_if (PW.pt (pw_or
        (pt_not (pt_val (pe_callR OI hr6 rfl T.t.t.gIs (kpD T.t.t.dIs) pass0 (pa_cons (pe_op (op_bin (op := .Mult) T.sf T.aMul T.iMul OM hr4 passL) (pv 0) (pe_static0 (pe_glob (v := .ref a.C) rfl T1.gC rfl) T.rd T.mSur OU hr4 passL)) (pa_cons (pv 1) pa_nil)))))
        (pw_or1 (pt_not (pt_val (pe_callR OI hr6 rfl T.t.t.gIs (kpD T.t.t.dIs) pass0 (pa_cons (pe_op (op_bin (op := .Mult) T.sf T.aMul T.iMul OM hr4 passL) (pv 0) (pe_static0 (pe_glob (v := .ref a.C) rfl T1.gC rfl) T.rd T.mNev ON hr4 passL)) (pa_cons (pe_tup (pa_cons pe_int (pa_cons pe_int pa_nil))) pa_nil)))))))) (pss_one (ps_ret pe_bl)) pss_nil)
      (pss_cons (ps_if (PW.pt (pw_or
        (pt_not (pt_val (pe_callR OI hr6 rfl T.t.t.gIs (kpD T.t.t.dIs) pass0 (pa_cons (pe_op (op_bin (op := .Add) T.sf T.aAdd T.iAdd OA hr4 passL) (pv 0) (pe_static0 (pe_glob (v := .ref a.C) rfl T1.gC rfl) T.rd T.mNev ON hr4 passL)) (pa_cons (pv 1) pa_nil)))))
        (pw_or1 (pt_not (pt_val (pe_callR OI hr6 rfl T.t.t.gIs (kpD T.t.t.dIs) pass0 (pa_cons (pe_op (op_bin (op := .Sub) T.sf T.aSub T.iSub OS hr4 passL) (pv 0) (pv 0)) (pa_cons (pe_tup (pa_cons pe_int (pa_cons pe_int pa_nil))) pa_nil)))))))) (pss_one (ps_ret pe_bl)) pss_nil)
      (pss_one (ps_ret (pe_and (pe_cmpR (SlX.op_own (op := .LtE) (fun _ _ => rfl) T.t.aLe T.t.iLe OLe hr4 pass0) (pv 0) (pe_static0 (pe_glob (v := .ref a.C) rfl T1.gC rfl) T.rd T.mSur OU hr4 passL) (nomark _))
        (pe_and (pe_cmpR (SlX.op_own (op := .LtE) (fun _ _ => rfl) T.t.aLe T.t.iLe OLe hr4 pass0) (pe_static0 (pe_glob (v := .ref a.C) rfl T1.gC rfl) T.rd T.mNev ON hr4 passL) (pv 0) (nomark _))
        (pe_and (pe_cmpR (SlX.op_own (op := .Eq) (fun _ _ => rfl) T.t.t.aEq T.t.t.iEq OEq hr4 pass0) (pe_op (op_binI (op := .Pow) T.pow OP hr4 passL) (pv 0) pe_int) (pv 0) (nomark _))
        (pe_one (pe_cmpR (SlX.op_own (op := .Eq) (fun _ _ => rfl) T.t.t.aEq T.t.t.iEq OEq hr4 pass0) (pe_op (op_binI (op := .Pow) T.pow OP hr4 passL) (pv 0) pe_int) (StX.pe_makeR T1.mkC I.2 hr3 rfl T1.gC passL (pa_cons pe_int pa_nil)) (nomark _))))))))))))), ?_⟩
    have h0 := cx.2.1
    have htd := cx.2.2.1
    have hd2 : d < 2 ^ 2000 := cx.2.2.2
    have hd1 : d < 2 ^ 1000 := Nat.lt_of_lt_of_le hd (Nat.pow_le_pow_right (by decide) (by decide))
    have d0 : 0 ≤ t := Nat.zero_le _
    have sz : ∀ (H' : Hp), Same H H' → ∀ v2 v3 v4, EvCh a (tVar 0) [some (.ref x), some (.ref p), v2, v3, v4] H' t d := fun H' e v2 v3 v4 => ech_var rfl (cx.same e)
    have sp : ∀ (H' : Hp), Same H H' → ∀ v2 v3 v4, EvPr K (tVar 1) [some (.ref x), some (.ref p), v2, v3, v4] H' t d := fun H' e v2 v3 v4 => epr_var rfl (sqT_same e hp)
    have ix0 : ∀ (H' : Hp), Same H H' → ∀ v2 v3 v4, Ev (tOp (rIxT K) (tVar 1) (tC (.int 0))) [some (.ref x), some (.ref p), v2, v3, v4] H' (.int (t : Int)) := fun H' e v2 v3 v4 => Evl.ev_op (Evl.ev_var rfl) Evl.ev_c (Evl.rv_ixT (sqT_same e hp) rfl)
    have ix1 : ∀ (H' : Hp), Same H H' → ∀ v2 v3 v4, Ev (tOp (rIxT K) (tVar 1) (tC (.int 1))) [some (.ref x), some (.ref p), v2, v3, v4] H' (.int (d : Int)) := fun H' e v2 v3 v4 => Evl.ev_op (Evl.ev_var rfl) Evl.ev_c (Evl.rv_ixT (sqT_same e hp) rfl)
    have sb : Ev (tOp (rI0 fun i j => .int (i - j)) (tOp (rIxT K) (tVar 1) (tC (.int 1))) (tOp (rIxT K) (tVar 1) (tC (.int 0)))) [some (.ref x), some (.ref p), none, none, none] H (.int ((d - t : Nat) : Int)) :=
      Evl.ev_is (Evl.ev_op (ix1 H (Same.refl H) _ _ _) (ix0 H (Same.refl H) _ _ _) Evl.rv_I0) (by rw [Int.natCast_sub htd])
    refine Evl.q_when (b := false) (Evl.et_is (Evl.et_or (Evl.et_not (Evl.et_B (ev_is (ech_rsub (sz H (Same.refl H) _ _ _)) (epr_tup (Evl.ea_cons sb (Evl.ea_cons (ix1 H (Same.refl H) _ _ _) Evl.ea_nil))) hd1)))
      (fun _ => Evl.et_not (Evl.et_B (ev_is (ech_of (ech_rsub (ech_rsub (sz H (Same.refl H) _ _ _))) (by rw [Nat.sub_sub_self htd]; exact ⟨rfl, rfl⟩) h0 htd hd2) (sp H (Same.refl H) _ _ _) hd1)))) rfl) (fun z => nomatch z) (fun _ H1 e1 => ?_)
    refine ⟨(by show 2 ≤ sizeLine; decide), fun r hr0 => ⟨r, _, rfl, .inl (.inl upd_same), rfl, _, _, rfl, _, _, rfl, rfl, ?_⟩⟩
    have e2 := same_new (o := .tup [.int 1, .int 1]) hr0
    generalize upd H1 r (HO.tup [V.int 1, V.int 1]) = H2 at e2 ⊢
    have e2 : Same H H2 := Same.trans e1 e2
    have pw : ∀ n, n ≤ 5 → ∀ (H' : Hp), Same H H' → ∀ v2 v3 v4, EvCh a (tOp (rBinI a.C (spPow a) E0) (tVar 0) (tC (.int (n : Nat)))) [some (.ref x), some (.ref p), v2, v3, v4] H' (t ^ n) (d ^ n) := fun n hn H' e v2 v3 v4 => ech_pow n hn (sz H' e _ _ _) hd
    refine pw 0 (by decide) H2 e2 _ _ _ H2 (Ex.refl _) _ (fun p0 G0 k0 c0 => ?_)
    refine pw 1 (by decide) H2 e2 _ _ _ G0 k0 _ (fun p1 G1 k1 c1 => ?_)
    refine pw 2 (by decide) H2 e2 _ _ _ G1 (k0.trans k1) _ (fun p2 G2 k2 c2 => ?_)
    refine pw 3 (by decide) H2 e2 _ _ _ G2 ((k0.trans k1).trans k2) _ (fun p3 G3 k3 c3 => ?_)
    refine pw 4 (by decide) H2 e2 _ _ _ G3 (((k0.trans k1).trans k2).trans k3) _ (fun p4 G4 k4 c4 => ?_)
    refine pw 5 (by decide) H2 e2 _ _ _ G4 ((((k0.trans k1).trans k2).trans k3).trans k4) _ (fun p5 G5 k5 c5 => ?_)
    refine ⟨(by show 6 ≤ sizeLine; decide), fun L hL => ⟨L, rfl, ⟨_, .inl (.inl upd_same)⟩, ?_⟩⟩
    have e3 := same_new (o := .lst [.ref p0, .ref p1, .ref p2, .ref p3, .ref p4, .ref p5]) hL
    have hLt : (upd G5 L (HO.lst [.ref p0, .ref p1, .ref p2, .ref p3, .ref p4, .ref p5])) L = some (.lst [.ref p0, .ref p1, .ref p2, .ref p3, .ref p4, .ref p5]) := upd_same
    generalize upd G5 L (HO.lst [.ref p0, .ref p1, .ref p2, .ref p3, .ref p4, .ref p5]) = H3 at e3 hLt ⊢
    have e4 : Same H H3 := Same.trans e2 (Same.trans (((((k0.trans k1).trans k2).trans k3).trans k4).trans k5) e3)
    have all : ∀ (i : Nat) (y : V), [V.ref p0, .ref p1, .ref p2, .ref p3, .ref p4, .ref p5][i]? = some y → i ≤ 5 ∧ ∃ z, y = .ref z ∧ ChF a H3 z (t ^ i) (d ^ i) := by
      intro i y hi
      match i, hi with
      | 0, hi => cases hi; exact ⟨by decide, p0, rfl, c0.same (Same.trans (((k1.trans k2).trans k3).trans (k4.trans k5)) e3)⟩
      | 1, hi => cases hi; exact ⟨by decide, p1, rfl, c1.same (Same.trans ((k2.trans k3).trans (k4.trans k5)) e3)⟩
      | 2, hi => cases hi; exact ⟨by decide, p2, rfl, c2.same (Same.trans (k3.trans (k4.trans k5)) e3)⟩
      | 3, hi => cases hi; exact ⟨by decide, p3, rfl, c3.same (Same.trans (k4.trans k5) e3)⟩
      | 4, hi => cases hi; exact ⟨by decide, p4, rfl, c4.same (Same.trans k5 e3)⟩
      | 5, hi => cases hi; exact ⟨by decide, p5, rfl, c5.same e3⟩
      | i + 6, hi => simp at hi
    refine for_list (K := K) (a := L) (xs := [.ref p0, .ref p1, .ref p2, .ref p3, .ref p4, .ref p5]) (fun i σ H' => Same H3 H' ∧ ∃ v, σ = [some (.ref x), some (.ref p), some (.int ((t ^ i : Nat) : Int)), some (.int ((d ^ i : Nat) : Int)), v]) ⟨Same.refl _, none, rfl⟩ (fun i σ H' _ h => .inl (.inl (h.1 _ _ hLt))) ?_ ?_
    · rintro i y σ H' hi ⟨e5, v, rfl⟩
      obtain ⟨hi5, z, rfl, cz⟩ := all i y hi
      have pl := pw_lt (n := i) hd hi5
      have pl2 : d ^ i < 2 ^ 1000 := by
        have h1 : d ^ i ≤ (2 ^ 200) ^ i := Nat.pow_le_pow_left (Nat.le_of_lt hd) i
        have h2 : (2 ^ 200 : Nat) ^ i ≤ 2 ^ 1000 := by
          rw [← Nat.pow_mul]
          exact Nat.pow_le_pow_right (by decide) (by omega)
        have h3 : d ^ i < 2 ^ 1000 ∨ d ^ i = 2 ^ 1000 := Nat.lt_or_eq_of_le (Nat.le_trans h1 h2)
        rcases h3 with h3 | h3
        · exact h3
        · exfalso
          by_cases hz : i = 0
          · subst hz
            simp at h3
          · have h4 : d ^ i < (2 ^ 200) ^ i := Nat.pow_lt_pow_left hd hz
            omega
      refine Evl.q_when (b := false) (Evl.et_is (Evl.et_not (Evl.et_B (ev_is (K := K) (ech_var (i := 4) rfl (cz.same e5)) (epr_tup (Evl.ea_cons (Evl.ev_var (i := 2) rfl) (Evl.ea_cons (Evl.ev_var (i := 3) rfl) Evl.ea_nil))) pl2))) rfl) (fun z => nomatch z) (fun _ H4 e6 => ?_)
      have e7 : Same H H4 := Same.trans e4 (Same.trans e5 e6)
      have tl : t ^ i < 2 ^ 2000 := Nat.lt_of_le_of_lt (pw_ge htd) pl
      refine ix_mul (ix0 H4 e7 _ _ _) (cm tl (Nat.lt_of_le_of_lt htd hd2)) (ix1 H4 e7 _ _ _) (cm pl hd2) fun H5 e8 => ?_
      refine ⟨Same.trans e5 (Same.trans e6 e8), some (.ref z), ?_⟩
      rfl
    · rintro σ H' ⟨e5, v, rfl⟩
      have e6 : Same H H' := Same.trans e4 e5
      have hbd : d * d < 2 ^ 2000 := b4 (bb hd hd)
      have hbd1 : d * d < 2 ^ 1000 := b400 (bb hd hd)
      refine Evl.q_when (b := false) (Evl.et_is (Evl.et_or (Evl.et_not (Evl.et_B (ev_is (ech_of (ech_mul (sz H' e6 _ _ _) (ech_const (t := 1)) (by omega)) (by rw [Nat.mul_one, Nat.mul_one]; exact ⟨rfl, rfl⟩) h0 htd hd2) (sp H' e6 _ _ _) hd1)))
        (fun _ => Evl.et_not (Evl.et_B (ev_is (t := 0) (d := 1) (ech_of (ech_mul (sz H' e6 _ _ _) (ech_const (t := 0)) (by omega)) (by rw [Nat.mul_one, Nat.mul_zero]; exact ⟨(l_zero h0).1.symm, (l_zero h0).2.symm⟩) (by decide) (by decide) (Nat.one_lt_two_pow (by decide))) (epr_tup (Evl.ea_cons Evl.ev_c (Evl.ea_cons Evl.ev_c Evl.ea_nil))) (Nat.one_lt_two_pow (by decide)))))) rfl) (fun z => nomatch z) (fun _ H4 k4 => ?_)
      have e7 : Same H H4 := Same.trans e6 k4
      refine Evl.q_when (b := false) (Evl.et_is (Evl.et_or (Evl.et_not (Evl.et_B (ev_is (ech_of (ech_add (sz H4 e7 _ _ _) (ech_const (t := 0)) (by omega) (by omega)) (by rw [Nat.mul_one, Nat.mul_one, Nat.zero_mul, Nat.add_zero]; exact ⟨rfl, rfl⟩) h0 htd hd2) (sp H4 e7 _ _ _) hd1)))
        (fun _ => Evl.et_not (Evl.et_B (ev_is (t := 0) (d := 1) (ech_of (ech_sub (sz H4 e7 _ _ _) (sz H4 e7 _ _ _) hbd (Nat.le_refl _)) (by rw [Nat.sub_self]; exact ⟨(l_zero (Nat.mul_pos h0 h0)).1.symm, (l_zero (Nat.mul_pos h0 h0)).2.symm⟩) (by decide) (by decide) (Nat.one_lt_two_pow (by decide))) (epr_tup (Evl.ea_cons Evl.ev_c (Evl.ea_cons Evl.ev_c Evl.ea_nil))) (Nat.one_lt_two_pow (by decide)))))) rfl) (fun z => nomatch z) (fun _ H5 k5 => ?_)
      have e8 : Same H H5 := Same.trans e7 k5
      refine Evl.ev_is (w := .bl true) (Evl.ev_andV (ev_own (K := K) (p := fun i j => decide (i ≤ j)) (sz H5 e8 _ _ _) (ech_const (t := 1)) (by omega)) (fun _ => Evl.ev_andV (ev_own (K := K) (p := fun i j => decide (i ≤ j)) (ech_const (t := 0)) (sz H5 e8 _ _ _) (by omega)) (fun _ => Evl.ev_andV (ev_own (K := K) (p := fun i j => decide (i = j)) (pw 1 (by decide) H5 e8 _ _ _) (sz H5 e8 _ _ _) (by rw [Nat.pow_one]; exact hbd)) (fun _ => ev_own (K := K) (p := fun i j => decide (i = j)) (pw 0 (by decide) H5 e8 _ _ _) ech_make1 (by rw [Nat.pow_zero]; exact Nat.one_lt_two_pow (by decide))))))
        (by simp; omega) H5 (Ex.refl _) _ fun H6 k6 => q H6 (Same.trans e8 k6)
end
end K36

end
section
set_option Elab.async false
set_option linter.all false
set_option maxRecDepth 100000
set_option maxHeartbeats 4000000
set_option exponentiation.threshold 10000
namespace N1
open PySem PySem.Spec PyProof.Rows L2
structure DefC (K : PySem.W.Frag) (x qual : Str) (st : Stmt) (f c : Addr) : Prop where
  ex : ∃ (oc : Value) (od : Option Addr) (kV doc pm : Value) (an : Option Addr) (ct : Value) (osl : Array (Option Value)),
    K.lookup f = some ⟨oc, od, .func (PySem.W.fnOf x qual (defArgs st) (defBody st) (defScope st) .none kV doc pm an (.ref c) ct), osl⟩
  cd : PySem.W.codeIn K (.ref c) qual = true
  kp : PySem.W.keepIn K (.ref f) = true
section
variable {P : Program} {w : World} {K : PySem.W.Frag} {mg : Str → Option Value} {base : Heap}
theorem defC_R {CX : CXT} {x qual : Str} {st : Stmt} {f c : Addr} {N ps : List Str} {k : Nat} {sp : Sp} (D : DefC K x qual st f c) (S : FnScope N ps (defScope st))
    (hb : ∀ (kV doc pm : Value) (an : Option Addr) (cdv ct : Value) (us : List Value), us.length = ps.length → bindArgs (PySem.W.fnOf x qual (defArgs st) (defBody st) (defScope st) .none kV doc pm an cdv ct) ⟨us, []⟩ = pure (ps.zip us))
    (len : ∀ vs H Q E, sp vs H Q E → vs.length = ps.length)
    (hbody : ∀ (A : Around) (outer : List Env) (s : Shared) (H : Hp) (vs : List V) (Q : VK) (E : XK), Room k (A.deeper (envOfC qual (defScope st) s.heap.objs.size f (.ref c))) → sp vs H Q E →
      ∃ t, PSs (cxOf CX P w K mg base N qual (defScope st) f (.ref c) A outer s H E) (defBody st) t ∧ t { nx := fun _ H' => Q .non H', rt := Q } (start N vs) H) : FnR P w K mg base CX (k + 1) f sp := by
  obtain ⟨oc, od, kV, doc, pm, an, ct, osl, lk⟩ := D.ex
  have G := fn_of lk D.cd S len hbody
  exact (G.raw (.all (hb kV doc pm an (.ref c) ct)) .nil).imp fun vs H Q E h => by rw [List.append_nil]; exact h
end
theorem takes_len {X : Cx} {W : WX} (t : Takes X W) : Takes X (fun cls d σ H => σ.length = X.N.length → W cls d σ H) := fun u s' ⟨a, B, sI, pins, σ, H, cls, d, e, I, nb, up, sky, na, os, ag, w⟩ =>
  t u s' ⟨a, B, sI, pins, σ, H, cls, d, e, I, nb, up, sky, na, os, ag, w I.len⟩
def rIsE' (K : PySem.W.Frag) (D a : Addr) (cls : Value) (d : Option Addr) : List V → Hp → VK → Prop := fun xs H Q => cls = .ref D ∧ d = none ∧ rIsE K D a xs H Q
theorem call_isE' {X : Cx} {a D : Addr} {oe : Obj} {cls : Value} {d : Option Addr} {pn : List (Addr × Obj)} (C : ExcC X.K D) (hz : Zc cls d oe) (hf : ∃ vs, oe.data = .fields vs) : CallR (X.suite a ((a, oe) :: pn)) (.builtin "isinstance") (rIsE' X.K D a cls d) := by
  intro pins s σ H xs us Q I r h
  obtain ⟨rfl, rfl, h⟩ := h
  exact call_isE C hz hf pins s σ H xs us Q I r h
end N1
namespace K36
open PySem PySem.Spec PyProof.Rows L2 N1 M36
open Evl (Ev EvT EvA Ex)
structure T6 (K : PySem.W.Frag) (mg : Str → Option Value) (a : Ad) (fK cK : Addr) : Prop where
  dKind : DefC K "_law_kind" "_law_kind" sKind fK cK
  gKind : mg "_law_kind" = some (.ref fK)
  gCh : mg "HoleError" = some (.ref a.Ch)
  ex : ExcC K a.Ce
  kitH : PySem.W.kitOne K (.ref a.Ce) (.ref a.Ch) = some true
  kitV : PySem.W.kitOne K (.ref a.Ce) (.type "ValueError") = some true
  exm : PySem.W.exmOne K (.ref a.Ce) (.ref a.Ce) = some true
def TTk (a : Ad) : (XK → Hp → VK → Prop) → Hp → VK → Prop := fun tl H Q => tl (fun cls d H' => cls = .ref a.Ce ∧ d = none ∧ Q (.str "chance") H') H (fun _ H' => Q (.str "none") H')
theorem scKind : FnScope ["_law_ask", "error"] ["_law_ask"] (defScope sKind) := ⟨rfl, rfl, rfl, by decide +kernel, rfl, by decide +kernel, by decide +kernel⟩
theorem kind_gives {X : Cx} {a : Ad} {fK cK g : Addr} {cdg : Value} {q : Str} (B : Bt X.mg) (T : T6 X.K X.mg a fK cK) (gCe : X.mg "BadChance" = some (.ref a.Ce)) :
    LamX.GivesTo X ["_law_ask", "error"] "_law_kind" (defScope sKind) g cdg (defBody sKind) "_law_ask" q (TTk a) := by
  intro f c' s H Q tl act hc h
  refine ⟨_, pss_cons (ps_try_as (X := (cxOf C8.CX0 X.prog X.w X.K X.mg X.base ["_law_ask", "error"] "_law_kind" (defScope sKind) g cdg X.A X.stack s H C8.E0).nox) (i := 1) (c := .ref a.Ce)
      (tb := fun W D σ H => ∃ Ech : XK, (∀ cls d σ' H', Ech cls d H' → σ'.length = 2 → W cls d σ' H') ∧ σ[0]? = some (some (.ref f)) ∧ H c' = some (LamX.CodeO c' q) ∧ tl Ech H (fun _ H' => D.nx σ H'))
      rfl rfl scKind.nd rfl rfl ⟨rfl, by decide, .inl gCe⟩ takes0 (fun W pn xe tk _ => ?_)
      (fun ae oe cls d pn hz hf => pss_one (ps_ret (pe_ifExp (PW.pt (pw_and (pt_val (pe_callB (call_isE' T.ex hz hf) (by rfl) B.isi (by decide +kernel) (pa_cons (pv 1) (pa_cons (pe_glob (v := .ref a.Ch) rfl T.gCh rfl) pa_nil))))
        (pw_and1 (pt_val (pe_callB (call_isE' T.ex hz hf) (by rfl) B.isi (by decide +kernel) (pa_cons (pv 1) (pa_cons (pe_bltn (v := .ty "ValueError") (by rfl) B.valueError (by decide +kernel) rfl) pa_nil))))))) pe_str pe_str))))
    (pss_one (ps_ret pe_str)), ?_⟩
  · refine ⟨fun pins s' σ H' D I h' => ?_⟩
    obtain ⟨Ech, hW, h1, h2, h3⟩ := h'
    exact PSs.run (pss_one (ps_expr (act _ pn xe Ech _ _ (takes_len tk) hW))) pins s' σ H' D I ⟨h1, h2, h3⟩
  · refine ⟨fun cls d H' => cls = .ref a.Ce ∧ d = none ∧ Q (.str "chance") H', fun cls d σ' H' ⟨e1, e2, e3⟩ hl => ?_, rfl, hc, h⟩
    subst e1 e2
    refine ⟨true, T.exm, fun _ ae _ => ?_, fun z => nomatch z⟩
    have hs : (σ'.set 1 (some (V.ref ae)))[1]? = some (some (V.ref ae)) := List.getElem?_set_self (by omega)
    refine ⟨_, hs, rfl, rfl, _, _, true, rfl, (fun _ u => u), T.kitH, true, rfl, iteT ?_⟩
    exact ⟨_, hs, rfl, rfl, _, _, true, rfl, (fun _ u => u), T.kitV, true, rfl, iteT e3⟩
end K36

end
section
set_option Elab.async false
set_option linter.all false
set_option maxRecDepth 100000
set_option maxHeartbeats 4000000
set_option exponentiation.threshold 10000
namespace K36
open PySem PySem.Spec PyProof.Rows L2 N1 M36
open Evl (Ev EvT EvA Ex)
theorem pe_kind {X : Cx} {a : Ad} {fK cK c P : Addr} {T : List (Addr × Str)} {k : Nat} {params : Arguments} {body : Expr} {scope : Scope} {t : XK → TE} {p lpos pos : Pos} (B : Bt X.mg) (T6 : T6 X.K X.mg a fK cK) (gCe : X.mg "BadChance" = some (.ref a.Ce)) (hg : Gl X "_law_kind")
    (TB : LamX.TabB X.base X.mg c P) (hcode : X.env.code = .ref c) (hmT : (P, X.env.qual ++ "<lambda>") ∈ T) (hu : ∀ p ∈ T, p.1 = P → p.2 = X.env.qual ++ "<lambda>") (hr : Room (k + 2) X.A) (L : LamX.LamS X.env.scope scope) (hdef : defaultsOf params X.env = ([], []))
    (hbind : ∀ (q : Str) (cl : List (Str × Addr)) (pm cv ctv : Value), bindArgs (PySem.W.kla_fn "<lambda>" q params body scope cl pm cv ctv) ⟨[], []⟩ = pure [])
    (hbody : ∀ (A : Around) (outer : List Env) (s : Shared) (H : Hp) (E : XK) (f c' : Addr), Room k (A.deeper (LamX.lamEnv X scope s.heap.objs.size f c')) → PE (LamX.lamCx X A outer s H E scope f c') body (t E)) :
    PE X (.Call (.Name "_law_kind" p) [.Lambda params body scope lpos] [] pos) (LamX.tLam T (TTk a) t) := by
  obtain ⟨oc, od, kV, doc, pm, an, ct, osl, lk⟩ := T6.dKind.ex
  exact LamX.pe_lamcall hg T6.gKind T6.dKind.kp lk T6.dKind.cd (.all (fun us hl => match us, hl with | [_], _ => rfl)) scKind rfl (.inl rfl) (kind_gives B T6 gCe) TB hcode hmT hu hr L hdef hbind hbody

def qS : Str := (envOfC "_law_sums_right" (defScope sSums) 0 0 .none).qual ++ "<lambda>"
def qR : Str := (envOfC "_law_refused_right" (defScope sRef) 0 0 .none).qual ++ "<lambda>"
def Tb (PS PR : Addr) : List (Addr × Str) := [(PS, qS), (PR, qR)]
theorem tb_S {PS PR : Addr} : (PS, qS) ∈ Tb PS PR := List.mem_cons_self
theorem tb_R {PS PR : Addr} : (PR, qR) ∈ Tb PS PR := List.mem_cons_of_mem _ List.mem_cons_self
theorem tb_uS {PS PR : Addr} (h : PS ≠ PR) : ∀ p ∈ Tb PS PR, p.1 = PS → p.2 = qS := fun p hp e => by
  rcases List.mem_cons.mp hp with z | z
  · rw [z]
  · rcases List.mem_cons.mp z with z | z
    · rw [z] at e
      exact absurd e.symm h
    · cases z
theorem tb_uR {PS PR : Addr} (h : PS ≠ PR) : ∀ p ∈ Tb PS PR, p.1 = PR → p.2 = qR := fun p hp e => by
  rcases List.mem_cons.mp hp with z | z
  · rw [z] at e
    exact absurd e h
  · rcases List.mem_cons.mp z with z | z
    · rw [z]
    · cases z
structure T7 (K : PySem.W.Frag) (mg : Str → Option Value) (a : Ad) (o : AdO) (l : AdL) (fT fA pN pS fK cK fS cS PS PR : Addr) (mc : Value) (fo ro rc : Option Value) : Prop where
  t : T5 K mg a o l fT fA pN pS mc fo ro rc
  k : T6 K mg a fK cK
  dSums : DefC K "_law_sums_right" "_law_sums_right" sSums fS cS
  gSums : mg "_law_sums_right" = some (.ref fS)
  ne : PS ≠ PR
theorem XN.trans {H H1 H2 : Hp} (a : XN H H1) (b : XN H1 H2) : XN H H2 := LamX.ExtN.trans a b
theorem XN.of {H H1 : Hp} (a : Same H H1) : XN H H1 := LamX.ExtN.of a
def spSums (K : PySem.W.Frag) (a : Ad) (PS PR : Addr) : Sp := fun vs H Q _ => ∃ x y q r t d t' d', Four K a vs H x y q r t d t' d' ∧ LamX.Tabs (Tb PS PR) H ∧ ∀ H', XN H H' → LamX.Tabs (Tb PS PR) H' → Q (.bl true) H'
section
variable {P : Program} {w : World} {K : PySem.W.Frag} {mg : Str → Option Value} {base : Heap} {a : Ad} {o : AdO} {l : AdL} {fT fA pN pS fK cK fS cS PS PR : Addr} {mc : Value} {fo ro rc : Option Value}
theorem scSums : FnScope ["_law_one", "_law_other", "_law_mine", "_law_theirs", "_law_total", "_law_rest"] ["_law_one", "_law_other", "_law_mine", "_law_theirs"] (defScope sSums) := ⟨rfl, rfl, rfl, by decide +kernel, rfl, by decide +kernel, by decide +kernel⟩
theorem ok_sums (T : T7 K mg a o l fT fA pN pS fK cK fS cS PS PR mc fo ro rc) (TB : LamX.TabB base mg cS PS) : FnR P w K mg base CX0 8 fS (spSums K a PS PR) := by
  refine defC_R T.dSums scSums (fun _ _ _ _ _ _ us hl => match us, hl with | [_, _, _, _], _ => rfl) (fun vs H Q E h => ?_) (fun A outer s H vs Q E hr h => ?_)
  · obtain ⟨x, y, q, r, t, d, t', d', ⟨rfl, _⟩, _⟩ := h
    rfl
  · obtain ⟨x, y, p, r, t, d, t', d', ⟨rfl, cx, cy, hp, hr0, hd, hd'⟩, hT, q⟩ := h
    have T3 := T.t.t.t
    have T2 := T.t.t.t.t
    have T1 := T.t.t.t.t.t
    have hr6 : Room 6 _ := hr.mono (by decide)
    have hr4 : Room 4 _ := hr.mono (by decide)
    have OI := ok_is (P := P) (w := w) (base := base) T3
    have OA := ok_add (P := P) (w := w) (base := base) T2
    have OS := ok_sub (P := P) (w := w) (base := base) T2
    have OM := ok_mul (P := P) (w := w) (base := base) T2
    refine ⟨_, PSs.nox (pss_cons (ps_set (i := 4) scSums.nd rfl (Or.inl rfl) (pe_tup (pa_cons (pe_op op_add (pe_op op_mulW (pe_ix ix_tup (pv 2) pe_int (fun _ _ => rfl)) (pe_ix ix_tup (pv 3) pe_int (fun _ _ => rfl))) (pe_op op_mulW (pe_ix ix_tup (pv 3) pe_int (fun _ _ => rfl)) (pe_ix ix_tup (pv 2) pe_int (fun _ _ => rfl)))) (pa_cons (pe_op op_mulW (pe_ix ix_tup (pv 2) pe_int (fun _ _ => rfl)) (pe_ix ix_tup (pv 3) pe_int (fun _ _ => rfl))) pa_nil))))
      (pss_cons (ps_set (i := 5) scSums.nd rfl (Or.inl rfl) (pe_tup (pa_cons (pe_op op_sub (pe_op op_mulW (pe_ix ix_tup (pv 2) pe_int (fun _ _ => rfl)) (pe_ix ix_tup (pv 3) pe_int (fun _ _ => rfl))) (pe_op op_mulW (pe_ix ix_tup (pv 3) pe_int (fun _ _ => rfl)) (pe_ix ix_tup (pv 2) pe_int (fun _ _ => rfl)))) (pa_cons (pe_op op_mulW (pe_ix ix_tup (pv 2) pe_int (fun _ _ => rfl)) (pe_ix ix_tup (pv 3) pe_int (fun _ _ => rfl))) pa_nil))))
      (Evl.pss_cut (ps_if (pt_cmp (pc_gt (pe_ix ix_tup (pv 4) pe_int (fun _ _ => rfl)) (pe_ix ix_tup (pv 4) pe_int (fun _ _ => rfl))))
        (pss_one (ps_if (pt_cmpR op_ne (pe_kind (k := 4) T1.b T.k T1.gCe rfl TB rfl tb_S (tb_uS T.ne) hr6 (LamX.lamS_by (sc := defScope sSums) (by decide +kernel)) rfl (fun _ _ _ _ _ => rfl) (fun A outer s H E f c' hrl => pe_op (op_bin (op := .Add) T.t.sf T.t.aAdd T.t.iAdd OA hrl passX) (pv 0) (pv 1))) pe_str (nomark _)) (pss_one (ps_ret pe_bl)) pss_nil))
        (pss_one (ps_if (pt_not (pt_val (pe_callR OI hr6 rfl T3.gIs (kpD T3.dIs) pass0 (pa_cons (pe_op (op_bin (op := .Add) T.t.sf T.t.aAdd T.t.iAdd OA hr4 passL) (pv 0) (pv 1)) (pa_cons (pv 4) pa_nil))))) (pss_one (ps_ret pe_bl)) pss_nil)))
      (Evl.pss_cut (ps_if (pt_cmp (pc_lt (pe_ix ix_tup (pv 5) pe_int (fun _ _ => rfl)) pe_int))
        (pss_one (ps_if (pt_cmpR op_ne (pe_kind (k := 4) T1.b T.k T1.gCe rfl TB rfl tb_S (tb_uS T.ne) hr6 (LamX.lamS_by (sc := defScope sSums) (by decide +kernel)) rfl (fun _ _ _ _ _ => rfl) (fun A outer s H E f c' hrl => pe_op (op_bin (op := .Sub) T.t.sf T.t.aSub T.t.iSub OS hrl passX) (pv 0) (pv 1))) pe_str (nomark _)) (pss_one (ps_ret pe_bl)) pss_nil))
        (pss_one (ps_if (pt_not (pt_val (pe_callR OI hr6 rfl T3.gIs (kpD T3.dIs) pass0 (pa_cons (pe_op (op_bin (op := .Sub) T.t.sf T.t.aSub T.t.iSub OS hr4 passL) (pv 0) (pv 1)) (pa_cons (pv 5) pa_nil))))) (pss_one (ps_ret pe_bl)) pss_nil)))
      (pss_one (ps_ret (pe_callR OI hr6 rfl T3.gIs (kpD T3.dIs) pass0 (pa_cons (pe_op (op_bin (op := .Mult) T.t.sf T.t.aMul T.t.iMul OM hr4 passL) (pv 0) (pv 1)) (pa_cons (pe_tup (pa_cons (pe_op op_mulW (pe_ix ix_tup (pv 2) pe_int (fun _ _ => rfl)) (pe_ix ix_tup (pv 3) pe_int (fun _ _ => rfl))) (pa_cons (pe_op op_mulW (pe_ix ix_tup (pv 2) pe_int (fun _ _ => rfl)) (pe_ix ix_tup (pv 3) pe_int (fun _ _ => rfl))) pa_nil))) pa_nil))))))))), ?_⟩
    have ht : t < 2 ^ 200 := Nat.lt_of_le_of_lt cx.2.2.1 hd
    have ht' : t' < 2 ^ 200 := Nat.lt_of_le_of_lt cy.2.2.1 hd'
    have hb := b4 (bb hd hd')
    have hb1 := b400 (bb hd hd')
    have m0 : ∀ (H' : Hp), XN H H' → ∀ v4 v5, Ev (tOp (rIxT K) (tVar 2) (tC (.int 0))) [some (.ref x), some (.ref y), some (.ref p), some (.ref r), v4, v5] H' (.int (t : Int)) := fun H' e v4 v5 => Evl.ev_op (Evl.ev_var rfl) Evl.ev_c (Evl.rv_ixT (sqT_ext e hp) rfl)
    have m1 : ∀ (H' : Hp), XN H H' → ∀ v4 v5, Ev (tOp (rIxT K) (tVar 2) (tC (.int 1))) [some (.ref x), some (.ref y), some (.ref p), some (.ref r), v4, v5] H' (.int (d : Int)) := fun H' e v4 v5 => Evl.ev_op (Evl.ev_var rfl) Evl.ev_c (Evl.rv_ixT (sqT_ext e hp) rfl)
    have n0 : ∀ (H' : Hp), XN H H' → ∀ v4 v5, Ev (tOp (rIxT K) (tVar 3) (tC (.int 0))) [some (.ref x), some (.ref y), some (.ref p), some (.ref r), v4, v5] H' (.int (t' : Int)) := fun H' e v4 v5 => Evl.ev_op (Evl.ev_var rfl) Evl.ev_c (Evl.rv_ixT (sqT_ext e hr0) rfl)
    have n1 : ∀ (H' : Hp), XN H H' → ∀ v4 v5, Ev (tOp (rIxT K) (tVar 3) (tC (.int 1))) [some (.ref x), some (.ref y), some (.ref p), some (.ref r), v4, v5] H' (.int (d' : Int)) := fun H' e v4 v5 => Evl.ev_op (Evl.ev_var rfl) Evl.ev_c (Evl.rv_ixT (sqT_ext e hr0) rfl)
    have c0 : ∀ (H' : Hp), XN H H' → ∀ v4 v5, EvCh a (tVar 0) [some (.ref x), some (.ref y), some (.ref p), some (.ref r), v4, v5] H' t d := fun H' e v4 v5 => ech_var rfl (cx.ext e)
    have c1 : ∀ (H' : Hp), XN H H' → ∀ v4 v5, EvCh a (tVar 1) [some (.ref x), some (.ref y), some (.ref p), some (.ref r), v4, v5] H' t' d' := fun H' e v4 v5 => ech_var rfl (cy.ext e)
    have mu : ∀ {i j : Nat} {σ : L2.St} {H' : Hp} {ta tb : TE}, i < 2 ^ 200 → j < 2 ^ 200 → Ev ta σ H' (.int (i : Int)) → Ev tb σ H' (.int (j : Int)) → Ev (tOp (rI CMulW fun i j => .int (i * j)) ta tb) σ H' (.int ((i * j : Nat) : Int)) := fun hi hj h1 h2 =>
      Evl.ev_is (Evl.ev_op h1 h2 (Evl.rv_I (cm (b200 hi) (b200 hj)))) rfl
    have x0 : XN H H := LamX.ExtN.refl H
    refine Evl.q_asgU (Evl.eu_tup (Evl.ea_cons (Evl.ev_op (mu ht hd' (m0 H x0 _ _) (n1 H x0 _ _)) (mu ht' hd (n0 H x0 _ _) (m1 H x0 _ _)) Evl.rv_I0) (Evl.ea_cons (mu hd hd' (m1 H x0 _ _) (n1 H x0 _ _)) Evl.ea_nil)) (by show 2 ≤ 100000; decide)) fun z4 H1 _ e1 h4 => ?_
    refine Evl.q_asgU (Evl.eu_tup (Evl.ea_cons (Evl.ev_op (mu ht hd' (m0 H1 (XN.of e1) _ _) (n1 H1 (XN.of e1) _ _)) (mu ht' hd (n0 H1 (XN.of e1) _ _) (m1 H1 (XN.of e1) _ _)) Evl.rv_I0) (Evl.ea_cons (mu hd hd' (m1 H1 (XN.of e1) _ _) (n1 H1 (XN.of e1) _ _)) Evl.ea_nil)) (by show 2 ≤ 100000; decide)) fun z5 H2 _ e2 h5 => ?_
    have x2 : XN H H2 := XN.of (Same.trans e1 e2)
    have h4' : H2 z4 = some (.tup [.int ((t * d' + t' * d : Nat) : Int), .int ((d * d' : Nat) : Int)]) := e2 _ _ h4
    have hT2 : LamX.Tabs (Tb PS PR) H2 := hT.ext (Same.trans e1 e2)
    have h5' : H2 z5 = some (.tup [.int (((t * d' : Nat) : Int) - ((t' * d : Nat) : Int)), .int ((d * d' : Nat) : Int)]) := h5
    refine Evl.q_cut (M := fun σ' H' => σ' = [some (.ref x), some (.ref y), some (.ref p), some (.ref r), some (.ref z4), some (.ref z5)] ∧ XN H2 H' ∧ LamX.Tabs (Tb PS PR) H') ?_ ?_
    · have g0 : Ev (tOp (rIxT K) (tVar 4) (tC (.int 0))) [some (.ref x), some (.ref y), some (.ref p), some (.ref r), some (.ref z4), some (.ref z5)] H2 (.int ((t * d' + t' * d : Nat) : Int)) := Evl.ev_op (Evl.ev_var rfl) Evl.ev_c (Evl.rv_ixT (.inl (.inl h4')) rfl)
      have g1 : Ev (tOp (rIxT K) (tVar 4) (tC (.int 1))) [some (.ref x), some (.ref y), some (.ref p), some (.ref r), some (.ref z4), some (.ref z5)] H2 (.int ((d * d' : Nat) : Int)) := Evl.ev_op (Evl.ev_var rfl) Evl.ev_c (Evl.rv_ixT (.inl (.inl h4')) rfl)
      refine Evl.s_if (Evl.et_B (ev_cmp g0 g1)) (fun b H3 e3 => ?_) (fun b H3 e3 => ?_)
      · have hlt : d * d' < t * d' + t' * d := by have := of_decide_eq_true b; omega
        refine ⟨hT2.ext e3, fun G eG tG => ?_⟩
        have xG : XN H2 G := XN.trans (XN.of e3) eG
        have cx' := cx.ext (XN.trans x2 xG)
        have cy' := cy.ext (XN.trans x2 xG)
        obtain ⟨dx, sx⟩ := cx'.at
        obtain ⟨dy, sy⟩ := cy'.at
        refine ⟨_, rfl, _, rfl, x, dx, _, y, dy, _, rfl, rfl, sx, sy, x, y, t, d, t', d', ⟨rfl, cx', cy', hb⟩, .inr ⟨hlt, fun G2 e4 => ⟨rfl, rfl, ?_⟩⟩⟩
        refine ⟨rfl, _, rfl, ifF (by simp) ?_⟩
        exact ⟨rfl, XN.trans xG (XN.of e4), tG.ext e4⟩
      · have hle : t * d' + t' * d ≤ d * d' := by have := of_decide_eq_false b; omega
        have x3 := XN.trans x2 (XN.of e3)
        refine Evl.s_when (b := false) (Evl.et_is (Evl.et_not (Evl.et_B (ev_is (ech_add (c0 H3 x3 _ _) (c1 H3 x3 _ _) hb hle) (epr_var rfl (.inl (.inl (e3 _ _ h4')))) hb1))) rfl) (fun z => nomatch z) (fun _ H4 e4 => ?_)
        exact ⟨rfl, XN.of (Same.trans e3 e4), (hT2.ext e3).ext e4⟩
    rintro σ' H3 ⟨rfl, x3, hT3⟩
    have x03 := XN.trans x2 x3
    have h5'' : H3 z5 = some (.tup [.int (((t * d' : Nat) : Int) - ((t' * d : Nat) : Int)), .int ((d * d' : Nat) : Int)]) := x3 _ _ h5' (fun _ z => nomatch z)
    refine Evl.q_cut (M := fun σ' H' => σ' = [some (.ref x), some (.ref y), some (.ref p), some (.ref r), some (.ref z4), some (.ref z5)] ∧ XN H3 H' ∧ LamX.Tabs (Tb PS PR) H') ?_ ?_
    · have g0 : Ev (tOp (rIxT K) (tVar 5) (tC (.int 0))) [some (.ref x), some (.ref y), some (.ref p), some (.ref r), some (.ref z4), some (.ref z5)] H3 (.int (((t * d' : Nat) : Int) - ((t' * d : Nat) : Int))) := Evl.ev_op (Evl.ev_var rfl) Evl.ev_c (Evl.rv_ixT (.inl (.inl h5'')) rfl)
      refine Evl.s_if (Evl.et_B (ev_cmp g0 (Evl.ev_c (v := .int 0)))) (fun b H4 e4 => ?_) (fun b H4 e4 => ?_)
      · have hlt : t * d' < t' * d := by have := of_decide_eq_true b; omega
        refine ⟨hT3.ext e4, fun G eG tG => ?_⟩
        have xG : XN H3 G := XN.trans (XN.of e4) eG
        have cx' := cx.ext (XN.trans x03 xG)
        have cy' := cy.ext (XN.trans x03 xG)
        obtain ⟨dx, sx⟩ := cx'.at
        obtain ⟨dy, sy⟩ := cy'.at
        refine ⟨_, rfl, _, rfl, x, dx, _, y, dy, _, rfl, rfl, sx, sy, x, y, t, d, t', d', ⟨rfl, cx', cy', hb⟩, .inr ⟨hlt, fun G2 e5 => ⟨rfl, rfl, ?_⟩⟩⟩
        refine ⟨rfl, _, rfl, ifF (by simp) ?_⟩
        exact ⟨rfl, XN.trans xG (XN.of e5), tG.ext e5⟩
      · have hle : t' * d ≤ t * d' := by have := of_decide_eq_false b; omega
        have x4 := XN.trans x03 (XN.of e4)
        have e5 : (((t * d' : Nat) : Int) - ((t' * d : Nat) : Int)) = ((t * d' - t' * d : Nat) : Int) := by rw [Int.natCast_sub hle]
        have h6 : H4 z5 = some (.tup [.int ((t * d' - t' * d : Nat) : Int), .int ((d * d' : Nat) : Int)]) := by rw [← e5]; exact e4 _ _ h5''
        refine Evl.s_when (b := false) (Evl.et_is (Evl.et_not (Evl.et_B (ev_is (ech_sub (c0 H4 x4 _ _) (c1 H4 x4 _ _) hb hle) (epr_var rfl (.inl (.inl h6))) hb1))) rfl) (fun z => nomatch z) (fun _ H5 e6 => ?_)
        exact ⟨rfl, XN.of (Same.trans e4 e6), (hT3.ext e4).ext e6⟩
    rintro σ' H4 ⟨rfl, x4, hT4⟩
    have x04 := XN.trans x03 x4
    refine ev_is (K := K) (ech_mul (c0 H4 x04 _ _) (c1 H4 x04 _ _) hb) (epr_tup (Evl.ea_cons (mu ht ht' (m0 H4 x04 _ _) (n0 H4 x04 _ _)) (Evl.ea_cons (mu hd hd' (m1 H4 x04 _ _) (n1 H4 x04 _ _)) Evl.ea_nil))) hb1 H4 (Ex.refl _) _ fun H5 e5 => ?_
    exact q H5 (XN.trans x04 (XN.of e5)) (hT4.ext e5)
end
end K36

end
section
set_option Elab.async false
set_option linter.all false
set_option maxRecDepth 100000
set_option maxHeartbeats 4000000
set_option exponentiation.threshold 10000
namespace K36
open PySem PySem.Spec PyProof.Rows L2 N1 M36
open Evl (Ev EvT EvA EvU EvL Ex)
theorem notNum_xn {H H' : Hp} {v : V} (e : XN H H') (h : NotNum H v) : NotNum H' v := by
  rcases h with h | h | h | ⟨p, xs, rfl, hp⟩ | ⟨p, xs, rfl, hp⟩
  · exact .inl h
  · exact .inr (.inl h)
  · exact .inr (.inr (.inl h))
  · exact .inr (.inr (.inr (.inl ⟨p, xs, rfl, e _ _ hp (fun _ z => nomatch z)⟩)))
  · exact .inr (.inr (.inr (.inr ⟨p, xs, rfl, e _ _ hp (fun _ z => nomatch z)⟩)))
theorem bad_xn {H H' : Hp} {v u : V} (e : XN H H') (h : BadCh H v u) : BadCh H' v u := by
  rcases h with (h | h) | ⟨b, h1, h2, h | h⟩
  · exact .inl (.inl (notNum_xn e h))
  · exact .inl (.inr h)
  · exact .inr ⟨b, h1, h2, .inl (notNum_xn e h)⟩
  · exact .inr ⟨b, h1, h2, .inr h⟩
theorem mk_bad2 {a : Ad} {H : Hp} {Qx : Addr → VK} {E : XK} {v u : V} (h : BadCh H v u) (q : ∀ H', Same H H' → E (.ref a.Ce) none H') :
    ∀ x dx, H x = Option.none → H dx = Option.none → dx ≠ x → spInit a [V.ref x, v, u] (upd (upd H dx (.own x)) x (.ins a.C dx [])) (Qx x) E := by
  intro x dx hx hdx nd
  have s : Same H (upd (upd H dx (.own x)) x (.ins a.C dx [])) := fun b o e => by
    rw [upd_ne (ne_of_none e hx), upd_ne (ne_of_none e hdx)]
    exact e
  exact ⟨x, dx, _, _, rfl, upd_same, nd, .inr ⟨bad_ext s h, q _ s⟩⟩
def BadTup (H : Hp) (p : Addr) : Prop := ∃ vt vb, H p = some (.tup [vt, vb]) ∧ BadCh H vt vb
theorem BadTup.ext {H H' : Hp} {p : Addr} (e : XN H H') (h : BadTup H p) : BadTup H' p := by
  obtain ⟨vt, vb, h1, h2⟩ := h
  exact ⟨vt, vb, e _ _ h1 (fun _ z => nomatch z), bad_xn e h2⟩
def AllBad (H : Hp) (vs : List V) : Prop := ∀ v ∈ vs, ∃ p, v = .ref p ∧ BadTup H p
theorem AllBad.ext {H H' : Hp} {vs : List V} (e : XN H H') (h : AllBad H vs) : AllBad H' vs := fun v hv => let ⟨p, e1, b⟩ := h v hv; ⟨p, e1, b.ext e⟩
def EvAB (ta : TA) (σ : L2.St) (H : Hp) (n : Nat) : Prop := ∀ H1, Ex H H1 → ∀ Q : List V → Hp → Prop, (∀ vs H2, Ex H1 H2 → vs.length = n → AllBad H2 vs → Q vs H2) → ta σ H1 Q
abbrev EvLB (te : TE) (σ : L2.St) (H : Hp) (n : Nat) : Prop := EvC te σ H fun p H2 => ∃ vs, vs.length = n ∧ H2 p = some (.lst vs) ∧ AllBad H2 vs
section
variable {σ : L2.St} {H H' : Hp} {te tf ta tb : TE} {n m : Nat}
theorem eab_nil : EvAB tNil σ H 0 := fun H1 _ Q q => q [] H1 (Ex.refl _) rfl (fun _ h => nomatch h)
theorem eab_cons {tr : TA} (h : EvC te σ H fun p H2 => BadTup H2 p) (hr : EvAB tr σ H n) : EvAB (tCons te tr) σ H (n + 1) := fun H1 e1 Q q =>
  h H1 e1 _ fun p H2 e2 b => hr H2 (e1.trans e2) _ fun vs H3 e3 hl hv => q (.ref p :: vs) H3 (e2.trans e3) (by rw [List.length_cons, hl]) fun v hm => by
    rcases List.mem_cons.mp hm with z | z
    · exact ⟨p, z, b.ext (XN.of e3)⟩
    · exact hv v z
abbrev EvB (te : TE) (σ : L2.St) (H : Hp) : Prop := EvC te σ H fun p H2 => BadTup H2 p
theorem evb_sc {v u : V} (h1 : Ev ta σ H v) (h2 : Ev tb σ H u) (hb : ∀ H', BadCh H' v u) : EvB (tTup (tCons ta (tCons tb tNil))) σ H := fun H1 e1 Q q =>
  h1 H1 e1 _ fun H2 e2 => h2 H2 (e1.trans e2) _ fun H3 e3 => ⟨by show 2 ≤ sizeLine; decide, fun p hp => q p _ ((e2.trans e3).trans (Ex.new hp)) ⟨v, u, upd_same, hb _⟩⟩
theorem evb_tup {xs : List V} {i : Int} (hi : 1 ≤ i) (h1 : EvU ta σ H xs) (h2 : Ev tb σ H (.int i)) : EvB (tTup (tCons ta (tCons tb tNil))) σ H := fun H1 e1 Q q =>
  h1 H1 e1 _ fun r H2 _ e2 hr => h2 H2 (e1.trans e2) _ fun H3 e3 => ⟨by show 2 ≤ sizeLine; decide, fun p hp => q p _ ((e2.trans e3).trans (Ex.new hp)) ⟨_, _, upd_same, .inr ⟨i, rfl, hi, .inl (.inr (.inr (.inr (.inl ⟨r, xs, rfl, (Ex.new hp) _ _ (e3 _ _ hr)⟩))))⟩⟩⟩
theorem evb_lst {xs ys : List V} (h1 : EvL ta σ H xs) (h2 : EvL tb σ H ys) : EvB (tTup (tCons ta (tCons tb tNil))) σ H := fun H1 e1 Q q =>
  h1 H1 e1 _ fun r H2 _ e2 _ => h2 H2 (e1.trans e2) _ fun r2 H3 _ e3 hr => ⟨by show 2 ≤ sizeLine; decide, fun p hp => q p _ ((e2.trans e3).trans (Ex.new hp)) ⟨_, _, upd_same, .inl (.inl (.inr (.inr (.inr (.inr ⟨r2, ys, rfl, (Ex.new hp) _ _ hr⟩)))))⟩⟩
theorem elb_lst {tr : TA} (h : EvAB tr σ H n) (hn : n ≤ 100) : EvLB (tLst tr) σ H n := fun H1 e1 Q q => h H1 e1 _ fun vs H2 e2 hl hv => ⟨by rw [hl]; exact Nat.le_trans hn (by decide), fun p hp => q p _ (e2.trans (Ex.new hp)) ⟨vs, hl, upd_same, hv.ext (XN.of (Ex.new hp))⟩⟩
theorem elb_cat (h1 : EvLB te σ H n) (h2 : EvLB tf σ H m) (hn : n + m ≤ 100) : EvLB (tOp rCat te tf) σ H (n + m) := fun H1 e1 Q q => h1 H1 e1 _ fun l H2 e2 ⟨xs, lx, hl, bx⟩ => h2 H2 (e1.trans e2) _ fun b H3 e3 ⟨ys, ly, hb, bY⟩ =>
  ⟨l, b, xs, ys, rfl, rfl, e3 _ _ hl, hb, by rw [lx, ly]; exact Nat.le_trans hn (by decide), fun p hp => q p _ ((e2.trans e3).trans (Ex.new hp)) ⟨xs ++ ys, by rw [List.length_append, lx, ly], upd_same, fun v hv => by
    rcases List.mem_append.mp hv with z | z
    · exact (bx.ext (XN.of (e3.trans (Ex.new hp)))) v z
    · exact (bY.ext (XN.of (Ex.new hp))) v z⟩⟩
end
theorem tabs_upd {T : List (Addr × Str)} {H : Hp} {D : Addr} {acc acc' : List V} (t : LamX.Tabs T H) (hD : H D = some (.lst acc)) : LamX.Tabs T (upd H D (.lst acc')) := fun p hp => by
  obtain ⟨ps, h1, h2, h3⟩ := t p hp
  have ne : ∀ {b : Addr} {o : HO}, H b = some o → (∀ xs, o ≠ .lst xs) → b ≠ D := fun {b o} e n z => by
    rw [z, hD] at e
    exact n _ (Option.some.inj e).symm
  refine ⟨ps, by rw [upd_ne (ne h1 (fun _ z => nomatch z))]; exact h1, h2, fun pos cv hc => ?_⟩
  obtain ⟨c, e1, e2⟩ := h3 pos cv hc
  refine ⟨c, e1, ?_⟩
  rw [upd_ne (ne e2 (fun xs z => by unfold LamX.CodeO at z; cases z))]
  exact e2
end K36

end
section
set_option Elab.async false
set_option linter.all false
set_option maxRecDepth 100000
set_option maxHeartbeats 4000000
set_option exponentiation.threshold 10000
namespace K36
open PySem PySem.Spec PyProof.Rows L2 N1 M36
open Evl (Ev EvT EvA EvU EvL Ex)
theorem bd_neg {H : Hp} {t b : Int} (h : 1 ≤ b) (h2 : t < 0 ∨ b < t) : BadCh H (.int t) (.int b) := .inr ⟨b, rfl, h, .inr ⟨t, rfl, h2⟩⟩
theorem bd_low {H : Hp} {v : V} {b : Int} (h : b < 1) : BadCh H v (.int b) := .inl (.inr ⟨b, rfl, h⟩)
theorem bd_top {H : Hp} {v : V} {b : Int} (h : 1 ≤ b) (n : NotNum H v) : BadCh H v (.int b) := .inr ⟨b, rfl, h, .inl n⟩
theorem bd_bot {H : Hp} {v u : V} (n : NotNum H u) : BadCh H v u := .inl (.inl n)
theorem rc_int {i : Int} {H : Hp} : Evl.RC (fun xs H Q => (∃ i, xs = [V.int i] ∧ Q (V.int i) H) ∨ ∃ k, xs = [V.bl k] ∧ Q (V.int (if k then 1 else 0)) H) [.int i] H (.int i) := fun H1 _ Q q => .inl ⟨i, rfl, q H1 (Ex.refl _)⟩
theorem q_asgC {te : TE} {σ : L2.St} {H : Hp} {Pp : Addr → Hp → Prop} {tz : TS} {D : Ends} {i : Nat} (h : EvC te σ H Pp) (k : ∀ p H1, Ex H H1 → Pp p H1 → tz D (σ.set i (some (.ref p))) H1) : tSeq (tAsg te (gName i)) tz D σ H := h H (Ex.refl H) _ fun p H1 e hp => k p H1 e hp
theorem elb_var {σ : L2.St} {H : Hp} {i n : Nat} {p : Addr} {vs : List V} (h : σ[i]? = some (some (.ref p))) (hl : vs.length = n) (hp : H p = some (.lst vs)) (b : AllBad H vs) : EvLB (tVar i) σ H n := fun H1 e Q q => ⟨_, h, q p H1 (Ex.refl _) ⟨vs, hl, e _ _ hp, b.ext (XN.of e)⟩⟩
theorem dp_rep {K : PySem.W.Frag} {H : Hp} (x : Str) : ∀ n : Nat, DpAll K H (List.replicate n (V.str x)) (List.replicate n (PyData.str x))
  | 0 => .nil
  | n + 1 => .cons (.str x) (dp_rep x n)
theorem get_mem {vs : List V} {i : Nat} {y : V} (h : vs[i]? = some y) : y ∈ vs := by
  obtain ⟨hi, e⟩ := List.getElem?_eq_some_iff.mp h
  rw [← e]
  exact List.getElem_mem hi
structure T8 (K : PySem.W.Frag) (mg : Str → Option Value) (a : Ad) (o : AdO) (l : AdL) (fT fA pN pS fK cK fS cS PS PR fR cR : Addr) (mc : Value) (fo ro rc : Option Value) : Prop where
  t : T7 K mg a o l fT fA pN pS fK cK fS cS PS PR mc fo ro rc
  dRef : DefC K "_law_refused_right" "_law_refused_right" sRef fR cR
  gRef : mg "_law_refused_right" = some (.ref fR)
def spRef (PS PR : Addr) : Sp := fun vs H Q _ => ∃ c : Nat, vs = [.int (c : Int)] ∧ LamX.Tabs (Tb PS PR) H ∧ ∀ H', XN H H' → LamX.Tabs (Tb PS PR) H' → Q (.bl true) H'
section
variable {P : Program} {w : World} {K : PySem.W.Frag} {mg : Str → Option Value} {base : Heap} {a : Ad} {o : AdO} {l : AdL} {fT fA pN pS fK cK fS cS PS PR fR cR : Addr} {mc : Value} {fo ro rc : Option Value}
abbrev nmR : List Str := ["_law_cell", "_law_more", "_law_bad", "_law_top", "_law_bottom"]
theorem scRef : FnScope nmR ["_law_cell"] (defScope sRef) := ⟨rfl, rfl, rfl, by decide +kernel, rfl, by decide +kernel, by decide +kernel⟩
theorem ok_ref (T : T8 K mg a o l fT fA pN pS fK cK fS cS PS PR fR cR mc fo ro rc) (TB : LamX.TabB base mg cR PR) : FnR P w K mg base CX0 8 fR (spRef PS PR) := by
  refine defC_R T.dRef scRef (fun _ _ _ _ _ _ us hl => match us, hl with | [_], _ => rfl) (fun vs H Q E h => ?_) (fun A outer s H vs Q E hr h => ?_)
  · obtain ⟨c, rfl, _⟩ := h
    rfl
  · obtain ⟨c, rfl, hT, q⟩ := h
    have T3 := T.t.t.t.t
    have T1 := T.t.t.t.t.t.t
    have hr6 : Room 6 _ := hr.mono (by decide)
    have hr3 : Room 3 _ := hr.mono (by decide)
    have OI := ok_is (P := P) (w := w) (base := base) T3
    have I := ok_init (P := P) (w := w) (base := base) T1
    have neg : ∀ {X : Cx} {e : Expr} {te : TE} {pos : Pos}, PE X e te → PE X (.UnaryOp .USub e pos) (tUn (rU fun i => .int (-i)) te) := fun h => pe_un un_neg h
    refine ⟨_, PSs.nox (pss_cons (ps_set (i := 1) scRef.nd rfl (Or.inl rfl) (pe_op op_add pe_int (pe_op op_modN (pe_callTy call_int1 (by rfl) T1.b.int boot_int (pa_cons (pv 0) pa_nil)) (pe_op op_pow pe_int pe_int))))
      (pss_cons (ps_set (i := 2) scRef.nd rfl (Or.inl rfl) (pe_lst
        (pa_cons (pe_tup (pa_cons (pe_un un_neg pe_int) (pa_cons pe_int pa_nil)))
        (pa_cons (pe_tup (pa_cons (pe_un un_neg (pv 1)) (pa_cons (pv 1) pa_nil)))
        (pa_cons (pe_tup (pa_cons (pe_op op_add (pv 1) pe_int) (pa_cons (pv 1) pa_nil)))
        (pa_cons (pe_tup (pa_cons pe_int (pa_cons pe_int pa_nil)))
        (pa_cons (pe_tup (pa_cons pe_int (pa_cons pe_int pa_nil)))
        (pa_cons (pe_tup (pa_cons pe_int (pa_cons (pe_un un_neg pe_int) pa_nil)))
        (pa_cons (pe_tup (pa_cons (pe_un un_neg pe_int) (pa_cons (pe_un un_neg pe_int) pa_nil)))
        (pa_cons (pe_tup (pa_cons pe_bl (pa_cons pe_int pa_nil)))
        (pa_cons (pe_tup (pa_cons pe_int (pa_cons pe_bl pa_nil)))
        (pa_cons (pe_tup (pa_cons pe_non (pa_cons pe_int pa_nil))) pa_nil))))))))))))
      (pss_cons (ps_set (i := 2) scRef.nd rfl (Or.inl rfl) (pe_op op_cat (pv 2) (pe_lst
        (pa_cons (pe_tup (pa_cons pe_str (pa_cons pe_int pa_nil)))
        (pa_cons (pe_tup (pa_cons pe_int (pa_cons pe_str pa_nil)))
        (pa_cons (pe_tup (pa_cons (pe_tup (pa_cons pe_int pa_nil)) (pa_cons pe_int pa_nil)))
        (pa_cons (pe_tup (pa_cons (pe_lst (pa_cons pe_int pa_nil)) (pa_cons (pe_lst (pa_cons pe_int pa_nil)) pa_nil)))
        (pa_cons (pe_tup (pa_cons pe_int (pa_cons pe_non pa_nil)))
        (pa_cons (pe_tup (pa_cons pe_int (pa_cons pe_int pa_nil)))
        (pa_cons (pe_tup (pa_cons pe_int (pa_cons (pe_un un_neg (pv 1)) pa_nil)))
        (pa_cons (pe_tup (pa_cons (pv 1) (pa_cons pe_int pa_nil))) pa_nil)))))))))))
      (pss_cons (ps_if (pt_cmpR (op_neD hr.units)
          (pe_lc (own := [("_law_top", 3), ("_law_bottom", 4)]) (g := gTup K 2 (gCons (gName 3) (gCons (gName 4) gNil))) (tt := tYes) rfl scRef.nd (pi_list (pv 2)) (blkOk_by (own := [("_law_top", 3), ("_law_bottom", 4)]) (N := nmR) (sc := defScope sRef) (by decide +kernel))
            (fun _ _ _ _ _ => pg_tup rfl (pgs_cons (pg_name (i := 3) scRef.nd rfl (Or.inr rfl)) (pgs_cons (pg_name (i := 4) scRef.nd rfl (Or.inr rfl)) pgs_nil)))
            (fun _ _ _ _ _ => pts_nil)
            (fun _ _ _ _ _ => pe_kind (k := 4) T1.b T.t.k T1.gCe rfl TB rfl tb_R (tb_uR T.t.ne) hr6 (LamX.lamS_by (sc := relabel _ (envOfC "_law_refused_right" (defScope sRef) 0 0 .none)) (by decide +kernel)) rfl (fun _ _ _ _ _ => rfl) (fun A outer s H E f c' hrl => StX.pe_makeR T1.mkC I.1 (hrl.mono (by decide)) rfl T1.gC passX (pa_cons (pv 3) (pa_cons (pv 4) pa_nil)))))
          (pe_op op_rep (pe_lst (pa_cons pe_str pa_nil)) (pe_callB call_len_seq (by rfl) T1.b.len PySem.boot_len (pa_cons (pv 2) pa_nil))) (nomark _)) (pss_one (ps_ret pe_bl)) pss_nil)
      (pss_cons (ps_if (PW.pt (pw_or
          (pt_cmpR op_ne (pe_kind (k := 4) T1.b T.t.k T1.gCe rfl TB rfl tb_R (tb_uR T.t.ne) hr6 (LamX.lamS_by (sc := defScope sRef) (by decide +kernel)) rfl (fun _ _ _ _ _ => rfl) (fun A outer s H E f c' hrl => StX.pe_makeR T1.mkC I.2 (hrl.mono (by decide)) rfl T1.gC passX (pa_cons pe_int pa_nil))) pe_str (nomark _))
          (pw_or1 (pt_cmpR op_ne (pe_kind (k := 4) T1.b T.t.k T1.gCe rfl TB rfl tb_R (tb_uR T.t.ne) hr6 (LamX.lamS_by (sc := defScope sRef) (by decide +kernel)) rfl (fun _ _ _ _ _ => rfl) (fun A outer s H E f c' hrl => StX.pe_makeR T1.mkC I.2 (hrl.mono (by decide)) rfl T1.gC passX (pa_cons pe_non pa_nil))) pe_str (nomark _))))) (pss_one (ps_ret pe_bl)) pss_nil)
      (pss_one (ps_ret (pe_and (pe_callR OI hr6 rfl T3.gIs (kpD T3.dIs) pass0 (pa_cons (StX.pe_makeR T1.mkC I.1 hr3 rfl T1.gC passL (pa_cons pe_int (pa_cons (pv 1) pa_nil))) (pa_cons (pe_tup (pa_cons pe_int (pa_cons pe_int pa_nil))) pa_nil)))
        (pe_and (pe_callR OI hr6 rfl T3.gIs (kpD T3.dIs) pass0 (pa_cons (StX.pe_makeR T1.mkC I.1 hr3 rfl T1.gC passL (pa_cons (pv 1) (pa_cons (pv 1) pa_nil))) (pa_cons (pe_tup (pa_cons pe_int (pa_cons pe_int pa_nil))) pa_nil)))
        (pe_one (pe_callR OI hr6 rfl T3.gIs (kpD T3.dIs) pass0 (pa_cons (StX.pe_makeR T1.mkC I.2 hr3 rfl T1.gC passL (pa_cons pe_int pa_nil)) (pa_cons (pe_tup (pa_cons pe_int (pa_cons pe_int pa_nil))) pa_nil))))))))))))), ?_⟩
    obtain ⟨m, hm⟩ : ∃ m : Nat, m = 1 + c % 10 ^ 20 := ⟨_, rfl⟩
    have hm1 : 0 < m := by omega
    have hm2 : m < 2 ^ 100 := by
      have h1 : c % 10 ^ 20 < 10 ^ 20 := Nat.mod_lt _ (by decide)
      have h2 : (10 : Nat) ^ 20 + 1 < 2 ^ 100 := by decide
      omega
    have em : (1 : Int) + (c : Int).fmod ((10 : Int) ^ (20 : Int).toNat) = (m : Int) := by
      rw [show ((10 : Int) ^ (20 : Int).toNat) = ((10 ^ 20 : Nat) : Int) from rfl, fmodN, hm]
      rfl
    refine Evl.q_asg (v := .int (m : Int)) (Evl.ev_is (Evl.ev_op Evl.ev_c (Evl.ev_op (Evl.ev_cb (Evl.ea_cons (Evl.ev_var rfl) Evl.ea_nil) rc_int) (Evl.ev_op Evl.ev_c Evl.ev_c (Evl.rv_I ⟨by decide, by decide, by decide⟩)) (Evl.rv_I (by show ((10 : Int) ^ (20 : Int).toNat) ≠ 0; decide))) Evl.rv_I0) (by rw [em])) fun H1 e1 => ?_
    have v1 : ∀ (H' : Hp) v2 v3 v4, Ev (tVar 1) [some (.int (c : Int)), some (.int (m : Int)), v2, v3, v4] H' (.int (m : Int)) := fun H' v2 v3 v4 => Evl.ev_var rfl
    have ng : ∀ {i : Int} {te : TE} {σ : L2.St} {H' : Hp}, Ev te σ H' (.int i) → Ev (tUn (rU fun i => .int (-i)) te) σ H' (.int (-i)) := fun h => Evl.ev_un h Evl.ru_neg
    refine q_asgC (elb_lst (n := 10) (eab_cons (evb_sc (ng Evl.ev_c) Evl.ev_c fun _ => bd_neg (by decide) (.inl (by decide)))
      (eab_cons (evb_sc (ng (v1 _ _ _ _)) (v1 _ _ _ _) fun _ => bd_neg (by omega) (.inl (by omega)))
      (eab_cons (evb_sc (Evl.ev_op (v1 _ _ _ _) Evl.ev_c Evl.rv_I0) (v1 _ _ _ _) fun _ => bd_neg (by omega) (.inr (by omega)))
      (eab_cons (evb_sc Evl.ev_c Evl.ev_c fun _ => bd_low (by decide))
      (eab_cons (evb_sc Evl.ev_c Evl.ev_c fun _ => bd_low (by decide))
      (eab_cons (evb_sc Evl.ev_c (ng Evl.ev_c) fun _ => bd_low (by decide))
      (eab_cons (evb_sc (ng Evl.ev_c) (ng Evl.ev_c) fun _ => bd_low (by decide))
      (eab_cons (evb_sc Evl.ev_c Evl.ev_c fun _ => bd_top (by decide) (.inr (.inl ⟨_, rfl⟩)))
      (eab_cons (evb_sc Evl.ev_c Evl.ev_c fun _ => bd_bot (.inr (.inl ⟨_, rfl⟩)))
      (eab_cons (evb_sc Evl.ev_c Evl.ev_c fun _ => bd_top (by decide) (.inl rfl)) eab_nil)))))))))) (by decide)) fun L1 H2 e2 ⟨vs1, len1, hL1, b1⟩ => ?_
    refine q_asgC (elb_cat (n := 10) (m := 8) (elb_var rfl len1 hL1 b1) (elb_lst (eab_cons (evb_sc Evl.ev_c Evl.ev_c fun _ => bd_top (by decide) (.inr (.inr (.inl ⟨_, rfl⟩))))
      (eab_cons (evb_sc Evl.ev_c Evl.ev_c fun _ => bd_bot (.inr (.inr (.inl ⟨_, rfl⟩))))
      (eab_cons (evb_tup (by decide) (Evl.eu_tup (Evl.ea_cons Evl.ev_c Evl.ea_nil) (by show 1 ≤ 100000; decide)) Evl.ev_c)
      (eab_cons (evb_lst (Evl.el_lst (Evl.ea_cons Evl.ev_c Evl.ea_nil) (by show 1 ≤ 100000; decide)) (Evl.el_lst (Evl.ea_cons Evl.ev_c Evl.ea_nil) (by show 1 ≤ 100000; decide)))
      (eab_cons (evb_sc Evl.ev_c Evl.ev_c fun _ => bd_bot (.inl rfl))
      (eab_cons (evb_sc Evl.ev_c Evl.ev_c fun _ => bd_neg (by decide) (.inr (by decide)))
      (eab_cons (evb_sc Evl.ev_c (ng (v1 _ _ _ _)) fun _ => bd_low (by omega))
      (eab_cons (evb_sc (v1 _ _ _ _) Evl.ev_c fun _ => bd_low (by decide)) eab_nil)))))))) (by decide)) (by decide)) fun L H3 e3 ⟨vs, hlen, hL, bad⟩ => ?_
    have x3 : XN H H3 := XN.of (Same.trans e1 (Same.trans e2 e3))
    have hT3 : LamX.Tabs (Tb PS PR) H3 := hT.ext (Same.trans e1 (Same.trans e2 e3))
    clear hL1 b1
    refine ⟨_, rfl, L, rfl, ⟨_, .inl (.inl hL)⟩, fun D hD => lc_list (K := K) (a := L) (xs := vs) (fun i H' => XN H3 H' ∧ LamX.Tabs (Tb PS PR) H' ∧ H' D = some (.lst (List.replicate i (.str "chance")))) ⟨XN.of (same_new hD), hT3.ext (same_new hD), upd_same⟩ (fun i H' _ h => sqL_ext h.1 (.inl (.inl hL))) ?_ ?_⟩
    · rintro i y H' hi ⟨xH, tH, hDl⟩
      obtain ⟨p, rfl, bp⟩ := bad y (get_mem hi)
      obtain ⟨vt, vb, hp, hb⟩ := bp.ext xH
      have hi18 : i < 18 := by
        have := (List.getElem?_eq_some_iff.mp hi).1
        omega
      refine ⟨p, [vt, vb], rfl, .inl (.inl hp), rfl, vt, _, rfl, vb, _, rfl, rfl, rfl, ?_⟩
      unfold tYes
      refine iteT ?_
      refine ⟨tH, fun G eG tG => ⟨_, rfl, _, rfl, mk_bad2 (bad_xn eG hb) fun G2 e4 => ⟨rfl, rfl, ?_⟩⟩⟩
      have hDG : G2 D = some (.lst (List.replicate i (.str "chance"))) := e4 _ _ (eG _ _ hDl (fun _ z => nomatch z))
      refine ⟨_, hDG, by rw [List.length_replicate]; exact Nat.lt_of_lt_of_le hi18 (by decide), ?_, tabs_upd (tG.ext e4) hDG, ?_⟩
      · intro b ob hb2 hn
        have nb : b ≠ D := ne_of_none hb2 hD
        rw [upd_ne nb]
        exact (XN.trans xH (XN.trans eG (XN.of e4))) b ob hb2 hn
      · rw [upd_same, List.replicate_succ']
    · rintro H4 ⟨x4, tH4, hD4⟩
      rw [hlen] at hD4
      have hL4 : H4 L = some (.lst vs) := x4 _ _ hL (fun _ z => nomatch z)
      refine ⟨(by show 1 ≤ sizeLine; decide), fun r hr0 => ?_⟩
      have s5 := same_new (o := .lst [.str "chance"]) hr0
      have hr5 : (upd H4 r (.lst [.str "chance"])) r = some (.lst [.str "chance"]) := upd_same
      generalize upd H4 r (HO.lst [V.str "chance"]) = H5 at s5 hr5 ⊢
      refine ⟨_, rfl, L, vs, rfl, .inl (.inl (.inl (s5 _ _ hL4))), r, (vs.length : Int), _, rfl, rfl, hr5, (by omega), (by omega), (by rw [hlen]; decide), fun z hz => ?_⟩
      have s6 := same_new (o := .lst (List.replicate ((vs.length : Int)).toNat [V.str "chance"]).flatten) hz
      have hz6 : (upd H5 z (.lst (List.replicate ((vs.length : Int)).toNat [V.str "chance"]).flatten)) z = some (.lst (List.replicate 18 (.str "chance"))) := by
        rw [upd_same, hlen]
        rfl
      generalize upd H5 z (HO.lst (List.replicate ((vs.length : Int)).toNat [V.str "chance"]).flatten) = H6 at s6 hz6 ⊢
      have x6 : XN H3 H6 := XN.trans x4 (XN.of (Same.trans s5 s6))
      have tH6 := (tH4.ext s5).ext s6
      refine ⟨.list (List.replicate 18 (.str "chance")), .list (List.replicate 18 (.str "chance")), .lst (.inl (.inl (s6 _ _ (s5 _ _ hD4)))) (dp_rep _ 18), .lst (.inl (.inl hz6)) (dp_rep _ 18), by decide +kernel, by decide +kernel, _, rfl, ifF (by rw [SeqAt.eqv_refl _ (by decide +kernel)]; rfl) ?_⟩
      refine ⟨tH6, fun G eG tG => mk_bad2 (v := .int 2) (u := .int 1) (bd_neg (by decide) (.inr (by decide))) fun G2 e7 => ⟨rfl, rfl, rfl, _, rfl, ifF (by simp) ?_⟩⟩
      refine ⟨tG.ext e7, fun G3 eG3 tG3 => mk_bad2 (v := .non) (u := .int 1) (bd_top (by decide) (.inl rfl)) fun G4 e8 => ⟨rfl, rfl, rfl, _, rfl, ifF (by simp) ?_⟩⟩
      have x9 : XN H G4 := XN.trans x3 (XN.trans x6 (XN.trans eG (XN.trans (XN.of e7) (XN.trans eG3 (XN.of e8)))))
      have t9 := tG3.ext e8
      have hm3 : m < 2 ^ 2000 := Nat.lt_of_lt_of_le hm2 (Nat.pow_le_pow_right (by decide) (by decide))
      have one2 : (1 : Nat) < 2 ^ 2000 := Nat.one_lt_two_pow (by decide)
      have one1 : (1 : Nat) < 2 ^ 1000 := Nat.one_lt_two_pow (by decide)
      have lm : l1 1 1 = l1 m m ∧ l2 1 1 = l2 m m := by
        have := of_sc (t := 1) (d := 1) (c := m) (t' := m) (d' := m) hm1 (Nat.mul_one m).symm (Nat.mul_one m).symm
        exact ⟨this.1.symm, this.2.symm⟩
      refine Evl.ev_is (w := .bl true) (Evl.ev_andV (ev_is (K := K) (t := 0) (d := 1) (ech_of (ech_make (t := 0) (d := m) (Evl.ea_cons Evl.ev_c (Evl.ea_cons (v1 _ _ _ _) Evl.ea_nil)) hm1 (Nat.zero_le _) hm3) ⟨(l_zero hm1).1.symm, (l_zero hm1).2.symm⟩ (by decide) (by decide) one2) (epr_tup (Evl.ea_cons Evl.ev_c (Evl.ea_cons Evl.ev_c Evl.ea_nil))) one1)
        (fun _ => Evl.ev_andV (ev_is (K := K) (t := 1) (d := 1) (ech_of (ech_make (t := m) (d := m) (Evl.ea_cons (v1 _ _ _ _) (Evl.ea_cons (v1 _ _ _ _) Evl.ea_nil)) hm1 (Nat.le_refl _) hm3) lm (by decide) (by decide) one2) (epr_tup (Evl.ea_cons Evl.ev_c (Evl.ea_cons Evl.ev_c Evl.ea_nil))) one1)
        (fun _ => ev_is (K := K) (t := 1) (d := 1) ech_make1 (epr_tup (Evl.ea_cons Evl.ev_c (Evl.ea_cons Evl.ev_c Evl.ea_nil))) one1))) rfl G4 (Ex.refl _) _ fun G5 e9 => ?_
      exact q G5 (XN.trans x9 (XN.of e9)) (t9.ext e9)
end
end K36

end
section
set_option Elab.async false
set_option linter.all false
set_option maxRecDepth 100000
set_option maxHeartbeats 4000000
set_option exponentiation.threshold 10000
namespace K36
open PySem PySem.Spec PyProof.Rows L2 N1 M36
open Evl (Ev EvT EvA EvU EvL Ex)
theorem six : ∀ n : Nat, n < 64 → HT.sIx n n (some 63) = n ∧ HT.sIx n 0 none = 0 := by decide +kernel
theorem cut63 {xs : List V} (h : xs.length ≤ 63) : cutV xs none (some 63) = xs := by
  unfold cutV
  obtain ⟨h1, h2⟩ := six xs.length (by omega)
  rw [h1, h2]
  simp
theorem rg : ∀ j : Nat, j < 64 → Builtin.Range.small 0 (j : Int) 2 = true ∧ Builtin.Range.rangeSize 0 (j : Int) 2 = (((Builtin.Range.rangeSize 0 (j : Int) 2).toNat : Nat) : Int) ∧ (Builtin.Range.rangeSize 0 (j : Int) 2).toNat ≤ 32 := by decide +kernel
def spLaw (K : PySem.W.Frag) (PS PR : Addr) : Sp := fun vs H Q _ => ∃ (p : Addr) (ns : List Int), vs = [.ref p] ∧ SqL K H p (ns.map V.int) ∧ ns.length ≤ 63 ∧ LamX.Tabs (Tb PS PR) H ∧ ∀ H', Q (.bl true) H'
theorem ev_isR {K : PySem.W.Frag} {a : Ad} {E : XK} {σ : L2.St} {H : Hp} {i j : Nat} {x p : Addr} {t d : Nat} (h1 : σ[i]? = some (some (.ref x))) (h2 : σ[j]? = some (some (.ref p))) (c : ChF a H x t d) (hp : SqT K H p [.int (t : Int), .int (d : Int)]) (hd : d < 2 ^ 200) : Ev (tCallR (spIs K a) E (tCons (tVar i) (tCons (tVar j) tNil))) σ H (.bl true) :=
  ev_is (ech_var h1 c) (epr_var h2 hp) (Nat.lt_of_lt_of_le hd (Nat.pow_le_pow_right (by decide) (by decide)))
theorem ix_ev {K : PySem.W.Frag} {σ : L2.St} {H : Hp} {p : Addr} {xs : List V} {v : V} (j : Nat) (i : Int) (h : σ[j]? = some (some (.ref p))) (hp : SqT K H p xs) (ha : atI xs i = some v) : Ev (tOp (rIxT K) (tVar j) (tC (.int i))) σ H v := Evl.ev_op (Evl.ev_var h) Evl.ev_c (Evl.rv_ixT hp ha)
theorem q_parC {ta tb : TE} {σ : L2.St} {H : Hp} {P1 P2 : Addr → Hp → Prop} {tz : TS} {D : Ends} {i j : Nat} (h1 : EvC ta σ H P1) (h2 : ∀ p H1, Ex H H1 → P1 p H1 → EvC tb σ H1 P2)
    (k : ∀ p H1, Ex H H1 → P1 p H1 → ∀ r H2, Ex H1 H2 → P2 r H2 → tz D ((σ.set i (some (.ref p))).set j (some (.ref r))) H2) : tSeq (tPar i j (tCons ta (tCons tb tNil))) tz D σ H := h1 H (Ex.refl H) _ fun p H1 e1 hp => (h2 p H1 e1 hp) H1 (Ex.refl _) _ fun r H2 e2 hr => ⟨_, _, rfl, k p H1 e1 hp r H2 e2 hr⟩
theorem tri {t d : Nat} : l1 t d = l1 (3 * t) (3 * d) ∧ l2 t d = l2 (3 * t) (3 * d) := by
  have := of_sc (t := t) (d := d) (c := 3) (t' := 3 * t) (d' := 3 * d) (by decide) rfl rfl
  exact ⟨this.1.symm, this.2.symm⟩
section
variable {P : Program} {w : World} {K : PySem.W.Frag} {mg : Str → Option Value} {base : Heap} {a : Ad} {o : AdO} {l : AdL} {fT fA pN pS fK cK fS cS PS PR fR cR fL : Addr} {mc : Value} {fo ro rc : Option Value}
theorem scLaw : FnScope ["_law_script", "_law_k", "_law_mine", "_law_theirs", "_law_one", "_law_other"] ["_law_script"] (defScope sLaw) := ⟨rfl, rfl, rfl, by decide +kernel, rfl, by decide +kernel, by decide +kernel⟩
theorem ok_law {fd : FuncData} (F : FunD K "law" "law" (defArgs sLaw) (defBody sLaw) (defScope sLaw) [] [] fL fd) (T : T8 K mg a o l fT fA pN pS fK cK fS cS PS PR fR cR mc fo ro rc) (TS : LamX.TabB base mg cS PS) (TR : LamX.TabB base mg cR PR) : FnOk P w K mg base CX0 10 fL fd ["_law_script"] (spLaw K PS PR) := by
  refine F.ok scLaw (fun vs H Q E h => ?_) (fun cdv A outer s H vs Q E hr h => ?_)
  · obtain ⟨p, ns, rfl, _⟩ := h
    rfl
  · obtain ⟨p, ns, rfl, hS, hlen, hT, q⟩ := h
    have T5 := T.t.t
    have T4 := T.t.t.t
    have T3 := T.t.t.t.t
    have T1 := T.t.t.t.t.t.t
    have hr8 : Room 8 _ := hr.mono (by decide)
    have hr6 : Room 6 _ := hr.mono (by decide)
    have hr3 : Room 3 _ := hr.mono (by decide)
    have hr2 : Room 2 _ := hr.mono (by decide)
    have hr1 : Room 1 _ := hr.mono (by decide)
    have OC := ok_cell (P := P) (w := w) (base := base) T3
    have OD := ok_drawn (P := P) (w := w) (base := base) T3
    have OI := ok_is (P := P) (w := w) (base := base) T3
    have OT := ok_turns (P := P) (w := w) (base := base) T4
    have OA := ok_alone (P := P) (w := w) (base := base) T5
    have OS := ok_sums (P := P) (w := w) (base := base) T.t TS
    have OR := ok_ref (P := P) (w := w) (base := base) T TR
    have I := ok_init (P := P) (w := w) (base := base) T1
    refine ⟨_, PSs.nox (pss_cons (ps_set (i := 0) scLaw.nd rfl (Or.inl rfl) (pe_slice sl_list (pv 0) po_none (po_some pe_int)))
      (pss_cons (ps_for PassesOwn.never rfl (pi_range3 rfl T1.b.range (pa_cons pe_int (pa_cons (pe_callB (call_max2 rfl) (by rfl) T1.b.max (by decide +kernel) (pa_cons pe_int (pa_cons (pe_callB call_len_seq (by rfl) T1.b.len PySem.boot_len (pa_cons (pv 0) pa_nil)) pa_nil))) (pa_cons pe_int pa_nil)))) (pg_name (i := 1) scLaw.nd rfl (Or.inl rfl))
        (pss_cons (ps_par (i := 2) (j := 3) (by rfl) scLaw.nd rfl rfl (by decide) rfl rfl (pa_cons (pe_callR OD hr2 rfl T3.gDrawn (kpD T3.dDrawn) pass0 (pa_cons (pv 0) (pa_cons (pv 1) pa_nil))) (pa_cons (pe_callR OD hr2 rfl T3.gDrawn (kpD T3.dDrawn) pass0 (pa_cons (pv 0) (pa_cons (pe_op op_add (pv 1) pe_int) pa_nil))) pa_nil)) (by rfl))
        (pss_cons (ps_par (i := 4) (j := 5) (by rfl) scLaw.nd rfl rfl (by decide) rfl rfl (pa_cons (StX.pe_makeR T1.mkC I.1 hr3 rfl T1.gC passL (pa_cons (pe_ix ix_tup (pv 2) pe_int (fun _ _ => rfl)) (pa_cons (pe_ix ix_tup (pv 2) pe_int (fun _ _ => rfl)) pa_nil))) (pa_cons (StX.pe_makeR T1.mkC I.1 hr3 rfl T1.gC passL (pa_cons (pe_ix ix_tup (pv 3) pe_int (fun _ _ => rfl)) (pa_cons (pe_ix ix_tup (pv 3) pe_int (fun _ _ => rfl)) pa_nil))) pa_nil)) (by rfl))
        (pss_cons (ps_if (PW.pt (pw_or (pt_not (pt_val (pe_callR OI hr6 rfl T3.gIs (kpD T3.dIs) pass0 (pa_cons (pv 4) (pa_cons (pv 2) pa_nil))))) (pw_or1 (pt_not (pt_val (pe_callR OI hr6 rfl T3.gIs (kpD T3.dIs) pass0 (pa_cons (pv 5) (pa_cons (pv 3) pa_nil)))))))) (pss_one (ps_ret pe_bl)) pss_nil)
        (pss_cons (ps_if (PW.pt (pw_or (pt_not (pt_val (pe_callR OS hr8 rfl T.t.gSums T.t.dSums.kp pass0 (pa_cons (pv 4) (pa_cons (pv 5) (pa_cons (pv 2) (pa_cons (pv 3) pa_nil))))))) (pw_or1 (pt_not (pt_val (pe_callR OT hr6 rfl T4.gTurns (kpD T4.dTurns) pass0 (pa_cons (pv 4) (pa_cons (pv 5) (pa_cons (pv 2) (pa_cons (pv 3) pa_nil)))))))))) (pss_one (ps_ret pe_bl)) pss_nil)
        (pss_cons (ps_if (PW.pt (pw_or (pt_not (pt_val (pe_callR OS hr8 rfl T.t.gSums T.t.dSums.kp pass0 (pa_cons (pv 5) (pa_cons (pv 4) (pa_cons (pv 3) (pa_cons (pv 2) pa_nil))))))) (pw_or1 (pt_not (pt_val (pe_callR OA hr8 rfl T5.gAlone (kpD T5.dAlone) pass0 (pa_cons (pv 4) (pa_cons (pv 2) pa_nil)))))))) (pss_one (ps_ret pe_bl)) pss_nil)
        (pss_one (ps_if (pt_not (pt_val (pe_callR OT hr6 rfl T4.gTurns (kpD T4.dTurns) pass0 (pa_cons (pv 4) (pa_cons (StX.pe_makeR T1.mkC I.1 hr3 rfl T1.gC passL (pa_cons (pe_op op_mulW pe_int (pe_ix ix_tup (pv 2) pe_int (fun _ _ => rfl))) (pa_cons (pe_op op_mulW pe_int (pe_ix ix_tup (pv 2) pe_int (fun _ _ => rfl))) pa_nil))) (pa_cons (pv 2) (pa_cons (pv 2) pa_nil))))))) (pss_one (ps_ret pe_bl)) pss_nil))))))))
      (pss_one (ps_ret (pe_callR OR hr8 rfl T.gRef T.dRef.kp pass0 (pa_cons (pe_callB call_abs (by rfl) T1.b.abs (by decide +kernel) (pa_cons (pe_callR OC hr1 rfl T3.gCell (kpD T3.dCell) pass0 (pa_cons (pv 0) (pa_cons pe_int pa_nil))) pa_nil)) pa_nil)))))), ?_⟩
    have hl63 : (ns.map V.int).length ≤ 63 := by rw [List.length_map]; exact hlen
    refine Evl.q_asgL (xs := ns.map V.int) (by have := Evl.el_sl (K := K) (σ := L2.start ["_law_script", "_law_k", "_law_mine", "_law_theirs", "_law_one", "_law_other"] [.ref p]) (H := H) (te := tVar 0) (Evl.ev_var rfl) Evl.eo_none (Evl.eo_some (Evl.ev_c (v := .int 63))) hS; rw [cut63 hl63] at this; exact this) fun L H1 _ e1 hL => ?_
    have hT1 := hT.ext e1
    obtain ⟨j, hj, hj2⟩ : ∃ j : Nat, (if ((ns.map V.int).length : Int) > 2 then ((ns.map V.int).length : Int) else 2) = (j : Int) ∧ j < 64 := by
      rw [List.length_map]
      by_cases h : (ns.length : Int) > 2
      · exact ⟨ns.length, if_pos h, by omega⟩
      · exact ⟨2, if_neg h, by decide⟩
    obtain ⟨sm, er, rs⟩ := rg j hj2
    refine ⟨_, rfl, L, _, rfl, .inl (.inl (.inl hL)), _, _, rfl, 0, (j : Int), 2, (Builtin.Range.rangeSize 0 (j : Int) 2).toNat, by rw [hj], ⟨by decide, by decide, sm, er⟩, ?_⟩
    refine for_rangeC (lo := 0) (c := 2) (fun i σ H' => XN H1 H' ∧ LamX.Tabs (Tb PS PR) H' ∧ ∃ v1 v2 v3 v4 v5, σ = [some (.ref L), v1, v2, v3, v4, v5]) ⟨LamX.ExtN.refl _, hT1, _, _, _, _, _, rfl⟩ ?_ ?_
    · rintro i σ H2 hi ⟨x2, hT2, v1, v2, v3, v4, v5, rfl⟩
      have ek : (0 : Int) + ((i : Nat) : Int) * 2 = ((2 * i : Nat) : Int) := by omega
      have hL2 : SqL K H2 L (ns.map V.int) := sqL_ext x2 (.inl (.inl hL))
      rw [ek]
      refine ⟨_, rfl, _, rfl, L, ns, 2 * i, rfl, hL2, by omega, fun t d mq H3 s3 htd hd hd1 hm => ?_⟩
      refine ⟨_, rfl, _, rfl, _, _, rfl, rfl, L, ns, 2 * i + 1, rfl, s3.seq hL2, by omega, fun t' d' tq H4 s4 htd' hd' hd1' hq => ?_⟩
      refine ⟨_, _, rfl, ?_⟩
      have hm4 := s4 _ _ hm
      have d1 : d < 2 ^ 2000 := Nat.lt_of_lt_of_le hd1 (Nat.pow_le_pow_right (by decide) (by decide))
      have d2 : d < 2 ^ 200 := Nat.lt_of_lt_of_le hd1 (Nat.pow_le_pow_right (by decide) (by decide))
      have d1' : d' < 2 ^ 2000 := Nat.lt_of_lt_of_le hd1' (Nat.pow_le_pow_right (by decide) (by decide))
      have d2' : d' < 2 ^ 200 := Nat.lt_of_lt_of_le hd1' (Nat.pow_le_pow_right (by decide) (by decide))
      refine q_parC (ech_make (a := a) (E := E0) (t := t) (d := d) (Evl.ea_cons (ix_ev (K := K) (σ := [some (.ref L), some (.int ((2 * i : Nat) : Int)), some (.ref mq), some (.ref tq), v4, v5]) 2 0 rfl (.inl (.inl hm4)) rfl) (Evl.ea_cons (ix_ev (K := K) (σ := [some (.ref L), some (.int ((2 * i : Nat) : Int)), some (.ref mq), some (.ref tq), v4, v5]) 2 1 rfl (.inl (.inl hm4)) rfl) Evl.ea_nil)) hd htd d1) (fun x H5 s5 c5 => ech_make (a := a) (E := E0) (t := t') (d := d') (Evl.ea_cons (ix_ev (K := K) (σ := [some (.ref L), some (.int ((2 * i : Nat) : Int)), some (.ref mq), some (.ref tq), v4, v5]) 3 0 rfl (.inl (.inl (s5 _ _ hq))) rfl) (Evl.ea_cons (ix_ev (K := K) (σ := [some (.ref L), some (.int ((2 * i : Nat) : Int)), some (.ref mq), some (.ref tq), v4, v5]) 3 1 rfl (.inl (.inl (s5 _ _ hq))) rfl) Evl.ea_nil)) hd' htd' d1') (fun x H5 s5 c5 y H6 s6 c6 => ?_)
      have s26 : Same H2 H6 := Same.trans s3 (Same.trans s4 (Same.trans s5 s6))
      have cx := c5.same s6
      have hm6 : SqT K H6 mq [.int (t : Int), .int (d : Int)] := .inl (.inl (s6 _ _ (s5 _ _ hm4)))
      have hq6 : SqT K H6 tq [.int (t' : Int), .int (d' : Int)] := .inl (.inl (s6 _ _ (s5 _ _ hq)))
      refine Evl.q_when (b := false) (Evl.et_is (Evl.et_or (Evl.et_not (Evl.et_B (ev_isR (K := K) (i := 4) (j := 2) rfl rfl cx hm6 d2))) (fun _ => Evl.et_not (Evl.et_B (ev_isR (K := K) (i := 5) (j := 3) rfl rfl c6 hq6 d2')))) rfl) (fun z => nomatch z) (fun _ H7 s7 => ?_)
      have x7 : XN H2 H7 := XN.of (Same.trans s26 s7)
      have t7 := (hT2.ext s26).ext s7
      refine ⟨_, rfl, _, rfl, _, rfl, _, rfl, x, y, mq, tq, t, d, t', d', ⟨rfl, cx.same s7, c6.same s7, sqT_same s7 hm6, sqT_same s7 hq6, d2, d2'⟩, t7, fun H8 x8 t8 => ⟨true, rfl, iteF ?_⟩⟩
      have cx8 := (cx.same s7).ext x8
      have cy8 := (c6.same s7).ext x8
      have m8 := sqT_ext x8 (sqT_same s7 hm6)
      have q8 := sqT_ext x8 (sqT_same s7 hq6)
      refine ⟨_, rfl, _, rfl, _, rfl, _, rfl, x, y, mq, tq, t, d, t', d', ⟨rfl, cx8, cy8, m8, q8, d2, d2'⟩, fun H9 s9 => ⟨true, rfl, iteF ?_⟩⟩
      refine ⟨_, rfl, _, rfl, _, rfl, _, rfl, y, x, tq, mq, t', d', t, d, ⟨rfl, cy8.same s9, cx8.same s9, sqT_same s9 q8, sqT_same s9 m8, d2', d2⟩, t8.ext s9, fun H10 x10 t10 => ⟨true, rfl, iteF ?_⟩⟩
      have cx10 := (cx8.same s9).ext x10
      have m10 := sqT_ext x10 (sqT_same s9 m8)
      refine ⟨_, rfl, _, rfl, x, mq, t, d, rfl, cx10, m10, d2, fun H11 s11 => ⟨true, rfl, iteF ?_⟩⟩
      have m11 := sqT_same s11 m10
      have cx11 := cx10.same s11
      have mt : ∀ {i : Nat} {te : TE} {σ : L2.St}, i < 2 ^ 2000 → Ev te σ H11 (.int (i : Int)) → Ev (tOp (rI CMulW fun i j => .int (i * j)) (tC (.int 3)) te) σ H11 (.int ((3 * i : Nat) : Int)) := fun hi h => Evl.ev_is (Evl.ev_op (Evl.ev_c (v := .int ((3 : Nat) : Int))) h (Evl.rv_I (cm (Nat.lt_of_lt_of_le (by decide : 3 < 2 ^ 2) (Nat.pow_le_pow_right (by decide) (by decide))) hi))) rfl
      have b3 : 3 * d < 2 ^ 2000 := by
        have h1 : (2 : Nat) ^ 100 * 3 < 2 ^ 2000 := Nat.lt_of_lt_of_le (show (2 : Nat) ^ 100 * 3 < 2 ^ 102 by decide) (Nat.pow_le_pow_right (by decide) (by decide))
        omega
      refine ⟨_, rfl, ?_⟩
      refine ech_of (t' := t) (d' := d) (ech_make (a := a) (E := E0) (t := 3 * t) (d := 3 * d) (Evl.ea_cons (mt (Nat.lt_of_le_of_lt htd d1) (ix_ev (K := K) (σ := [some (.ref L), some (.int ((2 * i : Nat) : Int)), some (.ref mq), some (.ref tq), some (.ref x), some (.ref y)]) 2 0 rfl m11 rfl)) (Evl.ea_cons (mt d1 (ix_ev (K := K) (σ := [some (.ref L), some (.int ((2 * i : Nat) : Int)), some (.ref mq), some (.ref tq), some (.ref x), some (.ref y)]) 2 1 rfl m11 rfl)) Evl.ea_nil)) (by omega) (by omega) b3) tri hd htd d1 H11 (Ex.refl _) _ fun z H12 s12 c12 => ?_
      refine ⟨_, rfl, _, rfl, x, z, mq, mq, t, d, t, d, ⟨rfl, cx11.same s12, c12, sqT_same s12 m11, sqT_same s12 m11, d2, d2⟩, fun H13 s13 => ⟨true, rfl, iteF ?_⟩⟩
      exact ⟨XN.trans x2 (XN.trans x7 (XN.trans x8 (XN.trans (XN.of s9) (XN.trans x10 (XN.of (Same.trans s11 (Same.trans s12 s13))))))), t10.ext (Same.trans s11 (Same.trans s12 s13)), _, _, _, _, _, rfl⟩
    · rintro σ H2 ⟨x2, hT2, v1, v2, v3, v4, v5, rfl⟩
      have hL2 : SqL K H2 L (ns.map V.int) := sqL_ext x2 (.inl (.inl hL))
      refine ⟨_, rfl, L, ns, 0, rfl, hL2, _, rfl, (ns.getD 0 0).natAbs, ?_, hT2, fun H3 _ _ => q H3⟩
      show [V.int (if ns.getD 0 0 < 0 then -ns.getD 0 0 else ns.getD 0 0)] = _
      rw [absN]
end
end K36

end
section
set_option Elab.async false
set_option linter.all false
set_option maxRecDepth 100000
set_option maxHeartbeats 4000000
set_option exponentiation.threshold 10000
namespace K36
open PySem PySem.Spec PyProof.Rows L2 N1 M36
theorem def1_mk {K : PySem.W.Frag} {x qual : Str} {st : Stmt} {f : Addr} {oc kV doc pm cdv ct : Value} {od an : Option Addr} {osl : Array (Option Value)} (l : K.lookup f = some ⟨oc, od, .func (PySem.W.fnOf x qual (defArgs st) (defBody st) (defScope st) .none kV doc pm an cdv ct), osl⟩)
    (c : PySem.W.codeIn K cdv qual = true) (k : PySem.W.keepIn K (.ref f) = true) : Def1 K x qual st [] f := ⟨_, ⟨_, _, _, _, _, _, _, _, _, _, rfl, l, c, .inl ⟨rfl, rfl⟩, .inl rfl⟩, k⟩
theorem def1_mkD {K : PySem.W.Frag} {x qual : Str} {st : Stmt} {f : Addr} {dvs : List V} {dV oc kV doc pm cdv ct : Value} {od an : Option Addr} {osl : Array (Option Value)} (l : K.lookup f = some ⟨oc, od, .func (PySem.W.fnOf x qual (defArgs st) (defBody st) (defScope st) dV kV doc pm an cdv ct), osl⟩)
    (c : PySem.W.codeIn K cdv qual = true) (k : PySem.W.keepIn K (.ref f) = true) (d : DflV K dV dvs) : Def1 K x qual st dvs f := ⟨_, ⟨_, _, _, _, _, _, _, _, _, _, rfl, l, c, d, .inl rfl⟩, k⟩
theorem all_mk {w : World} {K : PySem.W.Frag} {h : Heap} {mg : Str → Option Value} {fa PS PR : Addr} {aChance : Addr}
    {aBadChance : Addr}
    {aHoleError : Addr}
    {tNum : Addr}
    {fNum : Addr} {odNum anNum : Option Addr} {slNum : Array (Option Value)} {ocNum kVNum dcNum pmNum ctNum : Value}
    {cdNum : Value}
    {fLowest : Addr} {odLowest anLowest : Option Addr} {slLowest : Array (Option Value)} {ocLowest kVLowest dcLowest pmLowest ctLowest : Value}
    {cdLowest : Value}
    {fCell : Addr} {odCell anCell : Option Addr} {slCell : Array (Option Value)} {ocCell kVCell dcCell pmCell ctCell : Value}
    {cdCell : Value}
    {fCommon : Addr} {odCommon anCommon : Option Addr} {slCommon : Array (Option Value)} {ocCommon kVCommon dcCommon pmCommon ctCommon : Value}
    {cdCommon : Value}
    {fLow : Addr} {odLow anLow : Option Addr} {slLow : Array (Option Value)} {ocLow kVLow dcLow pmLow ctLow : Value}
    {cdLow : Value}
    {fDrawn : Addr} {odDrawn anDrawn : Option Addr} {slDrawn : Array (Option Value)} {ocDrawn kVDrawn dcDrawn pmDrawn ctDrawn : Value}
    {cdDrawn : Value}
    {fIs : Addr} {odIs anIs : Option Addr} {slIs : Array (Option Value)} {ocIs kVIs dcIs pmIs ctIs : Value}
    {cdIs : Value}
    {fKind : Addr} {odKind anKind : Option Addr} {slKind : Array (Option Value)} {ocKind kVKind dcKind pmKind ctKind : Value}
    {cKind : Addr}
    {fSums : Addr} {odSums anSums : Option Addr} {slSums : Array (Option Value)} {ocSums kVSums dcSums pmSums ctSums : Value}
    {cSums : Addr}
    {fTurns : Addr} {odTurns anTurns : Option Addr} {slTurns : Array (Option Value)} {ocTurns kVTurns dcTurns pmTurns ctTurns : Value}
    {cdTurns : Value}
    {fAlone : Addr} {odAlone anAlone : Option Addr} {slAlone : Array (Option Value)} {ocAlone kVAlone dcAlone pmAlone ctAlone : Value}
    {cdAlone : Value}
    {fRef : Addr} {odRef anRef : Option Addr} {slRef : Array (Option Value)} {ocRef kVRef dcRef pmRef ctRef : Value}
    {cRef : Addr}
    {fLaw : Addr} {odLaw anLaw : Option Addr} {slLaw : Array (Option Value)} {ocLaw kVLaw dcLaw pmLaw ctLaw : Value}
    {cdLaw : Value}
    {tInit : Addr}
    {fInit : Addr} {odInit anInit : Option Addr} {slInit : Array (Option Value)} {ocInit kVInit dcInit pmInit ctInit : Value}
    {cdInit : Value}
    {fAdd : Addr} {odAdd anAdd : Option Addr} {slAdd : Array (Option Value)} {ocAdd kVAdd dcAdd pmAdd ctAdd : Value}
    {cdAdd : Value}
    {fSub : Addr} {odSub anSub : Option Addr} {slSub : Array (Option Value)} {ocSub kVSub dcSub pmSub ctSub : Value}
    {cdSub : Value}
    {fRsub : Addr} {odRsub anRsub : Option Addr} {slRsub : Array (Option Value)} {ocRsub kVRsub dcRsub pmRsub ctRsub : Value}
    {cdRsub : Value}
    {fMul : Addr} {odMul anMul : Option Addr} {slMul : Array (Option Value)} {ocMul kVMul dcMul pmMul ctMul : Value}
    {cdMul : Value}
    {fPow : Addr} {odPow anPow : Option Addr} {slPow : Array (Option Value)} {ocPow kVPow dcPow pmPow ctPow : Value}
    {cdPow : Value}
    {fLt : Addr} {odLt anLt : Option Addr} {slLt : Array (Option Value)} {ocLt kVLt dcLt pmLt ctLt : Value}
    {cdLt : Value}
    {fLe : Addr} {odLe anLe : Option Addr} {slLe : Array (Option Value)} {ocLe kVLe dcLe pmLe ctLe : Value}
    {cdLe : Value}
    {fGt : Addr} {odGt anGt : Option Addr} {slGt : Array (Option Value)} {ocGt kVGt dcGt pmGt ctGt : Value}
    {cdGt : Value}
    {fGe : Addr} {odGe anGe : Option Addr} {slGe : Array (Option Value)} {ocGe kVGe dcGe pmGe ctGe : Value}
    {cdGe : Value}
    {fEq : Addr} {odEq anEq : Option Addr} {slEq : Array (Option Value)} {ocEq kVEq dcEq pmEq ctEq : Value}
    {cdEq : Value}
    {pTop : Addr} {rTop : List Value}
    {fTop : Addr} {odTop anTop : Option Addr} {slTop : Array (Option Value)} {ocTop kVTop dcTop pmTop ctTop : Value}
    {cdTop : Value}
    {pBot : Addr} {rBot : List Value}
    {fBot : Addr} {odBot anBot : Option Addr} {slBot : Array (Option Value)} {ocBot kVBot dcBot pmBot ctBot : Value}
    {cdBot : Value}
    {mc : Value}
    {pNev : Addr} {rNev : List Value}
    {fNev : Addr} {odNev anNev : Option Addr} {slNev : Array (Option Value)} {ocNev kVNev dcNev pmNev ctNev : Value}
    {cdNev : Value}
    {pSur : Addr} {rSur : List Value}
    {fSur : Addr} {odSur anSur : Option Addr} {slSur : Array (Option Value)} {ocSur kVSur dcSur pmSur ctSur : Value}
    {cdSur : Value}
    {ocT odT : Value}
    {dNum dInit : Option Addr} {nNum nInit : Nat} {slN slI : Array (Option Value)} {tokI : Tok}
    {p_part : Addr}
    {p_whole : Addr}
    {fo ro : Option Value}
    {nmC qC : Str} {nsC : Addr} {bsC : List Value} {hdC : Bool} {snC : List Str} {subC : List Value} {abC : Bool} {colC : Option Bool} {ddC : Option Addr} {m0 m1 m2 m3 m5 : Option Value} {newC : String}
    (X : K.In h) (G : h.Ns mainGlobals mg) (hfa : mg "law" = some (.ref fa)) (tS : h.get? PS = some { cls := .none, data := .fields #[] }) (tR : h.get? PR = some { cls := .none, data := .fields #[] }) (nePR : PS ≠ PR)
    (gChance : PySem.W.nsIn K mainGlobals "Chance" = some (some (.ref aChance)))
    (gBadChance : PySem.W.nsIn K mainGlobals "BadChance" = some (some (.ref aBadChance)))
    (gHoleError : PySem.W.nsIn K mainGlobals "HoleError" = some (some (.ref aHoleError)))
    (gNum : PySem.W.nsIn K mainGlobals "is_number" = some (some (.ref fNum)))
    (lNum : K.lookup fNum = some ⟨ocNum, odNum, .func (PySem.W.fnOf "is_number" "is_number" (defArgs sNum) (defBody sNum) (defScope sNum) (.ref tNum) kVNum dcNum pmNum anNum cdNum ctNum), slNum⟩)
    (cNum0 : PySem.W.codeIn K cdNum "is_number" = true)
    (kNum : PySem.W.keepIn K (.ref fNum) = true)
    (gLowest : PySem.W.nsIn K mainGlobals "lowest" = some (some (.ref fLowest)))
    (lLowest : K.lookup fLowest = some ⟨ocLowest, odLowest, .func (PySem.W.fnOf "lowest" "lowest" (defArgs sLowest) (defBody sLowest) (defScope sLowest) .none kVLowest dcLowest pmLowest anLowest cdLowest ctLowest), slLowest⟩)
    (cLowest0 : PySem.W.codeIn K cdLowest "lowest" = true)
    (kLowest : PySem.W.keepIn K (.ref fLowest) = true)
    (gCell : PySem.W.nsIn K mainGlobals "_law_cell_at" = some (some (.ref fCell)))
    (lCell : K.lookup fCell = some ⟨ocCell, odCell, .func (PySem.W.fnOf "_law_cell_at" "_law_cell_at" (defArgs sCell) (defBody sCell) (defScope sCell) .none kVCell dcCell pmCell anCell cdCell ctCell), slCell⟩)
    (cCell0 : PySem.W.codeIn K cdCell "_law_cell_at" = true)
    (kCell : PySem.W.keepIn K (.ref fCell) = true)
    (gCommon : PySem.W.nsIn K mainGlobals "_law_common" = some (some (.ref fCommon)))
    (lCommon : K.lookup fCommon = some ⟨ocCommon, odCommon, .func (PySem.W.fnOf "_law_common" "_law_common" (defArgs sCommon) (defBody sCommon) (defScope sCommon) .none kVCommon dcCommon pmCommon anCommon cdCommon ctCommon), slCommon⟩)
    (cCommon0 : PySem.W.codeIn K cdCommon "_law_common" = true)
    (kCommon : PySem.W.keepIn K (.ref fCommon) = true)
    (gLow : PySem.W.nsIn K mainGlobals "_law_low" = some (some (.ref fLow)))
    (lLow : K.lookup fLow = some ⟨ocLow, odLow, .func (PySem.W.fnOf "_law_low" "_law_low" (defArgs sLow) (defBody sLow) (defScope sLow) .none kVLow dcLow pmLow anLow cdLow ctLow), slLow⟩)
    (cLow0 : PySem.W.codeIn K cdLow "_law_low" = true)
    (kLow : PySem.W.keepIn K (.ref fLow) = true)
    (gDrawn : PySem.W.nsIn K mainGlobals "_law_drawn" = some (some (.ref fDrawn)))
    (lDrawn : K.lookup fDrawn = some ⟨ocDrawn, odDrawn, .func (PySem.W.fnOf "_law_drawn" "_law_drawn" (defArgs sDrawn) (defBody sDrawn) (defScope sDrawn) .none kVDrawn dcDrawn pmDrawn anDrawn cdDrawn ctDrawn), slDrawn⟩)
    (cDrawn0 : PySem.W.codeIn K cdDrawn "_law_drawn" = true)
    (kDrawn : PySem.W.keepIn K (.ref fDrawn) = true)
    (gIs : PySem.W.nsIn K mainGlobals "_law_is" = some (some (.ref fIs)))
    (lIs : K.lookup fIs = some ⟨ocIs, odIs, .func (PySem.W.fnOf "_law_is" "_law_is" (defArgs sIs) (defBody sIs) (defScope sIs) .none kVIs dcIs pmIs anIs cdIs ctIs), slIs⟩)
    (cIs0 : PySem.W.codeIn K cdIs "_law_is" = true)
    (kIs : PySem.W.keepIn K (.ref fIs) = true)
    (gKind : PySem.W.nsIn K mainGlobals "_law_kind" = some (some (.ref fKind)))
    (lKind : K.lookup fKind = some ⟨ocKind, odKind, .func (PySem.W.fnOf "_law_kind" "_law_kind" (defArgs sKind) (defBody sKind) (defScope sKind) .none kVKind dcKind pmKind anKind (.ref cKind) ctKind), slKind⟩)
    (cKind0 : PySem.W.codeIn K (.ref cKind) "_law_kind" = true)
    (kKind : PySem.W.keepIn K (.ref fKind) = true)
    (gSums : PySem.W.nsIn K mainGlobals "_law_sums_right" = some (some (.ref fSums)))
    (lSums : K.lookup fSums = some ⟨ocSums, odSums, .func (PySem.W.fnOf "_law_sums_right" "_law_sums_right" (defArgs sSums) (defBody sSums) (defScope sSums) .none kVSums dcSums pmSums anSums (.ref cSums) ctSums), slSums⟩)
    (cSums0 : PySem.W.codeIn K (.ref cSums) "_law_sums_right" = true)
    (kSums : PySem.W.keepIn K (.ref fSums) = true)
    (gTurns : PySem.W.nsIn K mainGlobals "_law_turns_right" = some (some (.ref fTurns)))
    (lTurns : K.lookup fTurns = some ⟨ocTurns, odTurns, .func (PySem.W.fnOf "_law_turns_right" "_law_turns_right" (defArgs sTurns) (defBody sTurns) (defScope sTurns) .none kVTurns dcTurns pmTurns anTurns cdTurns ctTurns), slTurns⟩)
    (cTurns0 : PySem.W.codeIn K cdTurns "_law_turns_right" = true)
    (kTurns : PySem.W.keepIn K (.ref fTurns) = true)
    (gAlone : PySem.W.nsIn K mainGlobals "_law_alone_right" = some (some (.ref fAlone)))
    (lAlone : K.lookup fAlone = some ⟨ocAlone, odAlone, .func (PySem.W.fnOf "_law_alone_right" "_law_alone_right" (defArgs sAlone) (defBody sAlone) (defScope sAlone) .none kVAlone dcAlone pmAlone anAlone cdAlone ctAlone), slAlone⟩)
    (cAlone0 : PySem.W.codeIn K cdAlone "_law_alone_right" = true)
    (kAlone : PySem.W.keepIn K (.ref fAlone) = true)
    (gRef : PySem.W.nsIn K mainGlobals "_law_refused_right" = some (some (.ref fRef)))
    (lRef : K.lookup fRef = some ⟨ocRef, odRef, .func (PySem.W.fnOf "_law_refused_right" "_law_refused_right" (defArgs sRef) (defBody sRef) (defScope sRef) .none kVRef dcRef pmRef anRef (.ref cRef) ctRef), slRef⟩)
    (cRef0 : PySem.W.codeIn K (.ref cRef) "_law_refused_right" = true)
    (kRef : PySem.W.keepIn K (.ref fRef) = true)
    (gLaw : PySem.W.nsIn K mainGlobals "law" = some (some (.ref fLaw)))
    (lLaw : K.lookup fLaw = some ⟨ocLaw, odLaw, .func (PySem.W.fnOf "law" "law" (defArgs sLaw) (defBody sLaw) (defScope sLaw) .none kVLaw dcLaw pmLaw anLaw cdLaw ctLaw), slLaw⟩)
    (cLaw0 : PySem.W.codeIn K cdLaw "law" = true)
    (kLaw : PySem.W.keepIn K (.ref fLaw) = true)
    (gInit : PySem.W.findIn K (.ref aChance) "__init__" = some (some (.ref fInit)))
    (lInit : K.lookup fInit = some ⟨ocInit, odInit, .func (PySem.W.fnOf "__init__" "Chance.__init__" (defArgs sInit) (defBody sInit) (defScope sInit) (.ref tInit) kVInit dcInit pmInit anInit cdInit ctInit), slInit⟩)
    (cInit0 : PySem.W.codeIn K cdInit "Chance.__init__" = true)
    (kInit : PySem.W.keepIn K (.ref fInit) = true)
    (iInit : PySem.W.isFn K (.ref fInit) = true)
    (gAdd : PySem.W.findIn K (.ref aChance) "__add__" = some (some (.ref fAdd)))
    (lAdd : K.lookup fAdd = some ⟨ocAdd, odAdd, .func (PySem.W.fnOf "__add__" "Chance.__add__" (defArgs sAdd) (defBody sAdd) (defScope sAdd) .none kVAdd dcAdd pmAdd anAdd cdAdd ctAdd), slAdd⟩)
    (cAdd0 : PySem.W.codeIn K cdAdd "Chance.__add__" = true)
    (kAdd : PySem.W.keepIn K (.ref fAdd) = true)
    (iAdd : PySem.W.isFn K (.ref fAdd) = true)
    (gSub : PySem.W.findIn K (.ref aChance) "__sub__" = some (some (.ref fSub)))
    (lSub : K.lookup fSub = some ⟨ocSub, odSub, .func (PySem.W.fnOf "__sub__" "Chance.__sub__" (defArgs sSub) (defBody sSub) (defScope sSub) .none kVSub dcSub pmSub anSub cdSub ctSub), slSub⟩)
    (cSub0 : PySem.W.codeIn K cdSub "Chance.__sub__" = true)
    (kSub : PySem.W.keepIn K (.ref fSub) = true)
    (iSub : PySem.W.isFn K (.ref fSub) = true)
    (gRsub : PySem.W.findIn K (.ref aChance) "__rsub__" = some (some (.ref fRsub)))
    (lRsub : K.lookup fRsub = some ⟨ocRsub, odRsub, .func (PySem.W.fnOf "__rsub__" "Chance.__rsub__" (defArgs sRsub) (defBody sRsub) (defScope sRsub) .none kVRsub dcRsub pmRsub anRsub cdRsub ctRsub), slRsub⟩)
    (cRsub0 : PySem.W.codeIn K cdRsub "Chance.__rsub__" = true)
    (kRsub : PySem.W.keepIn K (.ref fRsub) = true)
    (iRsub : PySem.W.isFn K (.ref fRsub) = true)
    (gMul : PySem.W.findIn K (.ref aChance) "__mul__" = some (some (.ref fMul)))
    (lMul : K.lookup fMul = some ⟨ocMul, odMul, .func (PySem.W.fnOf "__mul__" "Chance.__mul__" (defArgs sMul) (defBody sMul) (defScope sMul) .none kVMul dcMul pmMul anMul cdMul ctMul), slMul⟩)
    (cMul0 : PySem.W.codeIn K cdMul "Chance.__mul__" = true)
    (kMul : PySem.W.keepIn K (.ref fMul) = true)
    (iMul : PySem.W.isFn K (.ref fMul) = true)
    (gPow : PySem.W.findIn K (.ref aChance) "__pow__" = some (some (.ref fPow)))
    (lPow : K.lookup fPow = some ⟨ocPow, odPow, .func (PySem.W.fnOf "__pow__" "Chance.__pow__" (defArgs sPow) (defBody sPow) (defScope sPow) .none kVPow dcPow pmPow anPow cdPow ctPow), slPow⟩)
    (cPow0 : PySem.W.codeIn K cdPow "Chance.__pow__" = true)
    (kPow : PySem.W.keepIn K (.ref fPow) = true)
    (iPow : PySem.W.isFn K (.ref fPow) = true)
    (gLt : PySem.W.findIn K (.ref aChance) "__lt__" = some (some (.ref fLt)))
    (lLt : K.lookup fLt = some ⟨ocLt, odLt, .func (PySem.W.fnOf "__lt__" "Chance.__lt__" (defArgs sLt) (defBody sLt) (defScope sLt) .none kVLt dcLt pmLt anLt cdLt ctLt), slLt⟩)
    (cLt0 : PySem.W.codeIn K cdLt "Chance.__lt__" = true)
    (kLt : PySem.W.keepIn K (.ref fLt) = true)
    (iLt : PySem.W.isFn K (.ref fLt) = true)
    (gLe : PySem.W.findIn K (.ref aChance) "__le__" = some (some (.ref fLe)))
    (lLe : K.lookup fLe = some ⟨ocLe, odLe, .func (PySem.W.fnOf "__le__" "Chance.__le__" (defArgs sLe) (defBody sLe) (defScope sLe) .none kVLe dcLe pmLe anLe cdLe ctLe), slLe⟩)
    (cLe0 : PySem.W.codeIn K cdLe "Chance.__le__" = true)
    (kLe : PySem.W.keepIn K (.ref fLe) = true)
    (iLe : PySem.W.isFn K (.ref fLe) = true)
    (gGt : PySem.W.findIn K (.ref aChance) "__gt__" = some (some (.ref fGt)))
    (lGt : K.lookup fGt = some ⟨ocGt, odGt, .func (PySem.W.fnOf "__gt__" "Chance.__gt__" (defArgs sGt) (defBody sGt) (defScope sGt) .none kVGt dcGt pmGt anGt cdGt ctGt), slGt⟩)
    (cGt0 : PySem.W.codeIn K cdGt "Chance.__gt__" = true)
    (kGt : PySem.W.keepIn K (.ref fGt) = true)
    (iGt : PySem.W.isFn K (.ref fGt) = true)
    (gGe : PySem.W.findIn K (.ref aChance) "__ge__" = some (some (.ref fGe)))
    (lGe : K.lookup fGe = some ⟨ocGe, odGe, .func (PySem.W.fnOf "__ge__" "Chance.__ge__" (defArgs sGe) (defBody sGe) (defScope sGe) .none kVGe dcGe pmGe anGe cdGe ctGe), slGe⟩)
    (cGe0 : PySem.W.codeIn K cdGe "Chance.__ge__" = true)
    (kGe : PySem.W.keepIn K (.ref fGe) = true)
    (iGe : PySem.W.isFn K (.ref fGe) = true)
    (gEq : PySem.W.findIn K (.ref aChance) "__eq__" = some (some (.ref fEq)))
    (lEq : K.lookup fEq = some ⟨ocEq, odEq, .func (PySem.W.fnOf "__eq__" "Chance.__eq__" (defArgs sEq) (defBody sEq) (defScope sEq) .none kVEq dcEq pmEq anEq cdEq ctEq), slEq⟩)
    (cEq0 : PySem.W.codeIn K cdEq "Chance.__eq__" = true)
    (kEq : PySem.W.keepIn K (.ref fEq) = true)
    (iEq : PySem.W.isFn K (.ref fEq) = true)
    (gTop : PySem.W.findIn K (.ref aChance) "top" = some (some (.ref pTop)))
    (ggTop : PySem.W.specialIn K (.ref pTop) "__get__" = some (some (.builtin "property.__get__")))
    (tkTop : PySem.W.takesIn K (.ref pTop) = some true)
    (rcTop : PySem.W.recIn K pTop "property" = some (.ref fTop :: rTop))
    (lTop : K.lookup fTop = some ⟨ocTop, odTop, .func (PySem.W.fnOf "top" "Chance.top" (defArgs sTop) (defBody sTop) (defScope sTop) .none kVTop dcTop pmTop anTop cdTop ctTop), slTop⟩)
    (cTop0 : PySem.W.codeIn K cdTop "Chance.top" = true)
    (kTop : PySem.W.keepIn K (.ref fTop) = true)
    (gBot : PySem.W.findIn K (.ref aChance) "bottom" = some (some (.ref pBot)))
    (ggBot : PySem.W.specialIn K (.ref pBot) "__get__" = some (some (.builtin "property.__get__")))
    (tkBot : PySem.W.takesIn K (.ref pBot) = some true)
    (rcBot : PySem.W.recIn K pBot "property" = some (.ref fBot :: rBot))
    (lBot : K.lookup fBot = some ⟨ocBot, odBot, .func (PySem.W.fnOf "bottom" "Chance.bottom" (defArgs sBot) (defBody sBot) (defScope sBot) .none kVBot dcBot pmBot anBot cdBot ctBot), slBot⟩)
    (cBot0 : PySem.W.codeIn K cdBot "Chance.bottom" = true)
    (kBot : PySem.W.keepIn K (.ref fBot) = true)
    (tyC : PySem.W.typeIn K (.ref aChance) = some mc)
    (rdC : PySem.W.readsIn K aChance mc = true)
    (gaC : PySem.W.specialIn K (.ref aChance) "__getattribute__" = some (some (.builtin "type.__getattribute__")))
    (gNev : PySem.W.findCls K (.ref aChance) mc "never" = some (.get (.builtin "staticmethod.__get__") (.ref pNev) .none (.ref aChance)))
    (rcNev : PySem.W.recIn K pNev "staticmethod" = some (.ref fNev :: rNev))
    (lNev : K.lookup fNev = some ⟨ocNev, odNev, .func (PySem.W.fnOf "never" "Chance.never" (defArgs sNev) (defBody sNev) (defScope sNev) .none kVNev dcNev pmNev anNev cdNev ctNev), slNev⟩)
    (cNev0 : PySem.W.codeIn K cdNev "Chance.never" = true)
    (kNev : PySem.W.keepIn K (.ref fNev) = true)
    (gSur : PySem.W.findCls K (.ref aChance) mc "surely" = some (.get (.builtin "staticmethod.__get__") (.ref pSur) .none (.ref aChance)))
    (rcSur : PySem.W.recIn K pSur "staticmethod" = some (.ref fSur :: rSur))
    (lSur : K.lookup fSur = some ⟨ocSur, odSur, .func (PySem.W.fnOf "surely" "Chance.surely" (defArgs sSur) (defBody sSur) (defScope sSur) .none kVSur dcSur pmSur anSur cdSur ctSur), slSur⟩)
    (cSur0 : PySem.W.codeIn K cdSur "Chance.surely" = true)
    (kSur : PySem.W.keepIn K (.ref fSur) = true)
    (tNum0 : K.lookup tNum = some ⟨ocT, dNum, .seq [Value.none].toArray nNum, slN⟩)
    (tInit0 : K.lookup tInit = some ⟨odT, dInit, .seq [Value.int 1 tokI].toArray nInit, slI⟩)
    (pgC : PySem.W.plainGet K aChance Str.empty = true)
    (icC : PySem.W.isClsIn K aChance = true)
    (poC : PySem.W.plainOver K aChance = true)
    (saC : PySem.W.findIn K (.ref aChance) "__setattr__" = some (some (.builtin "object.__setattr__")))
    (mkC : PySem.W.makesIn K aChance = true)
    (kpC : PySem.W.keepIn K (.ref aChance) = true)
    (caC : PySem.W.findIn K (.ref aChance) "__class__" = some (some (.builtin "object.__class__")))
    (cnC : PySem.W.specialIn K (.builtin "object.__class__") "__get__" = some (some (.builtin "getset_descriptor.__get__")))
    (ctC : PySem.W.takesIn K (.builtin "object.__class__") = some true)
    (cmC : PySem.W.mroIn K aChance (.type "object") = some true)
    (s1part : PySem.W.findIn K (.ref aChance) "part" = some (some (.ref p_part)))
    (s2part : PySem.W.specialIn K (.ref p_part) "__get__" = some (some (.builtin "member_descriptor.__get__")))
    (s3part : PySem.W.takesIn K (.ref p_part) = some true)
    (s4part : PySem.W.typeIn K (.ref p_part) = some (.type "member_descriptor"))
    (s5part : PySem.W.slotIn K p_part aChance = some 0)
    (s1whole : PySem.W.findIn K (.ref aChance) "whole" = some (some (.ref p_whole)))
    (s2whole : PySem.W.specialIn K (.ref p_whole) "__get__" = some (some (.builtin "member_descriptor.__get__")))
    (s3whole : PySem.W.takesIn K (.ref p_whole) = some true)
    (s4whole : PySem.W.typeIn K (.ref p_whole) = some (.type "member_descriptor"))
    (s5whole : PySem.W.slotIn K p_whole aChance = some 1)
    (kitC : PySem.W.kitOne K (.ref aChance) (.ref aChance) = some true)
    (sfC : PySem.W.selfFirst K aChance = true)
    (nsub : PySem.W.subIn K (.ref aChance) (.type "int") = some false)
    (isub : PySem.W.subIn K (.type "int") (.ref aChance) = some false)
    (rpow : PySem.W.findIn K (.ref aChance) "__rpow__" = some none)
    (ipow : PySem.W.findIn K (.type "int") "__pow__" = some fo)
    (irpow : PySem.W.findIn K (.type "int") "__rpow__" = some ro)
    (lkC : K.lookup aChance = some (excClassObj nmC qC aChance nsC bsC [.type "object"] hdC snC subC abC colC ddC m0 m1 m2 m3 m5 newC))
    (nokC : PySem.W.nsOkIn K nsC = true)
    (neC1 : PySem.W.nsIn K nsC "__eq__" = some (some (.ref fEq)))
    (neC2 : PySem.W.nsIn K nsC "__ne__" = some none)
    (xE : PySem.W.excIn K aBadChance [.type "ValueError", .type "Exception", .type "BaseException", .type "object"] "ValueError.__new__" = true)
    (fcEq : ocEq = .type "function")
    (kE : PySem.W.keepIn K (.ref aBadChance) = true)
    (bE : PySem.W.subIn K (.ref aBadChance) (.type "BaseException") = some true)
    (tE : PySem.W.typeIn K (.ref aBadChance) = some (.type "type"))
    (e1 : PySem.W.findIn K (.ref aBadChance) "__getattribute__" = some (some (.builtin "BaseException.__getattribute__")))
    (e2 : PySem.W.findIn K (.ref aBadChance) "__getattr__" = some none)
    (e3 : PySem.W.hasDictIn K aBadChance = true)
    (e4 : PySem.W.findIn K (.ref aBadChance) "__class__" = some (some (.builtin "object.__class__")))
    (e5 : PySem.W.mroIn K aBadChance (.type "object") = some true)
    (e6 : PySem.W.subIn K (.ref aBadChance) (.ref aBadChance) = some true)
    (kitH : PySem.W.kitOne K (.ref aBadChance) (.ref aHoleError) = some true)
    (kitV : PySem.W.kitOne K (.ref aBadChance) (.type "ValueError") = some true)
    (zisinstance : PySem.W.nsIn K mainGlobals "isinstance" = some none)
    (zint : PySem.W.nsIn K mainGlobals "int" = some none)
    (zbool : PySem.W.nsIn K mainGlobals "bool" = some none)
    (zlen : PySem.W.nsIn K mainGlobals "len" = some none)
    (zabs : PySem.W.nsIn K mainGlobals "abs" = some none)
    (zmax : PySem.W.nsIn K mainGlobals "max" = some none)
    (zrange : PySem.W.nsIn K mainGlobals "range" = some none)
    (zValueError : PySem.W.nsIn K mainGlobals "ValueError" = some none)
    (nS : K.lookup PS = none)
    (nR : K.lookup PR = none)
    (hS : PySem.W.codeHdIn K cSums PS = true)
    (hR : PySem.W.codeHdIn K cRef PR = true) :
    LamX.LawAtS PySem.Challenge.rw_emptyup_k36_whole_fractions w K CX0 10 63 "_law_script" mg fa h := by
  have e := hfa.symm.trans (PySem.W.mg_of X G gLaw)
  cases e
  have b : Bt mg := ⟨PySem.W.mg_none_of X G zisinstance, PySem.W.mg_none_of X G zint, PySem.W.mg_none_of X G zbool, PySem.W.mg_none_of X G zlen, PySem.W.mg_none_of X G zabs, PySem.W.mg_none_of X G zmax, PySem.W.mg_none_of X G zrange, PySem.W.mg_none_of X G zValueError⟩
  have scl : SlX.SCls K aChance := ⟨pgC, icC, poC, saC⟩
  have fdNum : Def1 K "is_number" "is_number" sNum [.non] fNum := def1_mkD lNum cNum0 kNum (.inr ⟨by simp, tNum, _, [Value.none], _, rfl, tNum0, rfl, .cons rfl .nil⟩)
  have fdInit : Def1 K "__init__" "Chance.__init__" sInit [.int 1] fInit := def1_mkD lInit cInit0 kInit (.inr ⟨by simp, tInit, _, [Value.int 1 tokI], _, rfl, tInit0, rfl, .cons ⟨_, rfl⟩ .nil⟩)
  let a : Ad := ⟨aChance, aBadChance, aHoleError, fNum, fLowest, fInit, pTop, fTop, pBot, fBot, p_part, p_whole⟩
  let o : AdO := ⟨fAdd, fSub, fRsub, fMul, fPow, fLt, fLe, fGt, fGe, fEq, fNev, fSur⟩
  let l : AdL := ⟨fCell, fCommon, fLow, fDrawn, fIs⟩
  have t1 : T1 K mg a := ⟨b, fdNum, PySem.W.mg_of X G gNum, def1_mk lLowest cLowest0 kLowest, PySem.W.mg_of X G gLowest, fdInit, PySem.W.mg_of X G gChance, PySem.W.mg_of X G gBadChance, ⟨mkC, gInit, iInit, kpC⟩, scl, ⟨caC, cnC, ctC, cmC⟩, ⟨s1part, s2part, s3part, s4part, s5part, by decide⟩, ⟨s1whole, s2whole, s3whole, s4whole, s5whole, by decide⟩, xE, kE, bE, tE, def1_mk lTop cTop0 kTop, gTop, ggTop, tkTop, ⟨_, rcTop⟩, def1_mk lBot cBot0 kBot, gBot, ggBot, tkBot, ⟨_, rcBot⟩⟩
  have t2 : T2 K mg a o := ⟨t1, def1_mk lAdd cAdd0 kAdd, def1_mk lSub cSub0 kSub, def1_mk lRsub cRsub0 kRsub, def1_mk lMul cMul0 kMul, def1_mk lPow cPow0 kPow, def1_mk lLt cLt0 kLt, def1_mk lLe cLe0 kLe, def1_mk lGt cGt0 kGt, def1_mk lGe cGe0 kGe, def1_mk lEq cEq0 kEq, def1_mk lNev cNev0 kNev, def1_mk lSur cSur0 kSur, kitC⟩
  have t3 : T3 K mg a o l := ⟨t2, def1_mk lCell cCell0 kCell, PySem.W.mg_of X G gCell, def1_mk lCommon cCommon0 kCommon, PySem.W.mg_of X G gCommon, def1_mk lLow cLow0 kLow, PySem.W.mg_of X G gLow, def1_mk lDrawn cDrawn0 kDrawn, PySem.W.mg_of X G gDrawn, def1_mk lIs cIs0 kIs, PySem.W.mg_of X G gIs, gEq, iEq⟩
  have t4 : T4 K mg a o l fTurns := ⟨t3, def1_mk lTurns cTurns0 kTurns, PySem.W.mg_of X G gTurns, gLt, iLt, gLe, iLe, gGt, iGt, gGe, iGe, ⟨⟨nmC, qC, nsC, bsC, hdC, snC, subC, abC, colC, ddC, m0, m1, m2, m3, m5, newC, lkC, nokC, neC1, neC2⟩, ⟨_, lEq, fcEq⟩⟩⟩
  have t5 : T5 K mg a o l fTurns fAlone pNev pSur mc fo ro none := ⟨t4, def1_mk lAlone cAlone0 kAlone, PySem.W.mg_of X G gAlone, sfC, gAdd, iAdd, gSub, iSub, gMul, iMul, gRsub, iRsub, nsub, ⟨sfC, gPow, iPow, rpow, .inl rfl, ipow, irpow, isub⟩, ⟨rdC, gaC⟩, ⟨gNev, ⟨_, rcNev⟩, kNev⟩, ⟨gSur, ⟨_, rcSur⟩, kSur⟩⟩
  have t6 : T6 K mg a fKind cKind := ⟨⟨⟨_, _, _, _, _, _, _, _, lKind⟩, cKind0, kKind⟩, PySem.W.mg_of X G gKind, PySem.W.mg_of X G gHoleError, ⟨e1, e2, bE, e3, e4, cnC, ctC, e5⟩, kitH, kitV, PySem.W.exm_ref bE e3 tE e6⟩
  have t7 : T7 K mg a o l fTurns fAlone pNev pSur fKind cKind fSums cSums PS PR mc fo ro none := ⟨t5, t6, ⟨⟨_, _, _, _, _, _, _, _, lSums⟩, cSums0, kSums⟩, PySem.W.mg_of X G gSums, nePR⟩
  have t8 : T8 K mg a o l fTurns fAlone pNev pSur fKind cKind fSums cSums PS PR fRef cRef mc fo ro none := ⟨t7, ⟨⟨_, _, _, _, _, _, _, _, lRef⟩, cRef0, kRef⟩, PySem.W.mg_of X G gRef⟩
  have F : FunD K "law" "law" (defArgs sLaw) (defBody sLaw) (defScope sLaw) [] [] fa _ := ⟨⟨_, _, _, _, _, _, _, _, _, _, rfl, lLaw, cLaw0, .inl ⟨rfl, rfl⟩, .inl rfl⟩, kLaw⟩
  refine ⟨_, [(cSums, PS), (cRef, PR)], spLaw K PS PR, fun p hp => ?_, fun p hp => ?_, fun p hp => ?_, fun s u => ?_, fun H a0 ns hl _ hH hS0 => ⟨a0, ns, rfl, hS0, hl, fun p hp => ?_, fun _ => rfl⟩, fun base _ _ TB => ok_law F t8 (TB _ List.mem_cons_self) (TB _ (List.mem_cons_of_mem _ List.mem_cons_self))⟩
  · rcases List.mem_cons.mp hp with z | z
    · rw [z]; exact tS
    · rcases List.mem_cons.mp z with z | z
      · rw [z]; exact tR
      · cases z
  · rcases List.mem_cons.mp hp with z | z
    · rw [z]; exact nS
    · rcases List.mem_cons.mp z with z | z
      · rw [z]; exact nR
      · cases z
  · rcases List.mem_cons.mp hp with z | z
    · rw [z]; exact PySem.W.codeHd_of_K X hS
    · rcases List.mem_cons.mp z with z | z
      · rw [z]; exact PySem.W.codeHd_of_K X hR
      · cases z
  · exact F.bindsA (ps := ["_law_script"]) (fun _ _ _ _ _ _ us hl => match us, hl with | [_], _ => rfl) s [u] rfl
  · rcases List.mem_cons.mp hp with z | z
    · rw [z]; exact LamX.TabS.nil (hH (cSums, PS) List.mem_cons_self)
    · rcases List.mem_cons.mp z with z | z
      · rw [z]; exact LamX.TabS.nil (hH (cRef, PR) (List.mem_cons_of_mem _ List.mem_cons_self))
      · cases z

end K36

end
section
open PySem PySem.W PyProof.Rows
set_option Elab.async false
set_option maxRecDepth 100000 in
set_option maxHeartbeats 0 in
theorem PySem.Challenge.cw_emptyup_k36_whole_fractions_holds : PySem.Challenge.rw_emptyup_k36_whole_fractions.Holds := by
  w_on; o_law; k_head; (case hw => w_witness2)
  k_fill
  refine LamX.walk_ofTs (l := PySem.Challenge.rw_emptyup_k36_whole_fractions) (n := 63) (k := 10) (x := "_law_script") (CX := fun _ => L2.CX0) rfl (by decide) rfl ⟨rfl, by decide, by decide⟩ (fun w h Y => PySem.W.km_in_of Y) ?F (fun _ _ _ _ _ z => z)
  case F =>
    intro w mg fa h Y KX G hmg
    have hTb := PySem.W.km_tabs_of Y
    refine' K36.all_mk KX G hmg (PS := 228) (PR := 249) (hTb _ (by simp)) (hTb _ (by simp)) (by decide) ?gChance ?gBadChance ?gHoleError ?gNum ?lNum ?cNum0 ?kNum ?gLowest ?lLowest ?cLowest0 ?kLowest ?gCell ?lCell ?cCell0 ?kCell ?gCommon ?lCommon ?cCommon0 ?kCommon ?gLow ?lLow ?cLow0 ?kLow ?gDrawn ?lDrawn ?cDrawn0 ?kDrawn ?gIs ?lIs ?cIs0 ?kIs ?gKind ?lKind ?cKind0 ?kKind ?gSums ?lSums ?cSums0 ?kSums ?gTurns ?lTurns ?cTurns0 ?kTurns ?gAlone ?lAlone ?cAlone0 ?kAlone ?gRef ?lRef ?cRef0 ?kRef ?gLaw ?lLaw ?cLaw0 ?kLaw ?gInit ?lInit ?cInit0 ?kInit ?iInit ?gAdd ?lAdd ?cAdd0 ?kAdd ?iAdd ?gSub ?lSub ?cSub0 ?kSub ?iSub ?gRsub ?lRsub ?cRsub0 ?kRsub ?iRsub ?gMul ?lMul ?cMul0 ?kMul ?iMul ?gPow ?lPow ?cPow0 ?kPow ?iPow ?gLt ?lLt ?cLt0 ?kLt ?iLt ?gLe ?lLe ?cLe0 ?kLe ?iLe ?gGt ?lGt ?cGt0 ?kGt ?iGt ?gGe ?lGe ?cGe0 ?kGe ?iGe ?gEq ?lEq ?cEq0 ?kEq ?iEq ?gTop ?ggTop ?tkTop ?rcTop ?lTop ?cTop0 ?kTop ?gBot ?ggBot ?tkBot ?rcBot ?lBot ?cBot0 ?kBot ?tyC ?rdC ?gaC ?gNev ?rcNev ?lNev ?cNev0 ?kNev ?gSur ?rcSur ?lSur ?cSur0 ?kSur ?tNum0 ?tInit0 ?pgC ?icC ?poC ?saC ?mkC ?kpC ?caC ?cnC ?ctC ?cmC ?s1part ?s2part ?s3part ?s4part ?s5part ?s1whole ?s2whole ?s3whole ?s4whole ?s5whole ?kitC ?sfC ?nsub ?isub ?rpow ?ipow ?irpow ?lkC ?nokC ?neC1 ?neC2 ?xE ?fcEq ?kE ?bE ?tE ?e1 ?e2 ?e3 ?e4 ?e5 ?e6 ?kitH ?kitV ?zisinstance ?zint ?zbool ?zlen ?zabs ?zmax ?zrange ?zValueError ?nS ?nR ?hS ?hR
    (case gChance => first | k_is | rfl)
    (case gBadChance => first | k_is | rfl)
    (case gHoleError => first | k_is | rfl)
    (case gNum => first | k_is | rfl)
    (case lNum => first | k_is | rfl)
    (case cNum0 => first | k_is | rfl)
    (case kNum => first | k_is | rfl)
    (case gLowest => first | k_is | rfl)
    (case lLowest => first | k_is | rfl)
    (case cLowest0 => first | k_is | rfl)
    (case kLowest => first | k_is | rfl)
    (case gCell => first | k_is | rfl)
    (case lCell => first | k_is | rfl)
    (case cCell0 => first | k_is | rfl)
    (case kCell => first | k_is | rfl)
    (case gCommon => first | k_is | rfl)
    (case lCommon => first | k_is | rfl)
    (case cCommon0 => first | k_is | rfl)
    (case kCommon => first | k_is | rfl)
    (case gLow => first | k_is | rfl)
    (case lLow => first | k_is | rfl)
    (case cLow0 => first | k_is | rfl)
    (case kLow => first | k_is | rfl)
    (case gDrawn => first | k_is | rfl)
    (case lDrawn => first | k_is | rfl)
    (case cDrawn0 => first | k_is | rfl)
    (case kDrawn => first | k_is | rfl)
    (case gIs => first | k_is | rfl)
    (case lIs => first | k_is | rfl)
    (case cIs0 => first | k_is | rfl)
    (case kIs => first | k_is | rfl)
    (case gKind => first | k_is | rfl)
    (case lKind => first | k_is | rfl)
    (case cKind0 => first | k_is | rfl)
    (case kKind => first | k_is | rfl)
    (case gSums => first | k_is | rfl)
    (case lSums => first | k_is | rfl)
    (case cSums0 => first | k_is | rfl)
    (case kSums => first | k_is | rfl)
    (case gTurns => first | k_is | rfl)
    (case lTurns => first | k_is | rfl)
    (case cTurns0 => first | k_is | rfl)
    (case kTurns => first | k_is | rfl)
    (case gAlone => first | k_is | rfl)
    (case lAlone => first | k_is | rfl)
    (case cAlone0 => first | k_is | rfl)
    (case kAlone => first | k_is | rfl)
    (case gRef => first | k_is | rfl)
    (case lRef => first | k_is | rfl)
    (case cRef0 => first | k_is | rfl)
    (case kRef => first | k_is | rfl)
    (case gLaw => first | k_is | rfl)
    (case lLaw => first | k_is | rfl)
    (case cLaw0 => first | k_is | rfl)
    (case kLaw => first | k_is | rfl)
    (case gInit => first | k_is | rfl)
    (case lInit => first | k_is | rfl)
    (case cInit0 => first | k_is | rfl)
    (case kInit => first | k_is | rfl)
    (case iInit => first | k_is | rfl)
    (case gAdd => first | k_is | rfl)
    (case lAdd => first | k_is | rfl)
    (case cAdd0 => first | k_is | rfl)
    (case kAdd => first | k_is | rfl)
    (case iAdd => first | k_is | rfl)
    (case gSub => first | k_is | rfl)
    (case lSub => first | k_is | rfl)
    (case cSub0 => first | k_is | rfl)
    (case kSub => first | k_is | rfl)
    (case iSub => first | k_is | rfl)
    (case gRsub => first | k_is | rfl)
    (case lRsub => first | k_is | rfl)
    (case cRsub0 => first | k_is | rfl)
    (case kRsub => first | k_is | rfl)
    (case iRsub => first | k_is | rfl)
    (case gMul => first | k_is | rfl)
    (case lMul => first | k_is | rfl)
    (case cMul0 => first | k_is | rfl)
    (case kMul => first | k_is | rfl)
    (case iMul => first | k_is | rfl)
    (case gPow => first | k_is | rfl)
    (case lPow => first | k_is | rfl)
    (case cPow0 => first | k_is | rfl)
    (case kPow => first | k_is | rfl)
    (case iPow => first | k_is | rfl)
    (case gLt => first | k_is | rfl)
    (case lLt => first | k_is | rfl)
    (case cLt0 => first | k_is | rfl)
    (case kLt => first | k_is | rfl)
    (case iLt => first | k_is | rfl)
    (case gLe => first | k_is | rfl)
    (case lLe => first | k_is | rfl)
    (case cLe0 => first | k_is | rfl)
    (case kLe => first | k_is | rfl)
    (case iLe => first | k_is | rfl)
    (case gGt => first | k_is | rfl)
    (case lGt => first | k_is | rfl)
    (case cGt0 => first | k_is | rfl)
    (case kGt => first | k_is | rfl)
    (case iGt => first | k_is | rfl)
    (case gGe => first | k_is | rfl)
    (case lGe => first | k_is | rfl)
    (case cGe0 => first | k_is | rfl)
    (case kGe => first | k_is | rfl)
    (case iGe => first | k_is | rfl)
    (case gEq => first | k_is | rfl)
    (case lEq => first | k_is | rfl)
    (case cEq0 => first | k_is | rfl)
    (case kEq => first | k_is | rfl)
    (case iEq => first | k_is | rfl)
    (case gTop => first | k_is | rfl)
    (case ggTop => first | k_is | rfl)
    (case tkTop => first | k_is | rfl)
    (case rcTop => first | k_is | rfl)
    (case lTop => first | k_is | rfl)
    (case cTop0 => first | k_is | rfl)
    (case kTop => first | k_is | rfl)
    (case gBot => first | k_is | rfl)
    (case ggBot => first | k_is | rfl)
    (case tkBot => first | k_is | rfl)
    (case rcBot => first | k_is | rfl)
    (case lBot => first | k_is | rfl)
    (case cBot0 => first | k_is | rfl)
    (case kBot => first | k_is | rfl)
    (case tyC => first | k_is | rfl)
    (case rdC => first | k_is | rfl)
    (case gaC => first | k_is | rfl)
    (case gNev => first | k_is | rfl)
    (case rcNev => first | k_is | rfl)
    (case lNev => first | k_is | rfl)
    (case cNev0 => first | k_is | rfl)
    (case kNev => first | k_is | rfl)
    (case gSur => first | k_is | rfl)
    (case rcSur => first | k_is | rfl)
    (case lSur => first | k_is | rfl)
    (case cSur0 => first | k_is | rfl)
    (case kSur => first | k_is | rfl)
    (case tNum0 => first | k_is | rfl)
    (case tInit0 => first | k_is | rfl)
    (case pgC => first | k_is | rfl)
    (case icC => first | k_is | rfl)
    (case poC => first | k_is | rfl)
    (case saC => first | k_is | rfl)
    (case mkC => first | k_is | rfl)
    (case kpC => first | k_is | rfl)
    (case caC => first | k_is | rfl)
    (case cnC => first | k_is | rfl)
    (case ctC => first | k_is | rfl)
    (case cmC => first | k_is | rfl)
    (case s1part => first | k_is | rfl)
    (case s2part => first | k_is | rfl)
    (case s3part => first | k_is | rfl)
    (case s4part => first | k_is | rfl)
    (case s5part => first | k_is | rfl)
    (case s1whole => first | k_is | rfl)
    (case s2whole => first | k_is | rfl)
    (case s3whole => first | k_is | rfl)
    (case s4whole => first | k_is | rfl)
    (case s5whole => first | k_is | rfl)
    (case kitC => first | k_is | rfl)
    (case sfC => first | k_is | rfl)
    (case nsub => first | k_is | rfl)
    (case isub => first | k_is | rfl)
    (case rpow => first | k_is | rfl)
    (case ipow => first | k_is | rfl)
    (case irpow => first | k_is | rfl)
    (case lkC => first | k_is | rfl)
    (case nokC => kernel_rfl)
    (case neC1 => first | k_is | rfl)
    (case neC2 => first | k_is | rfl)
    (case xE => kernel_rfl)
    (case fcEq => first | k_is | rfl)
    (case kE => first | k_is | rfl)
    (case bE => first | k_is | rfl)
    (case tE => first | k_is | rfl)
    (case e1 => first | k_is | rfl)
    (case e2 => first | k_is | rfl)
    (case e3 => first | k_is | rfl)
    (case e4 => first | k_is | rfl)
    (case e5 => first | k_is | rfl)
    (case e6 => first | k_is | rfl)
    (case kitH => first | k_is | rfl)
    (case kitV => first | k_is | rfl)
    (case zisinstance => first | k_is | rfl)
    (case zint => first | k_is | rfl)
    (case zbool => first | k_is | rfl)
    (case zlen => first | k_is | rfl)
    (case zabs => first | k_is | rfl)
    (case zmax => first | k_is | rfl)
    (case zrange => first | k_is | rfl)
    (case zValueError => first | k_is | rfl)
    (case nS => first | k_is | rfl)
    (case nR => first | k_is | rfl)
    (case hS => first | k_is | rfl)
    (case hR => first | k_is | rfl)

end
