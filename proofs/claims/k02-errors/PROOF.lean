import PyProof.Rows.All
import Wide.All
import OpenK.AllK
import Wide.FinOn
import HandS.ForMost
import HandS.EndBits
import HandS.Exc
import HandS.ExcOwn
import HandS.ExcInit
import HandS.ExcValue
import KE.KExcIs
import KE.KIsAll
import HandS.ExcField
import PyProof.ReprRoads
import HandS.Evl
import PySem.Challenge.RW_fullestrows_k02_errors
set_option Elab.async false
set_option linter.all false
set_option maxRecDepth 100000
set_option maxHeartbeats 4000000
namespace G39
open PySem PySem.Spec PyProof.Rows L2
/-! whole numbers of many bits -/
theorem bits_of_lt {x : Int} {n : Nat} (h : x.natAbs < 2 ^ n) : Builtin.Int.intBits x ≤ n := by
  unfold Builtin.Int.intBits
  split
  · exact Nat.zero_le _
  · rename_i hx
    have h0 : x.natAbs ≠ 0 := by
      intro e
      apply hx
      have : x = 0 := by omega
      subst this
      rfl
    have := (Nat.log2_lt h0).mpr h
    omega
theorem lt_of_bits {x : Int} {n : Nat} (h : Builtin.Int.intBits x ≤ n) : x.natAbs < 2 ^ n := by
  unfold Builtin.Int.intBits at h
  split at h
  · rename_i hx
    have : x = 0 := by simpa using hx
    subst this
    exact Nat.two_pow_pos n
  · rename_i hx
    have h0 : x.natAbs ≠ 0 := by
      intro e
      apply hx
      have : x = 0 := by omega
      subst this
      rfl
    exact (Nat.log2_lt h0).mp (by omega)
/-- a * cell + a few bits more -/
theorem bits_lin {c m k : Int} (hc : Builtin.Int.intBits c ≤ 1048576) (hm : m.natAbs ≤ 65536) (hk : k.natAbs ≤ 2 ^ 80) : Builtin.Int.intBits (c * m + k) ≤ 1048600 := by
  refine bits_of_lt ?_
  have h1 := lt_of_bits hc
  have h2 : (c * m + k).natAbs ≤ c.natAbs * m.natAbs + k.natAbs := by
    have := Int.natAbs_add_le (c * m) k
    rw [Int.natAbs_mul] at this
    exact this
  have h3 : c.natAbs * m.natAbs ≤ 2 ^ 1048576 * 65536 := Nat.mul_le_mul (Nat.le_of_lt h1) hm
  have e : (2 : Nat) ^ 1048600 = 2 ^ 1048576 * 16777216 := by
    rw [show (1048600 : Nat) = 1048576 + 24 from rfl, Nat.pow_add]
  have h4 : (2 : Nat) ^ 80 ≤ 2 ^ 1048576 := Nat.pow_le_pow_right (by decide) (by decide)
  rw [e]
  generalize (2 : Nat) ^ 1048576 = z at *
  omega
def CPowW (i j : Int) : Prop := 0 ≤ j ∧ (Builtin.Int.intBits i : Int) * j ≤ 2 ^ 27
theorem op_powW {X : Cx} : OpR X (binaryOp .Pow) (rI CPowW fun i j => .int (i ^ j.toNat)) := opI fun _ _ _ _ _ _ _ hc q => PyProof.Rows.pow_int hc.1 hc.2 q
theorem cpow3 {c m k : Int} (hc : Builtin.Int.intBits c ≤ 1048576) (hm : m.natAbs ≤ 65536) (hk : k.natAbs ≤ 2 ^ 80) : CPowW (c * m + k) 3 := by
  refine ⟨by decide, ?_⟩
  have := bits_lin hc hm hk
  generalize Builtin.Int.intBits (c * m + k) = z at *
  omega
end G39

/-! an own error as a value: made by position and by name, its fields read, isinstance -/
namespace G39
open PySem PySem.Spec PyProof.Rows L2
open PySem.HandSPX
section
variable {M : Model} {prog : Program} {w : World} {A : Around} {E : Value → Shared → Prop} {R : Result → Shared → Prop} {h : Heap} {g : Array GenState} {d : Drawn} {t : Nat} {os : OsState}
  {nm q : Str} {C N : Addr} {bs bm bmB : List Value} {hdct : Bool} {sn : List Str} {sub : List Value} {ab : Bool} {col : Option Bool} {dd : Option Addr} {k0 k1 k2 k3 k5 : Option Value} {B newId initId : String}
  {rest : List Value} {kw : List (Str × Value)}
/-- the look ahead of __new__, names in hand -/
theorem kwLook (F : ExcBaseFacts B newId initId bmB) (hT : ∀ X : String, bm.contains (.type X) = bmB.contains (.type X)) {Q : Unit → Shared → Prop}
    (hC : h.get? C = some (excClassObj nm q C N bs bm hdct sn sub ab col dd k0 k1 k2 k3 k5 newId)) (hq : Q () ⟨h, g, d, t, os⟩) : wpAny M A (checkBuiltinCall newId ⟨.ref C :: rest, kw⟩) Q E ⟨h, g, d, t, os⟩ := by
  have c1 : (Value.ref C :: bm).contains (.type B) = true := by
    rw [List.contains_cons, hT, F.hasB, Bool.or_true]
  have c2 := F.noStar
  simp only [checkBuiltinCall, F.newKind, F.newSplit, F.newRow]
  repeat (first
    | refine wpAny_loadPart_at hC ?_
    | (refine wpAny_isSubtype_exc hC ?_; rw [c1])
    | refine wpAny_staticBase_exc hC ?_
    | refine wpAny_madeBy_exc hC ?_
    | simp only [bne_self_eq_false, Bool.false_eq_true, if_false]
    | wp_step)
  exact hq
/-- BaseException.__new__ lays the exception; what comes by name it leaves -/
theorem kwNew (F : ExcBaseFacts B newId initId bmB) (hT : ∀ X : String, bm.contains (.type X) = bmB.contains (.type X))
    (hC : h.get? C = some (excClassObj nm q C N bs bm hdct sn sub ab col dd k0 k1 k2 k3 k5 newId))
    (hq : R (.ok (.ret (.ref (h.objs.size + 1)))) ⟨(h.push (W.kdv_tup rest)).push (excO C h.objs.size), g, d, t, os⟩) (hz : rest.length ≤ sizeLine) :
    codeAny (model prog w) A (.builtin newId ⟨.ref C :: rest, kw⟩) R ⟨h, g, d, t, os⟩ := by
  have e0 := F.ends
  have c1 : (Value.ref C :: bm).contains (.type B) = true := by
    rw [List.contains_cons, hT, F.hasB, Bool.or_true]
  have c2 : (Value.ref C :: bm).contains (.type "AttributeError") = false := by
    rw [List.contains_cons, hT, F.noAttr]
    rfl
  have c3 : (Value.ref C :: bm).contains (.type "NameError") = false := by
    rw [List.contains_cons, hT, F.noName]
    rfl
  refine codeAny_builtinAt F.entry ?_
  unfold Builtin.«BaseException.__new__»
  refine PySem.wpAt_bind ?_
  show PySem.wpAt _ _ _ (stack >>= _) _ _ _
  refine PySem.wpAt_bind (PySem.wpAt_stack fun p below => PySem.wpAt_of_wpAny ?_)
  wp_walk
  refine PySem.wpAt_of_wpAny ?_
  rw [F.owner]
  repeat (first
    | with_reducible refine wpAny_madeHere_exc F.canon hC ?_
    | with_reducible refine wpAny_loadPart_at hC ?_
    | (with_reducible refine wpAny_isSubtype_exc hC ?_; first | rw [c1] | rw [c2] | rw [c3])
    | wp_step)
  show R _ _
  rw [Heap.size_push]
  exact hq
/-- C(.., k = ..): __new__, then the class's own __init__ with the same arguments -/
theorem kwType (F : ExcBaseFacts B newId initId bmB) (hT : ∀ X : String, bm.contains (.type X) = bmB.contains (.type X)) {fI : Addr} {Q : Fin → Shared → Prop}
    (hC : h.get? C = some (excClassObj nm q C N bs bm hdct sn sub ab col dd k0 k1 k2 k3 k5 newId))
    (hi : W.Looks (model prog w) h (typeLookup (.ref C) "__init__") (some (.ref fI))) (hb : ∀ self, W.Looks (model prog w) h (bindSpecial (.ref fI) self) (.ref fI, [self])) (hz : rest.length ≤ sizeLine)
    (hq : codeAny (model prog w) A (.call (.ref fI) ⟨.ref (h.objs.size + 1) :: rest, kw⟩)
      (fun r s' => match r with | .ok (.ret v) => v = .none ∧ Q (.done (.ret (.ref (h.objs.size + 1)))) s' | .ok _ => False | .error e => E e s')
      ⟨(h.push (W.kdv_tup rest)).push (excO C h.objs.size), g, d, t, os⟩) :
    wpAny (model prog w) A (Builtin.«type.__call__» ⟨.ref C :: rest, kw⟩) Q E ⟨h, g, d, t, os⟩ := by
  repeat (first
    | with_reducible refine wpAny_loadPart_at hC ?_
    | with_reducible refine wpAny_madeBy_exc hC ?_
    | wp_step)
  refine codeAny_call_builtin_code (Code.quiet_builtin _ F.quiet) (kwLook F hT hC ?_)
  refine kwNew F hT hC ?_ hz
  show wpAny _ _ _ _ _ _
  have k : ∀ b o, h.get? b = some o → ((h.push (W.kdv_tup rest)).push (excO C h.objs.size)).get? b = some o :=
    fun b o e => Heap.get?_push_of_some _ (Heap.get?_push_of_some _ e)
  have hC1 := k _ _ hC
  have hget : ((h.push (W.kdv_tup rest)).push (excO C h.objs.size)).get? (h.objs.size + 1) = some (excO C h.objs.size) := by
    heap_get
  have hcC : (Value.ref C :: bm).contains (.ref C) = true := by simp
  have i1 := hi.keeps k
  have b1 := (hb (.ref (h.objs.size + 1))).keeps k
  unfold isInstance
  repeat (first
    | with_reducible refine wpAny_loadPart_at hget ?_
    | (with_reducible refine wpAny_isSubtype_exc hC1 ?_; rw [hcC])
    | wp_step)
  show wpAny _ _ (typeLookup (.ref C) _) _ _ _
  refine i1.at ?_
  refine wpAny_holding (wpAny_bind (b1.at ?_))
  refine wpAny_bind (wpAny_call (codeAny_mono hq fun r s' z => ?_))
  rcases r with e | (_ | _ | _ | v)
  all_goals try exact z
  all_goals try exact z.elim
  all_goals
    obtain ⟨rfl, z⟩ := z
    first
      | exact wpAny_pure (wpAny_pure z)
      | (wp_walk; exact z)
theorem kwCall (F : ExcBaseFacts B newId initId bmB) (hT : ∀ X : String, bm.contains (.type X) = bmB.contains (.type X)) {fI : Addr}
    (hC : h.get? C = some (excClassObj nm q C N bs bm hdct sn sub ab col dd k0 k1 k2 k3 k5 newId))
    (hi : W.Looks (model prog w) h (typeLookup (.ref C) "__init__") (some (.ref fI))) (hb : ∀ self, W.Looks (model prog w) h (bindSpecial (.ref fI) self) (.ref fI, [self])) (hz : rest.length ≤ sizeLine)
    (hq : codeAny (model prog w) (A.under (.builtin "type.__call__" ⟨.ref C :: rest, kw⟩)) (.call (.ref fI) ⟨.ref (h.objs.size + 1) :: rest, kw⟩) (W.InitBack (h.objs.size + 1) R)
      ⟨(h.push (W.kdv_tup rest)).push (excO C h.objs.size), g, d, t, os⟩) :
    codeAny (model prog w) A (.call (.ref C) ⟨rest, kw⟩) R ⟨h, g, d, t, os⟩ := by
  have f1 := tc_lookup
  have f2 := tc_bind (.ref C)
  have hTy : (⟨h, g, d, t, os⟩ : Shared).TypeIs (.ref C) "type" := ⟨_, hC, rfl⟩
  refine codeAny_of_tree ?_
  show wpAny _ _ (callAny (.ref C) _) _ _ _
  repeat (any_goals (first | assumption | with_reducible refine wpAny_loadPart_at hC ?_ | wp_step))
  refine ⟨rfl, ?_⟩
  refine codeAny_call_builtin_at (Code.quiet_builtin _ (by decide +kernel)) entry_typeCall ?_
  refine wpAny_check_type_call_sub hC ?_
  refine kwType F hT hC hi hb hz ?_
  refine codeAny_mono hq fun r s' z => ?_
  rcases r with e | (v | _ | _ | _) <;> exact z
end
end G39

namespace G39
open PySem PySem.Spec PyProof.Rows L2
open PySem.HandSPX
section
variable {X : Cx} {CX : CXT} {k : Nat} {C fI : Addr} {fd : FuncData} {ps : List Str} {sp : Sp} {x : Str} {p pos : Pos} {e : Expr} {es : List Expr} {kws : List Keyword} {t tk : TA}
/-- the class is called: an exception is laid, __init__ keeps its promise of it, the exception stays tracked -/
theorem mkx_run {pins : List (Addr × Obj)} {σ : L2.St} {H1 : Hp} {s1 : Shared} {Q : VK} {us ws : List Value} {kw : List (Str × Value)} {vs : List V} (T : OexC X.K C)
    (iC : PySem.W.findIn X.K (.ref C) "__init__" = some (some (.ref fI))) (tI : PySem.W.typeIn X.K (.ref fI) = some (.type "function"))
    (F1 : FnOk X.prog X.w X.K X.mg X.base CX0 k fI fd ps sp) (hr : Room (k + 1) X.A) (I1 : Inv X pins σ H1 s1) (hus : us.length ≤ sizeLine)
    (bt : ∀ (a : Addr) (s' : Shared), X.K.In s'.heap → (Value.ref a :: ws).length = ps.length → BindsTo s' fd ⟨.ref a :: us, kw⟩ (ps.zip (.ref a :: ws))) (rv : Vals vs ws)
    (q1 : ∀ a, H1 a = none → sp (.ref a :: vs) (upd H1 a (exo a C none)) (fun v H2 => v = .non ∧ Q (.ref a) H2) (fun _ _ _ => False)) :
    wpAny (model X.prog X.w) X.A (call (.ref C) us kw) (EP X pins σ Q) X.xe s1 := by
  obtain ⟨nm, q, N, bs, bm, sn, sub, ab, col, dd, k0, k1, k2, k3, k5, hC, hbm⟩ := T.cls
  obtain ⟨hp, g, dr, tk, os⟩ := s1
  have hsz : hp.objs.size ≤ hp.objs.size + 1 := Nat.le_succ _
  have hn : H1 (hp.objs.size + 1) = none := I1.hok.fresh hsz
  have hq := q1 (hp.objs.size + 1) hn
  have kk : ∀ b o, hp.get? b = some o → ((hp.push (PySem.W.kdv_tup us)).push (excO C hp.objs.size)).get? b = some o :=
    fun b o e => Heap.get?_push_of_some _ (Heap.get?_push_of_some _ e)
  have hget : ((hp.push (PySem.W.kdv_tup us)).push (excO C hp.objs.size)).get? (hp.objs.size + 1) = some (excO C hp.objs.size) := by
    heap_get
  have I2 : Inv X pins σ (upd H1 (hp.objs.size + 1) (exo (hp.objs.size + 1) C none)) ⟨(hp.push (PySem.W.kdv_tup us)).push (excO C hp.objs.size), g, dr, tk, os⟩ :=
    I1.laid (t' := tk) kk hsz (exo_ok hget)
  have r2 : Vals (V.ref (hp.objs.size + 1) :: vs) (Value.ref (hp.objs.size + 1) :: ws) := .cons rfl rv
  have hl : (Value.ref (hp.objs.size + 1) :: ws).length = ps.length := by
    have z := r2.length
    rw [F1.len _ _ _ _ hq] at z
    exact z.symm
  have run := F1.run _ X.stack _ _ ⟨Value.ref (hp.objs.size + 1) :: us, kw⟩ _ _ _ (fun _ _ _ => False) (hr.make C us kw) (I2.env0.make C us kw) (bt _ _ I2.kIn hl) r2 hq
  refine wpAny_call (kwCall F.excBase_ValueError (fun Y => refsVE_contains Y bm hbm) (I1.kIn _ _ hC) (PySem.W.looks_findIn I1.kIn iC) (fun self => PySem.W.bind_fn I1.kIn self tI) hus
    (codeAny_mono run fun r s' hq' => ?_))
  cases r with
  | error er => exact hq'.elim
  | ok fl =>
    cases fl with
    | ret u =>
      have z := I2.after hq'
      obtain ⟨v, H2, J, rv2, ev, q2⟩ := z
      subst ev
      exact ⟨rv2, .ref (hp.objs.size + 1), H2, J, rfl, q2⟩
    | next => exact False.elim hq'
    | brk => exact False.elim hq'
    | cont => exact False.elim hq'
/-- C(e, ..) -/
def tMx (C : Addr) (sp : Sp) (ta : TA) : TE := fun σ H Q => ta σ H fun vs H1 => vs.length ≤ 1000 ∧ ∀ a, H1 a = none → sp (.ref a :: vs) (upd H1 a (exo a C none)) (fun v H2 => v = .non ∧ Q (.ref a) H2) (fun _ _ _ => False)
theorem pe_mx (T : OexC X.K C) (iC : PySem.W.findIn X.K (.ref C) "__init__" = some (some (.ref fI))) (tI : PySem.W.typeIn X.K (.ref fI) = some (.type "function"))
    (F1 : FnOk X.prog X.w X.K X.mg X.base CX0 k fI fd ps sp) (hr : Room (k + 1) X.A) (hb : Binds X.K fd ps []) (hg : Gl X x) (hm : X.mg x = some (.ref C)) (ha : PA X (e :: es) t)
    (hdb : (x == ("__debug__" : Str)) = false := by decide) (he : starEach (e :: es) X.env = (false, eval e X.env) :: starEach es X.env := by rfl) (hpl : (backTo pos (starEach es X.env)).any (·.1) = false := by rfl) :
    PE X (.Call (.Name x p) (e :: es) [] pos) (tMx C sp t) := by
  refine ⟨fun pins s σ H Q I h => ?_⟩
  refine wpAny_Call_Name_kw (ld_glob I hg hm ?_ hdb)
  refine PySem.W.callWith_K (h₀ := X.base) I.ok.mod.kin T.kC (thn (ha.run pos pins s σ H _ I h) fun us s1 ⟨vs, H1, I1, r1, hz, q1⟩ => ⟨I1.kIn, ?_⟩) he hpl
  refine mkx_run (us := us) (ws := us) (kw := []) T iC tI F1 hr I1 ?_ (fun a s' K' hl => ?_) r1 q1
  · rw [← Paired.length r1, sizeLine_eq]
    omega
  · have z := hb s' (.ref a :: us) K' (by simpa using hl)
    rw [List.append_nil] at z
    exact z
/-- how names bind behind self: the values ws, by the names ks, come to the parameters as g ws -/
structure XBinds (K : PySem.W.Frag) (fd : FuncData) (ps ks : List Str) (g : List Value → List Value) (gV : List V → List V) : Prop where
  to : ∀ (a : Addr) (s : Shared) (ws : List Value), K.In s.heap → ws.length = ks.length → (Value.ref a :: g ws).length = ps.length → BindsTo s fd ⟨[.ref a], ks.zip ws⟩ (ps.zip (.ref a :: g ws))
  rel : ∀ {zs : List V} {ws : List Value}, Vals zs ws → Vals (gV zs) (g ws)
/-- C(k = e, ..) -/
def tMk (C : Addr) (sp : Sp) (n : Nat) (gV : List V → List V) (ta : TA) : TE := fun σ H Q => ta σ H fun vs H1 => vs.length = n ∧ ∀ a, H1 a = none → sp (.ref a :: gV vs) (upd H1 a (exo a C none)) (fun v H2 => v = .non ∧ Q (.ref a) H2) (fun _ _ _ => False)
theorem pe_mk {ks : List Str} {g : List Value → List Value} {gV : List V → List V} (T : OexC X.K C) (iC : PySem.W.findIn X.K (.ref C) "__init__" = some (some (.ref fI))) (tI : PySem.W.typeIn X.K (.ref fI) = some (.type "function"))
    (F1 : FnOk X.prog X.w X.K X.mg X.base CX0 k fI fd ps sp) (hr : Room (k + 1) X.A) (hb : XBinds X.K fd ps ks g gV) (hg : Gl X x) (hm : X.mg x = some (.ref C)) (hkw : PK X kws tk)
    (hall : (backToKw pos (keywordEach kws X.env)).all (·.1.isSome) = true := by rfl) (hks : (backToKw pos (keywordEach kws X.env)).filterMap (·.1) = ks := by rfl) (hdb : (x == ("__debug__" : Str)) = false := by decide)
    (hpl : ((backTo pos (starEach [] X.env)).any (·.1) || (backToKw pos (keywordEach kws X.env)).any (·.1.isNone)) = false := by rfl) :
    PE X (.Call (.Name x p) [] kws pos) (tMk C sp ks.length gV tk) := by
  refine ⟨fun pins s σ H Q I h => ?_⟩
  refine wpAny_Call_Name_kw (ld_glob I hg hm ?_ hdb)
  refine PySem.W.callWith_KW0 (h₀ := X.base) I.ok.mod.kin T.kC hall (thn (hkw.run pos pins s σ H _ I h) fun ws s1 ⟨zs, H1, I1, rz, hz, q1⟩ => ⟨I1.kIn, ?_⟩) hpl
  rw [hks]
  refine mkx_run (us := []) (ws := g ws) (kw := ks.zip ws) T iC tI F1 hr I1 (by show 0 ≤ _; omega) (fun a s' K' hl => ?_) (hb.rel rz) q1
  exact hb.to a s' ws K' (by rw [← rz.length]; exact hz) hl
/-- C(), a class without an __init__ of its own -/
theorem pe_x0 {bmB : List Value} {B newId initId : String} (F : ExcBaseFacts B newId initId bmB) (q : PySem.W.excIn X.K C bmB newId = true) (gC : X.mg x = some (.ref C)) (kC : PySem.W.keepIn X.K (.ref C) = true) (hg : Gl X x)
    (hdb : (x == ("__debug__" : Str)) = false := by decide) :
    PE X (.Call (.Name x p) [] [] pos) (fun σ H Q => ∀ a, H a = none → Q (.ref a) (upd H a (exo a C none))) := by
  refine ⟨fun pins s σ H Q I h => ?_⟩
  refine wpAny_Call_Name_kw (ld_glob I hg gC ?_ hdb)
  refine PySem.W.callWith_K0 I.kIn kC ?_
  show wpAny _ _ (call (.ref C) []) _ _ _
  obtain ⟨bm, N, nm, qn, bs, hdct, sn, sub, ab, col, dd, k0, k1, k2, k3, k5, mN, hC, hN, hni, T⟩ := exc_obj I.kIn q
  refine wpAny_call_exc_subT F T hC hN hni (fun h' a hm => ?_) (by show 0 ≤ _; omega)
  have hn : H a = none := I.hok.gone hm.new
  obtain ⟨t, ht, _, _⟩ := hm.there
  exact ⟨.ref a, upd H a (exo a C none), I.laidN hm.keeps hm.new hn (exo_ok ht), rfl, h a hn⟩
end
end G39

namespace G39
open PySem PySem.Spec PyProof.Rows L2
open PySem.HandSPX
/-- what the written part says of an own error class, for its fields and for isinstance -/
structure EC (K : PySem.W.Frag) (R C : Addr) : Prop where
  ga : PySem.W.findIn K (.ref C) "__getattribute__" = some (some (.builtin "BaseException.__getattribute__"))
  gg : PySem.W.findIn K (.ref C) "__getattr__" = some none
  hd : PySem.W.hasDictIn K C = true
  ha : PySem.W.findIn K (.ref C) "__class__" = some (some (.builtin "object.__class__"))
  ty : PySem.W.typeIn K (.ref C) = some (.type "type")
  mro : (PySem.W.clsIn K C).map (·.mro) = some [.ref C, .ref R, .type "ValueError", .type "Exception", .type "BaseException", .type "object"]
/-- and of object.__class__ -/
structure OC (K : PySem.W.Frag) : Prop where
  hn : PySem.W.specialIn K (.builtin "object.__class__") "__get__" = some (some (.builtin "getset_descriptor.__get__"))
  ht : PySem.W.takesIn K (.builtin "object.__class__") = some true
section
variable {K : PySem.W.Frag} {R C D : Addr}
theorem EC.cls (T : EC K R C) : ∃ cd, PySem.W.clsIn K C = some cd ∧ cd.mro = [.ref C, .ref R, .type "ValueError", .type "Exception", .type "BaseException", .type "object"] :=
  Option.map_eq_some_iff.mp T.mro
theorem EC.sub (T : EC K R C) (v : Value) : PySem.W.subIn K (.ref C) v = some ([Value.ref C, .ref R, .type "ValueError", .type "Exception", .type "BaseException", .type "object"].contains v) := by
  obtain ⟨cd, h1, h2⟩ := T.cls
  show PySem.W.mroIn K C v = _
  unfold PySem.W.mroIn
  rw [h1, Option.bind_some, h2]
  rfl
theorem EC.base (T : EC K R C) : PySem.W.subIn K (.ref C) (.type "BaseException") = some true := (T.sub _).trans (by
  have e : (Value.type "BaseException" == Value.ref C) = false := rfl
  have f : (Value.type "BaseException" == Value.ref R) = false := rfl
  simp only [List.contains_cons, e, f, Bool.false_or]
  rfl)
theorem EC.obj (T : EC K R C) : PySem.W.mroIn K C (.type "object") = some true := (T.sub (.type "object")).trans (by
  have e : (Value.type "object" == Value.ref C) = false := rfl
  have f : (Value.type "object" == Value.ref R) = false := rfl
  simp only [List.contains_cons, e, f, Bool.false_or]
  rfl)
/-- isinstance(an error of C, another class D): only itself and the common base -/
theorem EC.kit (T : EC K R C) (hD : (PySem.W.clsIn K D).isSome = true) (tD : PySem.W.typeIn K (.ref D) = some (.type "type")) : PySem.W.kitOne K (.ref C) (.ref D) = some (decide (C = D) || decide (R = D)) := by
  unfold PySem.W.kitOne
  by_cases h : C = D
  · subst h
    rw [if_pos (by exact beq_self_eq_true _)]
    simp
  · have n1 : (Value.ref C == Value.ref D) = false := beq_eq_false_iff_ne.mpr fun z => h (Value.ref.inj z)
    rw [if_neg (by rw [n1]; exact Bool.false_ne_true)]
    unfold PySem.W.kitCls
    have e2 : ((PySem.W.clsIn K D).isSome && PySem.W.typeIn K (.ref D) == some (.type "type")) = true := by rw [hD, tD] <;> rfl
    show (if ((PySem.W.clsIn K D).isSome && PySem.W.typeIn K (.ref D) == some (.type "type")) = true then PySem.W.subIn K (.ref C) (.ref D) else none) = _
    rw [if_pos e2, T.sub]
    have n2 : (Value.ref D == Value.ref C) = false := beq_eq_false_iff_ne.mpr fun z => h (Value.ref.inj z).symm
    have n3 : (Value.ref D == Value.ref R) = decide (R = D) := by
      by_cases z : R = D
      · subst z
        simp
      · rw [decide_eq_false z]
        exact beq_eq_false_iff_ne.mpr fun y => z (Value.ref.inj y).symm
    have t1 : ∀ s : String, (Value.ref D == Value.type s) = false := fun _ => rfl
    simp only [List.contains_cons, List.contains_nil, n2, n3, t1, Bool.false_or, Bool.or_false, decide_eq_false h]
theorem EC.kitV (T : EC K R C) : PySem.W.kitOne K (.ref C) (.type "ValueError") = some true := by
  unfold PySem.W.kitOne
  have n1 : (Value.ref C == Value.type "ValueError") = false := rfl
  rw [if_neg (by rw [n1]; exact Bool.false_ne_true)]
  show (if PySem.W.kitMeta "ValueError" = true then PySem.W.subIn K (.ref C) (.type "ValueError") else none) = _
  rw [if_pos (by decide +kernel), T.sub]
  have e : (Value.type "ValueError" == Value.ref C) = false := rfl
  have f : (Value.type "ValueError" == Value.ref R) = false := rfl
  simp only [List.contains_cons, e, f, Bool.false_or]
  rfl
end
section
variable {X : Cx} {R : Addr} {pos : Pos} {e : Expr} {te : TE} {n : Str}
/-- e.f, e a tracked error -/
def tXfl (K : PySem.W.Frag) (R : Addr) (n : Str) (te : TE) : TE := fun σ H Q => te σ H fun x H1 => ∃ (a C d : Addr) (fs : List (Str × V)) (v : V), x = .ref a ∧ EC K R C ∧ PySem.W.findIn K (.ref C) n = some none ∧ H1 a = some (exo a C (some d)) ∧ H1 d = some (exd d fs) ∧ fs.lookup n = some v ∧ Q v H1
theorem pe_xfl (he : PE X e te) (hb : attributeBase e n X.env (eval e X.env) = eval e X.env := by rfl) : PE X (.Attribute e n pos) (tXfl X.K R n te) := by
  refine ⟨fun pins s σ H Q I h => ?_⟩
  refine attr_of hb (thn (he.run pins s σ H _ I h) fun u s1 hh => ?_)
  obtain ⟨x, H1, I1, rx, a, C, d, fs, v, ex, T, hno, ea, ed, l, q⟩ := hh
  subst ex
  obtain rfl : u = Value.ref a := rx
  obtain ⟨t1, ho⟩ := exo_at I1.hok ea
  obtain ⟨mA, hns, hr⟩ := exd_at I1.hok ed
  obtain ⟨od, hod, hl⟩ := lookIn_ns hns
  obtain ⟨u, hu, ru⟩ := RelO.some_of (v := v) (o := mA n) (by rw [← l]; exact hr n)
  have J : PySem.W.InstAt s1.heap a { cls := .ref C, dict := some d, data := .fields #[.ref t1, .none, .none, .none, .bool false, .none] } C (some od) := ⟨ho, rfl, rfl, hod⟩
  exact exc_get I1.kIn J T.ga T.gg T.base (PySem.W.findObj_own T.hd hno rfl (by rw [hl, hu])) (handed_of ru) ⟨v, H1, I1.tok _, ru, q⟩
/-- isinstance(e, c) -/
def rIsX (K : PySem.W.Frag) (R : Addr) : List V → Hp → VK → Prop := fun xs H Q => ∃ (a C : Addr) (d : Option Addr) (c : V) (cv : Value) (b : Bool), xs = [.ref a, c] ∧ EC K R C ∧ H a = some (exo a C d) ∧ (∀ dd, d = some dd → ∃ fs, H dd = some (exd dd fs)) ∧ (∀ u, RelV c u → u = cv) ∧ PySem.W.kitOne K (.ref C) cv = some b ∧ Q (.bl b) H
theorem call_isX (O : OC X.K) : CallR X (.builtin "isinstance") (rIsX X.K R) := by
  intro pins s σ H xs us Q I r h
  obtain ⟨a, C, d, c, cv, b, rfl, T, ea, edd, hcv, ek, q⟩ := h
  cases r with
  | cons rx rr =>
    cases rr with
    | cons rt rn =>
      cases rn
      cases rx
      have ec := hcv _ rt
      subst ec
      obtain ⟨t1, ho⟩ := exo_at I.hok ea
      obtain ⟨cd, hcd, _⟩ := T.cls
      have J : ∃ od, PySem.W.InstAt s.heap a { cls := .ref C, dict := d, data := .fields #[.ref t1, .none, .none, .none, .bool false, .none] } C od := by
        cases d with
        | none => exact ⟨none, ho, rfl, rfl, trivial⟩
        | some dd =>
          obtain ⟨fs, ed⟩ := edd dd rfl
          obtain ⟨mA, hns, hr⟩ := exd_at I.hok ed
          obtain ⟨od, hod, hl⟩ := lookIn_ns hns
          exact ⟨some od, ho, rfl, rfl, hod⟩
      obtain ⟨od, J⟩ := J
      exact PySem.W.kia_one (PySem.W.kitx_exc (by rw [hcd]; rfl) T.ga T.gg T.base T.ha O.hn O.ht T.obj) I.kIn J ek (fun z => nomatch z) fun tk => ⟨.bl b, H, I.kept (t' := tk) fun _ _ z => z, rfl, q⟩
end
end G39

/-! defs that show objects: called where nothing is being shown -/
namespace G39
open PySem PySem.Spec PyProof.Rows L2
/-- the promise of a def, where no repr is under way -/
structure FnG (P : Program) (w : World) (K : PySem.W.Frag) (mg : Str → Option Value) (base : Heap) (k : Nat) (f : Addr) (fd : FuncData) (ps : List Str) (sp : Sp) : Prop where
  len : ∀ vs H Q E, sp vs H Q E → vs.length = ps.length
  run : ∀ (A : Around) (outer : List Env) (s : Shared) (H : Hp) (args : Args) (us : List Value) (vs : List V) (Q : VK) (E : XK), A.guards = some [] → Room k A → Env0 P w K mg base A outer s H →
    BindsTo s fd args (ps.zip us) → Vals vs us → sp vs H Q E → codeAny (model P w) A (.call (.ref f) args) (CR CX0 outer P w H s Q E) s
theorem okG {P : Program} {w : World} {K : PySem.W.Frag} {mg : Str → Option Value} {base : Heap} {x qual : Str} {st : Stmt} {f : Addr} {fd : FuncData} {N ps : List Str} {k : Nat} {sp : Sp} (F : Fun K x qual st f fd)
    (S : FnScope N ps (defScope st)) (len : ∀ vs H Q E, sp vs H Q E → vs.length = ps.length)
    (hbody : ∀ (cdv : Value) (A : Around) (outer : List Env) (s : Shared) (H : Hp) (vs : List V) (Q : VK) (E : XK), A.guards = some [] → Room k (A.deeper (envOfC qual (defScope st) s.heap.objs.size f cdv)) → sp vs H Q E →
      ∃ t, PSs (cxOf CX0 P w K mg base N qual (defScope st) f cdv A outer s H E).nox (defBody st) t ∧ t { nx := fun _ H' => Q .non H', rt := Q } (start N vs) H) : FnG P w K mg base (k + 1) f fd ps sp := by
  obtain ⟨oc, od, kV, doc, pm, an, cdv, ct, osl, rfl, lk, hcd⟩ := F.ex
  refine ⟨len, fun A outer s H args us vs Q E hG hr e0 hb r hsp => ?_⟩
  have hl := len _ _ _ _ hsp
  have KX : K.In s.heap := e0.mod.kin.keeps fun b o e => (e0.bs b o e).1
  have lim : s.heap.NoLimit := e0.mod.nolimit.keeps fun b o e => (e0.bs b o e).1
  refine codeAny_call_function hr.depth (KX _ _ lk) rfl S.co S.gen rfl (PySem.W.codeRec_of KX hcd) (hb _ _ _ _ ?_)
  refine wpAny_newFunctionEnv_cells S.kind (fun ⟨n, v⟩ hy => ?_) fun env he s1 x1 => ?_
  · rcases S.par n (List.of_mem_zip hy).1 with q | q
    · exact .inl q
    · exact .inr ⟨q, PySem.W.cellsFrom_some _ _ _ (.inl q)⟩
  subst he
  refine ⟨lim.keeps x1.toInCall.keep, codeAny_func ?_⟩
  obtain ⟨t, ht, hq⟩ := hbody cdv A outer s H vs Q E hG (hr.deeper _) hsp
  have I : Inv (cxOf CX0 P w K mg base N qual (defScope st) f cdv A outer s H E) [] (start N vs) H s1 := inv_start S hr.hd e0 hl r x1
  refine wpAny_mono (ht.nox.run [] s1 (start N vs) H _ I hq) (fun fl s' hs => ?_) fun e s' hs => hs
  cases fl with
  | ret u =>
    obtain ⟨v, σ', H', J, rv, q⟩ := hs
    exact ⟨v, H', J.os, J.bare, J.base, J.hok, rv, q⟩
  | next =>
    obtain ⟨σ', H', J, q⟩ := hs
    exact ⟨V.non, H', J.os, J.bare, J.base, J.hok, rfl, q⟩
  | brk =>
    obtain ⟨_, _, _, q⟩ := hs
    exact False.elim q
  | cont =>
    obtain ⟨_, _, _, q⟩ := hs
    exact False.elim q
section
variable {X : Cx} {k : Nat} {f : Addr} {fd : FuncData} {ps : List Str} {sp : Sp} {x : Str} {p pos : Pos} {e : Expr} {es : List Expr} {t : TA}
/-- f(e, ..) of such a def -/
theorem pe_callG (F : FnG X.prog X.w X.K X.mg X.base k f fd ps sp) (hG : X.A.guards = some []) (hr : Room k X.A) (hg : Gl X x) (hm : X.mg x = some (.ref f)) (hk : PySem.W.keepIn X.K (.ref f) = true) (hb : Binds X.K fd ps [])
    (ha : PA X (e :: es) t) (hdb : (x == ("__debug__" : Str)) = false := by decide) (he : starEach (e :: es) X.env = (false, eval e X.env) :: starEach es X.env := by rfl) (hpl : (backTo pos (starEach es X.env)).any (·.1) = false := by rfl) :
    PE X (.Call (.Name x p) (e :: es) [] pos) (tCall sp [] E0 t) := by
  refine ⟨fun pins s σ H Q I h => ?_⟩
  refine wpAny_Call_Name_kw (ld_glob I hg hm ?_ hdb)
  refine PySem.W.callWith_K (h₀ := X.base) I.ok.mod.kin hk (thn (ha.run pos pins s σ H _ I h) fun us s1 ⟨vs, H1, I1, r, q⟩ => ⟨I1.kIn, ?_⟩) he hpl
  have q' : sp vs H1 Q E0 := by
    have z : sp (vs ++ []) H1 Q E0 := q
    rwa [List.append_nil] at z
  have hl : us.length = ps.length := by
    rw [← r.length]
    exact F.len _ _ _ _ q'
  have hb' := hb s1 us I1.kIn (by rw [List.append_nil]; exact hl)
  rw [List.append_nil] at hb'
  refine wpAny_call (codeAny_mono (F.run X.A X.stack s1 H1 ⟨us, []⟩ us vs Q E0 hG hr I1.env0 hb' r q') fun r s' hq => ?_)
  cases r with
  | error er => exact hq.elim
  | ok fl =>
    cases fl with
    | ret u => exact I1.after hq
    | next => exact False.elim hq
    | brk => exact False.elim hq
    | cont => exact False.elim hq
end
/-- the law's own call -/
theorem lawG {P : Program} {w : World} {K : PySem.W.Frag} {mg mb : Str → Option Value} {k : Nat} {fa a : Addr} {fd : FuncData} {x : Str} {sp : Sp} {s₁ : Shared} {vs : List Value} {ns : List Int}
    (KX : K.In s₁.heap) (hns : s₁.heap.Ns mainGlobals mg) (hb : s₁.heap.Ns builtinsNs mb) (hbb : ∀ x : Str, x ≠ "__name__" → mb x = bootBuiltins x) (hlim : s₁.heap.NoLimit) (hg : s₁.gens = #[])
    (ha : s₁.heap.get? a = some { cls := .type "list", data := .seq vs.toArray }) (hi : IntsAre vs ns) (hl : ns.length ≤ sizeLine) (hr : Room k callerA)
    (F : ∀ base : Heap, K.In base → base.Ns mainGlobals mg → FnG P w K mg base k fa fd [x] sp) (hbind : ∀ (s : Shared) (u : Value), BindsTo s fd ⟨[u], []⟩ [(x, u)])
    (hsp : ∀ H : Hp, Only H → SqL K H a (ns.map V.int) → sp [.ref a] H (fun v _ => v = .bl true) fun _ _ _ => False) :
    codeAny (model P w) callerA (.call (.ref fa) ⟨[.ref a], []⟩) (fun r s' => r = .ok (.ret (.bool true)) ∧ OldK s₁.heap s'.heap ∧ s'.os = s₁.os ∧ AllBare s'.gens) s₁ := by
  have rv := vals_ints hi
  have lenV := hi.length
  have core : ∀ H : Hp, Only H → SqL K H a (ns.map V.int) → HOk P w H s₁.heap → (∀ b, H b ≠ none → b = a) → (H a ≠ none → K.lookup a = none) →
      codeAny (model P w) callerA (.call (.ref fa) ⟨[.ref a], []⟩) (fun r s' => r = .ok (.ret (.bool true)) ∧ OldK s₁.heap s'.heap ∧ s'.os = s₁.os ∧ AllBare s'.gens) s₁ := by
    intro H hO hS hok hA hK
    have free : ∀ {b : Addr} {o : Obj} {es : Array DictEntry} {ep : Nat}, s₁.heap.get? b = some o → o.data = .dict es ep → H b = none := fun {b o es ep} e d => by
      cases q : H b with
      | none => rfl
      | some u =>
        obtain rfl : b = a := hA b (by rw [q]; simp)
        rw [ha] at e
        cases e
        have d' : Data.seq vs.toArray _ = Data.dict es ep := d
        cases d'
    have nsK : ∀ {b : Addr} {m : Str → Option Value}, s₁.heap.Ns b m → (hidT s₁.heap H).Ns b m := fun {b m} ⟨o, es, ep, e, d, r⟩ => ⟨o, es, ep, hidT_get e (free e d), d, r⟩
    have hKb : K.In (hidT s₁.heap H) := fun b o e => hidT_get (KX b o e) (by
      cases q : H b with
      | none => rfl
      | some u =>
        obtain rfl : b = a := hA b (by rw [q]; simp)
        rw [hK (by rw [q]; simp)] at e
        cases e)
    have hM : Mod K mg (hidT s₁.heap H) := ⟨hKb, nsK hns, ⟨mb, nsK hb, hbb⟩, let ⟨mc, h1, h2⟩ := hlim; ⟨mc, nsK h1, h2⟩⟩
    have e0 : Env0 P w K mg (hidT s₁.heap H) callerA [] s₁ H :=
      ⟨rfl, hM, fun b o e => of_hidT e, Nat.le_of_eq (hidT_size _ _), trivial, fun b hb => absurd (show b ∈ ([] : List Addr) from hb) (by simp), hok, .of_eq hg⟩
    have run := (F _ hKb (nsK hns)).run callerA [] s₁ H ⟨[.ref a], []⟩ [.ref a] [.ref a] _ _ rfl hr e0 (hbind s₁ (.ref a)) (.cons rfl .nil) (hsp H hO hS)
    refine codeAny_mono run fun r s' h => ?_
    rcases r with er | (_ | _ | _ | u)
    all_goals try exact False.elim h
    all_goals
      obtain ⟨v, H', os, bare, un, hok', r', q⟩ := h
      have q' : v = .bl true := q
      subst q'
      cases r'
      refine ⟨rfl, OldK.of_keep fun b o e => ?_, os, bare⟩
      cases q : H b with
      | none => exact un.keep b o e q (fun z => absurd (show b ∈ ([] : List Addr) from z) (by simp)) (by simp)
      | some u =>
        rcases hO b with z | ⟨ob, xs, z⟩
        · rw [q] at z
          cases z
        · have z2 := un.frzs b ob _ z
          obtain ⟨e1, _⟩ := hok b _ z
          obtain ⟨e2, _⟩ := hok' b _ z2
          rw [e] at e1
          cases e1
          exact e2
  cases hk : K.lookup a with
  | some o =>
    have e := KX a o hk
    rw [ha] at e
    cases e
    refine core (fun _ => none) (fun _ => .inl rfl) (.inr ⟨_, vs.toArray, _, hk, rfl, rfl, rfl, by rw [List.size_toArray, lenV]; exact hl, by simpa using rv⟩) (fun b u z => ?_) (fun b z => absurd rfl z) fun z => absurd rfl z
    have z' : (none : Option HO) = some u := z
    cases z'
  | none =>
    let Hs : Hp := fun b => if b = a then some (.frz { cls := .type "list", data := .seq vs.toArray } (.lst (ns.map V.int))) else none
    have hs : Hs a = some (.frz { cls := .type "list", data := .seq vs.toArray } (.lst (ns.map V.int))) := if_pos rfl
    have hnn : ∀ b, b ≠ a → Hs b = none := fun b z => if_neg z
    refine core Hs (fun b => ?_) (.inl (.inr ⟨_, hs⟩)) (fun b u z => ?_) (fun b z => ?_) fun _ => hk
    · by_cases hb : b = a
      · exact .inr ⟨_, _, by rw [hb]; exact hs⟩
      · exact .inl (hnn b hb)
    · by_cases hb : b = a
      · subst hb
        rw [hs] at z
        cases z
        exact ⟨ha, by rw [List.length_map]; exact hl, vs, _, rv, ha⟩
      · rw [hnn b hb] at z
        cases z
    · by_cases hb : b = a
      · exact hb
      · exact absurd (hnn b hb) z
theorem walkG {l : PySem.W.OpenLaw} {n k : Nat} {q : Program} {loose : List Str} {XP : (Str → Option Value) → Heap → Prop} {YP : World → Heap → Prop} {d : DefRec} {K : Params → PySem.W.Frag} {sp : World → Sp} {x : Str}
    (hn : l.most = some n) (hn2 : n ≤ sizeLine) (hdf : d.params.defaults = []) (hr : Room k callerA) (hY : ∀ (w : World) (h : Heap), YP w h → (K w.params).In h)
    (F : ∀ (w : World) (mg : Str → Option Value) (fa : Addr) (h : Heap), (K w.params).In h → h.Ns mainGlobals mg → mg d.name = some (.ref fa) →
      ∃ fd : FuncData, (∀ (s : Shared) (u : Value), BindsTo s fd ⟨[u], []⟩ [(x, u)]) ∧ ∀ base : Heap, (K w.params).In base → base.Ns mainGlobals mg → FnG l.prog w (K w.params) mg base k fa fd [x] (sp w))
    (hsp : ∀ (w : World) (H : Hp) (a : Addr) (ns : List Int), ns.length ≤ n → (∀ z ∈ ns, Builtin.Int.intBits z ≤ 1048576) → Only H → SqL (K w.params) H a (ns.map V.int) → sp w [.ref a] H (fun v _ => v = .bl true) fun _ _ _ => False) :
    PySem.W.WalkO q loose XP YP l.row.toRowW d [] (fun f vs => PySem.call f vs) := by
  refine Att.attach_callB hn hdf fun w s₀ s₁ mg mb fa o pm cd doc a vs ns G Y ho hd hcd hmg hobj hints hlen hbits hg => ?_
  have KX := hY w _ Y
  obtain ⟨fd, hb, hF⟩ := F w mg fa _ KX G.T.g hmg
  exact lawG KX G.T.g G.T.b G.T.builtins G.T.nolimit hg hobj hints (Nat.le_trans hlen hn2) hr hF hb fun H hO hS => hsp w H a ns hlen hbits hO hS
end G39

namespace G39
open PySem PySem.Spec PyProof.Rows L2
/-- what repr may be asked of: plain data, or a dict of one pair of texts -/
def Shw (K : PySem.W.Frag) (H : Hp) (v : V) (d : PyData) : Prop :=
  (Dp K H v d ∧ d.hasDict = false) ∨ ∃ (p : Addr) (x y : Str), v = .ref p ∧ H p = some (.dK [(.inr x, .str y)]) ∧ d = .dict [(.str x, .str y)]
/-- its size -/
def Fit (d : PyData) : Prop := d.showable = true ∧ d.depth ≤ 8 ∧ d.shown.length ≤ 1000 ∧ (∀ i, d = .int i → i.natAbs.log2 < 1920)
def rRepr (K : PySem.W.Frag) : List V → Hp → VK → Prop := fun xs H Q => ∃ (v : V) (d : PyData), xs = [v] ∧ Shw K H v d ∧ Fit d ∧ Q (.str d.shown) H
theorem Shw.reads {X : Cx} {pins : List (Addr × Obj)} {σ : L2.St} {H : Hp} {s : Shared} (I : Inv X pins σ H s) {v : V} {d : PyData} {u : Value} (h : Shw X.K H v d) (r : RelV v u) :
    ∃ as, Reads s.heap u d as ∧ (d.hasDict = true → sysModules ∉ as) := by
  rcases h with ⟨h, nd⟩ | ⟨p, x, y, rfl, hp, rfl⟩
  · obtain ⟨as, q⟩ := Dp.reads I d v u h r
    exact ⟨as, q, PyData.noDict_hsm nd⟩
  · cases r
    obtain ⟨_, ns, vs, kv, o, es, ep, ho, hx, hd, _, ps, _⟩ := I.hok p _ hp
    cases kv with
    | cons k1 k2 =>
      cases k2
      obtain ⟨ek, rvv⟩ := k1
      generalize hes : es.toList = el at ps
      cases ps with
      | @cons e kv' es' kvs' h1 h2 h3 =>
        cases h3
        have hk : e.key = .str x (match e.key with | .str _ t => t | _ => default) := by
          rw [← ek] at h1
          have h1' : keyIs (.inr x) e.key = true := h1
          rcases keyIs_shape h1' with ⟨i, t, z, _⟩ | ⟨z, t, e1, e2⟩
          · cases z
          · cases e1
            rw [e2]
        obtain ⟨t2, e2⟩ := rvv
        refine ⟨_, Reads.dict ho hx.1 hd (as := [] ++ []) (bs := [] ++ []) ?_ ?_, fun _ => ?_⟩
        · rw [hes]
          show ReadsAll _ [e.key] [.str x] _
          rw [hk]
          exact .cons (.str _ _) .nil
        · rw [hes]
          show ReadsAll _ [e.val] [.str y] _
          rw [h2, e2]
          exact .cons (.str _ _) .nil
        · intro z
          have z' : sysModules = p := by simpa using z
          rw [z'] at ns
          simp at ns
theorem call_repr {X : Cx} {k : Nat} (hG : X.A.guards = some []) (hr : Room k X.A) : CallR X (.builtin "repr") (rRepr X.K) := by
  intro pins s σ H xs us Q I r h
  obtain ⟨v, d, rfl, hs, ⟨f1, f2, f3, f4⟩, q⟩ := h
  cases r with
  | cons r1 r2 =>
    cases r2
    rename_i u
    have hsz : d.shown.length ≤ sizeLine := by
      rw [sizeLine_eq]
      omega
    obtain ⟨as, rd, hsm⟩ := hs.reads I r1
    have un := hr.un
    cases rd with
    | none => exact PySem.P.repr_of_none ⟨.str _, H, I.tok _, ⟨_, rfl⟩, q⟩
    | bool b => exact PySem.P.repr_of_bool ⟨.str _, H, I.tok _, ⟨_, rfl⟩, q⟩
    | int i t => exact PySem.P.repr_of_int (f4 i rfl) ⟨.str _, H, I.tok _, ⟨_, rfl⟩, q⟩
    | str x t => exact PySem.P.repr_of_str ⟨.str _, H, I.tok _, ⟨_, rfl⟩, q⟩ hsz
    | list h1 h2 h3 h4 => exact repr_of_reads' (.list h1 h2 h3 h4) f1 hsm hG (by omega) (fun _ _ e => e) (fun h' u tk hk => ⟨.str _, H, I.kept (t' := tk) hk, ⟨_, rfl⟩, q⟩) hsz
    | tuple h1 h2 h3 h4 => exact repr_of_reads' (.tuple h1 h2 h3 h4) f1 hsm hG (by omega) (fun _ _ e => e) (fun h' u tk hk => ⟨.str _, H, I.kept (t' := tk) hk, ⟨_, rfl⟩, q⟩) hsz
    | dict h1 h2 h3 h4 h5 => exact repr_of_reads' (.dict h1 h2 h3 h4 h5) f1 hsm hG (by omega) (fun _ _ e => e) (fun h' u tk hk => ⟨.str _, H, I.kept (t' := tk) hk, ⟨_, rfl⟩, q⟩) hsz
theorem call_reprK {X : Cx} {K : PySem.W.Frag} {k : Nat} (hK : X.K = K) (hG : X.A.guards = some []) (hr : Room k X.A) : CallR X (.builtin "repr") (rRepr K) := by
  subst hK
  exact call_repr hG hr
end G39

namespace G39
open PySem PySem.Spec PyProof.Rows L2 Evl
def topS (i : Nat) : Stmt := PySem.Challenge.pw_fullestrows_k02_errors.main.body.getD i (.Pass ⟨0, 0, 0, 0⟩)
/-- a def of the text as callers see it -/
structure DefAt (K : PySem.W.Frag) (mg : Str → Option Value) (x : Str) (st : Stmt) (ps : List Str) (f : Addr) (fd : FuncData) : Prop where
  g : mg x = some (.ref f)
  F : Fun K x x st f fd
  b : Binds K fd ps []
abbrev sSource : Stmt := topS 27
abbrev sDraw : Stmt := topS 28
abbrev sValue : Stmt := topS 29
theorem scSource : FnScope ["_law_cell"] ["_law_cell"] (defScope sSource) := ⟨rfl, rfl, rfl, by decide +kernel, rfl, by decide +kernel, by decide +kernel⟩
theorem scDraw : FnScope ["_law_source_here", "_law_limit", "_law_digit", "_law_mixed"] ["_law_source_here", "_law_limit"] (defScope sDraw) := ⟨rfl, rfl, rfl, by decide +kernel, rfl, by decide +kernel, by decide +kernel⟩
theorem scValue : FnScope ["_law_source_here"] ["_law_source_here"] (defScope sValue) := ⟨rfl, rfl, rfl, by decide +kernel, rfl, by decide +kernel, by decide +kernel⟩
/-- the source of draws at sa: at most n of them so far -/
def Src (H : Hp) (sa : Addr) (n : Nat) : Prop := ∃ (cell cur : Int) (c : Nat), H sa = some (.lst [.int cell, .int cur, .int c]) ∧ c ≤ n ∧ Builtin.Int.intBits cell ≤ 1048576
/-- all but the object at a stays -/
def XB (a : Addr) (H H' : Hp) : Prop := ∀ b o, b ≠ a → H b = some o → H' b = some o
theorem XB.refl (a : Addr) (H : Hp) : XB a H H := fun _ _ _ h => h
theorem XB.trans {a : Addr} {H H1 H2 : Hp} (x : XB a H H1) (y : XB a H1 H2) : XB a H H2 := fun b o n h => y b o n (x b o n h)
theorem XB.ex {a : Addr} {H H1 : Hp} (x : Ex H H1) : XB a H H1 := fun b o _ h => x b o h
theorem XB.upd {a : Addr} {H : Hp} {o : HO} : XB a H (L2.upd H a o) := fun b u n h => by
  rw [upd_ne n]
  exact h
def spSource : Sp := fun vs H Q _ => ∃ cell : Int, vs = [.int cell] ∧ Builtin.Int.intBits cell ≤ 1048576 ∧ ∀ p H', H p = none → Ex H H' → Src H' p 0 → Q (.ref p) H'
def spDraw : Sp := fun vs H Q _ => ∃ (sa : Addr) (n : Nat) (lim : Int), vs = [.ref sa, .int lim] ∧ Src H sa n ∧ n ≤ 1000000 ∧ 0 < lim ∧ lim ≤ 1000000 ∧
  ∀ (v : Int) H', 0 ≤ v → v < lim → XB sa H H' → Src H' sa (n + 1) → Q (.int v) H'
section
variable {P : Program} {w : World} {K : PySem.W.Frag} {mg : Str → Option Value} {base : Heap}
theorem ok_source {f : Addr} {fd : FuncData} (F : Fun K "_law_source" "_law_source" sSource f fd) : FnOk P w K mg base CX0 1 f fd ["_law_cell"] spSource := by
  refine F.ok scSource (fun vs H Q E h => ?_) (fun cdv A outer s H vs Q E hr h => ?_)
  · obtain ⟨cell, rfl, _⟩ := h
    rfl
  · obtain ⟨cell, rfl, hb, k⟩ := h
    refine ⟨_, pss_one (ps_ret (pe_lst (pa_cons (pv 0) (pa_cons (pv 0) (pa_cons pe_int pa_nil))))), ?_⟩
    refine ⟨_, rfl, _, rfl, (by show 3 ≤ sizeLine; decide), fun p np => ?_⟩
    exact k p _ np (Ex.new np) ⟨cell, cell, 0, upd_same, Nat.le_refl _, hb⟩
end
end G39

namespace G39
open PySem PySem.Spec PyProof.Rows L2 Evl
theorem rc_int {H : Hp} {i : Int} : RC (fun xs H Q => (∃ i, xs = [.int i] ∧ Q (.int i) H) ∨ ∃ k, xs = [.bl k] ∧ Q (.int (if k then 1 else 0)) H) [.int i] H (.int i) :=
  fun H1 _ _ q => .inl ⟨i, rfl, q H1 (Ex.refl H1)⟩
theorem ev_int {σ : L2.St} {H : Hp} {te : TE} {i : Int} (h : Ev te σ H (.int i)) : Ev (tCB (fun xs H Q => (∃ i, xs = [.int i] ∧ Q (.int i) H) ∨ ∃ k, xs = [.bl k] ∧ Q (.int (if k then 1 else 0)) H) (tCons te tNil)) σ H (.int i) :=
  ev_cb (ea_cons h ea_nil) rc_int
theorem ev_ixL {K : PySem.W.Frag} {σ : L2.St} {H : Hp} {p : Addr} {xs : List V} {i : Nat} {j : Nat} {v : V} (hs : σ[i]? = some (some (.ref p))) (h : H p = some (.lst xs)) (hx : xs[j]? = some v) : Ev (tOp (rIxL K) (tVar i) (tC (.int (j : Int)))) σ H v :=
  ev_op (ev_var hs) ev_c (rv_ixL (sq_of h) (atI_nat hx))
section
variable {P : Program} {w : World} {K : PySem.W.Frag} {mg : Str → Option Value} {base : Heap}
theorem ok_draw {f : Addr} {fd : FuncData} (mInt : mg "int" = none) (F : Fun K "_law_draw" "_law_draw" sDraw f fd) : FnOk P w K mg base CX0 1 f fd ["_law_source_here", "_law_limit"] spDraw := by
  refine F.ok scDraw (fun vs H Q E h => ?_) (fun cdv A outer s H vs Q E hr h => ?_)
  · obtain ⟨sa, n, lim, rfl, _⟩ := h
    rfl
  · obtain ⟨sa, n, lim, rfl, ⟨cell, cur, c, hs, hc, hb⟩, hn, hl0, hl1, k⟩ := h
    refine ⟨_, pss_cons (ps_asg (pe_op op_add (pe_ix ix_list (pv 0) pe_int (fun _ _ => rfl)) pe_int) (pg_sub (pv 0) pe_int set_list))
      (pss_cons (ps_if (pt_cmpR op_ge (pe_ix ix_list (pv 0) pe_int (fun _ _ => rfl)) (pe_op op_powW pe_int pe_int) (nomark _))
          (pss_cons (ps_set (i := 2) scDraw.nd rfl (Or.inl rfl) (pe_op op_mod (pe_callTy call_int1 (by rfl) mInt PyProof.Rows.boot_int (pa_cons (pe_ix ix_list (pv 0) pe_int (fun _ _ => rfl)) pa_nil)) (pv 1)))
          (pss_cons (ps_asg (pe_op op_fdiv (pe_ix ix_list (pv 0) pe_int (fun _ _ => rfl)) (pv 1)) (pg_sub (pv 0) pe_int set_list))
          (pss_one (ps_ret (pv 2))))) pss_nil)
      (pss_cons (ps_set (i := 3) scDraw.nd rfl (Or.inl rfl) (pe_op op_mod (pe_callTy call_int1 (by rfl) mInt PyProof.Rows.boot_int (pa_cons (pe_op op_powW (pe_callTy call_int1 (by rfl) mInt PyProof.Rows.boot_int (pa_cons
          (pe_op op_add (pe_op op_add (pe_op op_mul (pe_callTy call_int1 (by rfl) mInt PyProof.Rows.boot_int (pa_cons (pe_ix ix_list (pv 0) pe_int (fun _ _ => rfl)) pa_nil)) pe_int)
            (pe_op op_mul (pe_ix ix_list (pv 0) pe_int (fun _ _ => rfl)) pe_int)) pe_int) pa_nil)) pe_int) pa_nil)) pe_int))
      (pss_cons (ps_set (i := 3) scDraw.nd rfl (Or.inl rfl) (pe_op op_mod (pe_callTy call_int1 (by rfl) mInt PyProof.Rows.boot_int (pa_cons (pe_op op_powW (pe_callTy call_int1 (by rfl) mInt PyProof.Rows.boot_int (pa_cons
          (pe_op op_add (pv 3) (pe_op op_mul (pe_op op_mul (pe_ix ix_list (pv 0) pe_int (fun _ _ => rfl)) (pe_ix ix_list (pv 0) pe_int (fun _ _ => rfl))) pe_int)) pa_nil)) pe_int) pa_nil)) pe_int))
      (pss_one (ps_ret (pe_op op_mod (pe_op op_fdiv (pv 3) pe_int) (pv 1))))))), ?_⟩
    -- the counter goes up
    refine q_setL (j := 2) hs (ev_op (ev_ixL (j := 2) rfl hs rfl) ev_c rv_I0) (ev_var rfl) ev_c (by show 2 < 3; decide) fun H1 e1 => ?_
    generalize hH2 : upd H1 sa (.lst ([V.int cell, V.int cur, V.int (c : Int)].set 2 (V.int ((c : Int) + 1)))) = H2
    have h1 : H2 sa = some (.lst [.int cell, .int cur, .int ((c : Int) + 1)]) := by
      rw [← hH2]
      exact upd_same
    have x1 : XB sa H H2 := by
      rw [← hH2]
      exact (XB.ex e1).trans XB.upd
    refine q_when (et_test (ev_op (ev_ixL (j := 0) rfl h1 rfl) (ev_op ev_c ev_c (rv_I ⟨by decide, by decide⟩)) rv_I0)) (fun _ H3 e3 => ?_) (fun _ H3 e3 => ?_)
    · have h3 := e3 sa _ h1
      refine q_asg (ev_op (ev_int (ev_ixL (j := 1) rfl h3 rfl)) (ev_var rfl) (rv_I hl0)) fun H4 e4 => ?_
      have h4 := e4 sa _ h3
      refine q_setL (j := 1) h4 (ev_op (ev_ixL (j := 1) rfl h4 rfl) (ev_var rfl) (rv_I ⟨hl0, by omega⟩)) (ev_var rfl) ev_c (by show 1 < 3; decide) fun H5 e5 => ?_
      refine s_ret (ev_var rfl) fun H6 e6 => ?_
      refine k _ H6 (Int.emod_nonneg _ (by omega)) (Int.emod_lt_of_pos _ hl0) ?_ ⟨cell, cur / lim, c + 1, e6 sa _ upd_same, by omega, hb⟩
      exact (((x1.trans (XB.ex e3)).trans (XB.ex e4)).trans ((XB.ex e5).trans XB.upd)).trans (XB.ex e6)
    · have h3 := e3 sa _ h1
      have cb : CMul ((c : Int) + 1) 40699 := .inl ⟨by omega, by omega⟩
      refine q_asg (ev_op (ev_int (ev_op (ev_int (ev_op (ev_op (ev_op (ev_int (ev_ixL (j := 0) rfl h3 rfl)) ev_c (rv_I (.inr ⟨by decide, by decide⟩))) (ev_op (ev_ixL (j := 2) rfl h3 rfl) ev_c (rv_I cb)) rv_I0) ev_c rv_I0)) ev_c (rv_I ?_))) ev_c (rv_I (by decide))) fun H4 e4 => ?_
      · have z := cpow3 (c := cell) (m := 39119) (k := ((c : Int) + 1) * 40699 + 12011) hb (by decide) (by omega)
        rw [← Int.add_assoc] at z
        exact z
      have h4 := e4 sa _ h3
      generalize hm : (cell * 39119 + ((c : Int) + 1) * 40699 + 12011) ^ (3 : Int).toNat % 2147483647 = m1
      have b1 : 0 ≤ m1 ∧ m1 < 2147483647 := by
        rw [← hm]
        exact ⟨Int.emod_nonneg _ (by decide), Int.emod_lt_of_pos _ (by decide)⟩
      have cb2 : CMul ((c : Int) + 1) ((c : Int) + 1) := .inl ⟨by omega, by omega⟩
      refine q_asg (ev_op (ev_int (ev_op (ev_int (ev_op (ev_var rfl) (ev_op (ev_op (ev_ixL (j := 2) rfl h4 rfl) (ev_ixL (j := 2) rfl h4 rfl) (rv_I cb2)) ev_c (rv_I (.inr ⟨by decide, by decide⟩))) rv_I0)) ev_c (rv_I ?_))) ev_c (rv_I (by decide))) fun H5 e5 => ?_
      · refine ⟨by decide, ?_⟩
        have z : Builtin.Int.intBits (m1 + ((c : Int) + 1) * ((c : Int) + 1) * 7919) ≤ 100 := by
          refine bits_of_lt ?_
          have a1 : ((c : Int) + 1) * ((c : Int) + 1) ≤ 1000001 * 1000001 := Int.mul_le_mul (by omega) (by omega) (by omega) (by decide)
          have a0 : 0 ≤ ((c : Int) + 1) * ((c : Int) + 1) := Int.mul_nonneg (by omega) (by omega)
          generalize ((c : Int) + 1) * ((c : Int) + 1) = y at a1 a0
          omega
        generalize Builtin.Int.intBits (m1 + ((c : Int) + 1) * ((c : Int) + 1) * 7919) = y at z
        omega
      refine s_ret (ev_op (ev_op (ev_var rfl) ev_c (rv_I ⟨by decide, by decide⟩)) (ev_var rfl) (rv_I hl0)) fun H6 e6 => ?_
      refine k _ H6 (Int.emod_nonneg _ (by omega)) (Int.emod_lt_of_pos _ hl0) ?_ ⟨cell, cur, c + 1, e6 sa _ (e5 sa _ h4), by omega, hb⟩
      exact (x1.trans (XB.ex e3)).trans (XB.ex (e4.trans (e5.trans e6)))
end
end G39

namespace G39
open PySem PySem.Spec PyProof.Rows L2 Evl
def ten : List PyData := [.str "a", .str "", .none, .int 0, .int (-3), .bool true, .tuple [.str "a", .str "b"], .list [.str "x", .list [.str "y"]], .dict [(.str "?x", .str "a")], .int 100000000000000000000]
theorem fit_int {i : Int} (h : i.natAbs < 2 ^ 100) (h2 : (toString i : Str).length ≤ 1000) : Fit (.int i) := by
  have lg : i.natAbs.log2 < 1920 := by
    by_cases z : i.natAbs = 0
    · rw [z]
      decide
    · have := (Nat.log2_lt z).mpr h
      omega
  refine ⟨by simp [PyData.showable, lg], by simp [PyData.depth], h2, fun j e => ?_⟩
  cases e
  exact lg
theorem fits : ∀ d ∈ ten, Fit d := by
  intro d hd
  have nI : ∀ {d : PyData}, (∀ i, d ≠ .int i) → ∀ i, d = .int i → i.natAbs.log2 < 1920 := fun h i e => absurd e (h i)
  simp only [ten, List.mem_cons, List.not_mem_nil, or_false] at hd
  rcases hd with rfl | rfl | rfl | rfl | rfl | rfl | rfl | rfl | rfl | rfl
  · exact ⟨rfl, by decide, by decide +kernel, nI fun i e => by cases e⟩
  · exact ⟨rfl, by decide, by decide +kernel, nI fun i e => by cases e⟩
  · exact ⟨rfl, by decide, by decide +kernel, nI fun i e => by cases e⟩
  · exact fit_int (by decide) (by decide +kernel)
  · exact fit_int (by decide) (by decide +kernel)
  · exact ⟨rfl, by decide, by decide +kernel, nI fun i e => by cases e⟩
  · exact ⟨by decide +kernel, by decide +kernel, by decide +kernel, nI fun i e => by cases e⟩
  · exact ⟨by decide +kernel, by decide +kernel, by decide +kernel, nI fun i e => by cases e⟩
  · exact ⟨by decide +kernel, by decide +kernel, by decide +kernel, nI fun i e => by cases e⟩
  · exact fit_int (by decide) (by decide +kernel)
/-- shown as d, whatever becomes of the source -/
def ShB (K : PySem.W.Frag) (sa : Addr) (H : Hp) (v : V) (d : PyData) : Prop := ∀ H', XB sa H H' → Shw K H' v d
theorem ShB.mono {K : PySem.W.Frag} {sa : Addr} {H H1 : Hp} {v : V} {d : PyData} (h : ShB K sa H v d) (x : XB sa H H1) : ShB K sa H1 v d := fun H' y => h H' (x.trans y)
def spValue (K : PySem.W.Frag) : Sp := fun vs H Q _ => ∃ (sa : Addr) (n : Nat), vs = [.ref sa] ∧ Src H sa n ∧ n ≤ 1000 ∧
  ∀ (v : V) (d : PyData) H', d ∈ ten → ShB K sa H' v d → XB sa H H' → Src H' sa (n + 1) → Q v H'
theorem fresh_ne {H H' : Hp} {p a : Addr} {o : HO} (h : H a = some o) (e : Ex H H') (n : H' p = none) : p ≠ a := fun z => by
  rw [z, e a o h] at n
  cases n
section
variable {P : Program} {w : World} {K : PySem.W.Frag} {mg : Str → Option Value} {base : Heap}
theorem ok_value {f fD : Addr} {fd fdD : FuncData} (mInt : mg "int" = none) (F : Fun K "_law_value" "_law_value" sValue f fd) (D : DefAt K mg "_law_draw" sDraw ["_law_source_here", "_law_limit"] fD fdD) :
    FnOk P w K mg base CX0 2 f fd ["_law_source_here"] (spValue K) := by
  have GD : FnOk P w K mg base CX0 1 fD fdD ["_law_source_here", "_law_limit"] spDraw := ok_draw mInt D.F
  refine F.ok scValue (fun vs H Q E h => ?_) (fun cdv A outer s H vs Q E hr h => ?_)
  · obtain ⟨sa, n, rfl, _⟩ := h
    rfl
  · obtain ⟨sa, n, rfl, hsrc, hn, k⟩ := h
    refine ⟨_, pss_one (ps_ret (pe_ix ix_list (pe_lst (pa_cons pe_str (pa_cons pe_str (pa_cons pe_non (pa_cons pe_int (pa_cons (pe_un un_neg pe_int) (pa_cons pe_bl
      (pa_cons (pe_tup (pa_cons pe_str (pa_cons pe_str pa_nil))) (pa_cons (pe_lst (pa_cons pe_str (pa_cons (pe_lst (pa_cons pe_str pa_nil)) pa_nil)))
      (pa_cons (pe_disp (pps_cons pe_str pe_str pps_nil) (by rfl) (by rfl) (fun z => by cases z) (by decide)) (pa_cons (pe_op op_powW pe_int pe_int) pa_nil)))))))))))
      (pe_call GD hr (by rfl) D.g D.F.kp D.b .nil pass0 (pa_cons (pv 0) (pa_cons pe_int pa_nil))) (fun _ _ => rfl))), ?_⟩
    obtain ⟨cell, cur, c, hs, hc, hb⟩ := id hsrc
    -- -3, the tuple
    refine ⟨3, rfl, (by show 2 ≤ sizeLine; decide), fun t ht => ?_⟩
    generalize hH1 : upd H t (.tup [V.str "a", V.str "b"]) = H1
    have t1 : H1 t = some (.tup [V.str "a", V.str "b"]) := by
      rw [← hH1]
      exact upd_same
    have e1 : Ex H H1 := by
      rw [← hH1]
      exact Ex.new ht
    -- the lists
    refine ⟨(by show 1 ≤ sizeLine; decide), fun l1 hl1 => ⟨(by show 2 ≤ sizeLine; decide), fun l2 hl2 => ?_⟩⟩
    generalize hH2 : upd (upd H1 l1 (.lst [V.str "y"])) l2 (.lst [V.str "x", V.ref l1]) = H2
    have e2 : Ex H1 H2 := by
      rw [← hH2]
      exact (Ex.new hl1).trans (Ex.new hl2)
    have q2 : H2 l2 = some (.lst [V.str "x", V.ref l1]) := by
      rw [← hH2]
      exact upd_same
    have q1 : H2 l1 = some (.lst [V.str "y"]) := by
      rw [← hH2]
      exact Ex.new hl2 _ _ upd_same
    -- the dict
    refine fun p hp => ⟨upd_same, [(.inr "?x", .str "a")], rfl, by decide, ?_⟩
    generalize hH3 : upd (upd H2 p (.dK [])) p (.dK (mergeK [] [(.inr "?x", .str "a")])) = H3
    have e3 : Ex H2 H3 := by
      rw [← hH3, upd_upd]
      exact Ex.new hp
    have p3 : H3 p = some (.dK [(.inr "?x", .str "a")]) := by
      rw [← hH3]
      exact upd_same
    -- 10 ** 20, the list of all
    refine ⟨10, 20, rfl, rfl, ⟨by decide, by decide⟩, (by show 10 ≤ sizeLine; decide), fun L hL => ?_⟩
    generalize hH4 : upd H3 L _ = H4
    have e4 : Ex H3 H4 := by
      rw [← hH4]
      exact Ex.new hL
    have L4 : H4 L = some (.lst [.str "a", .str "", .non, .int 0, .int (-3), .bl true, .ref t, .ref l2, .ref p, .int 100000000000000000000]) := by
      rw [← hH4]
      exact upd_same
    have eA : Ex H H4 := ((e1.trans e2).trans e3).trans e4
    -- the draw
    refine ⟨_, rfl, sa, n, 10, rfl, ⟨cell, cur, c, eA _ _ hs, hc, hb⟩, by omega, by decide, by decide, fun v H5 hv0 hv1 xb src => ?_⟩
    have neL : L ≠ sa := fresh_ne hs ((e1.trans e2).trans e3) hL
    have net : t ≠ sa := fun z => by
      rw [z, hs] at ht
      cases ht
    have nel1 : l1 ≠ sa := fresh_ne hs e1 hl1
    have nel2 : l2 ≠ sa := fresh_ne hs (e1.trans (Ex.new hl1)) hl2
    have nep : p ≠ sa := fresh_ne hs (e1.trans e2) hp
    have fin : ∀ (x : V) (d : PyData), d ∈ ten → ShB K sa H5 x d → Q x H5 := fun x d hd hx => k x d H5 hd hx ((XB.ex eA).trans xb) src
    have at5 : ∀ {b : Addr} {o : HO}, b ≠ sa → H4 b = some o → ∀ H', XB sa H5 H' → H' b = some o := fun hb h H' y => y _ _ hb (xb _ _ hb h)
    have hv : v = 0 ∨ v = 1 ∨ v = 2 ∨ v = 3 ∨ v = 4 ∨ v = 5 ∨ v = 6 ∨ v = 7 ∨ v = 8 ∨ v = 9 := by omega
    have go : ∀ {x : V}, atI ([.str "a", .str "", .non, .int 0, .int (-3), .bl true, .ref t, .ref l2, .ref p, .int 100000000000000000000] : List V) v = some x → Q x H5 → rIxL K (.ref L) (.int v) H5 Q :=
      fun {x} ha q => ⟨L, _, v, x, rfl, rfl, sq_of (xb _ _ neL L4), ha, q⟩
    rcases hv with rfl | rfl | rfl | rfl | rfl | rfl | rfl | rfl | rfl | rfl
    · exact go (x := .str "a") (atI_nat (j := 0) rfl) (fin _ (.str "a") (List.mem_of_getElem? (i := 0) rfl) fun H' y => .inl ⟨.str _, rfl⟩)
    · exact go (x := .str "") (atI_nat (j := 1) rfl) (fin _ (.str "") (List.mem_of_getElem? (i := 1) rfl) fun H' y => .inl ⟨.str _, rfl⟩)
    · exact go (x := .non) (atI_nat (j := 2) rfl) (fin _ .none (List.mem_of_getElem? (i := 2) rfl) fun H' y => .inl ⟨.non, rfl⟩)
    · exact go (x := .int 0) (atI_nat (j := 3) rfl) (fin _ (.int 0) (List.mem_of_getElem? (i := 3) rfl) fun H' y => .inl ⟨.int _, rfl⟩)
    · exact go (x := .int (-3)) (atI_nat (j := 4) rfl) (fin _ (.int (-3)) (List.mem_of_getElem? (i := 4) rfl) fun H' y => .inl ⟨.int _, rfl⟩)
    · exact go (x := .bl true) (atI_nat (j := 5) rfl) (fin _ (.bool true) (List.mem_of_getElem? (i := 5) rfl) fun H' y => .inl ⟨.bl _, rfl⟩)
    · exact go (x := .ref t) (atI_nat (j := 6) rfl) (fin _ (.tuple [.str "a", .str "b"]) (List.mem_of_getElem? (i := 6) rfl) fun H' y => .inl ⟨.tup (st_of (at5 net (e4 _ _ (e3 _ _ (e2 _ _ t1))) H' y)) (.cons (.str _) (.cons (.str _) .nil)), rfl⟩)
    · exact go (x := .ref l2) (atI_nat (j := 7) rfl) (fin _ (.list [.str "x", .list [.str "y"]]) (List.mem_of_getElem? (i := 7) rfl) fun H' y => .inl ⟨.lst (sq_of (at5 nel2 (e4 _ _ (e3 _ _ q2)) H' y)) (.cons (.str _) (.cons (.lst (sq_of (at5 nel1 (e4 _ _ (e3 _ _ q1)) H' y)) (.cons (.str _) .nil)) .nil)), rfl⟩)
    · exact go (x := .ref p) (atI_nat (j := 8) rfl) (fin _ (.dict [(.str "?x", .str "a")]) (List.mem_of_getElem? (i := 8) rfl) fun H' y => .inr ⟨p, _, _, rfl, at5 nep (e4 _ _ p3) H' y, rfl⟩)
    · exact go (x := .int 100000000000000000000) (atI_nat (j := 9) rfl) (fin _ (.int 100000000000000000000) (List.mem_of_getElem? (i := 9) rfl) fun H' y => .inl ⟨.int _, rfl⟩)
end
end G39

namespace G39
open PySem PySem.Spec PyProof.Rows L2 Evl
/-! the classes -/
/-- the class x stands at C -/
structure Cn (K : PySem.W.Frag) (mg : Str → Option Value) (R : Addr) (x : Str) (C : Addr) : Prop where
  g : mg x = some (.ref C)
  e : EC K R C
  nm : (PySem.W.clsIn K C).map (·.name) = some x
/-- without an __init__ of its own -/
structure X0 (K : PySem.W.Frag) (mg : Str → Option Value) (R : Addr) (x : Str) (C : Addr) : Prop where
  c : Cn K mg R x C
  q : PySem.W.excIn K C [.type "ValueError", .type "Exception", .type "BaseException", .type "object"] "ValueError.__new__" = true
  k : PySem.W.keepIn K (.ref C) = true
/-- with an __init__ that keeps fields -/
structure X1 (K : PySem.W.Frag) (mg : Str → Option Value) (R : Addr) (x qual : Str) (i : Nat) (fl : List Str) (C fI : Addr) (fd : FuncData) : Prop where
  c : Cn K mg R x C
  o : OexC K C
  iC : PySem.W.findIn K (.ref C) "__init__" = some (some (.ref fI))
  tI : PySem.W.typeIn K (.ref fI) = some (.type "function")
  F : Fun K "__init__" qual (inClass (topS i) 0) fI fd
  b : Binds K fd ("self" :: fl) []
  no : ∀ f ∈ fl, PySem.W.findIn K (.ref C) f = some none
def spI1 (C : Addr) (f : Str) : Sp := fun vs H Q _ => ∃ (a : Addr) (v : V), vs = [.ref a, v] ∧ H a = some (exo a C none) ∧
  ∀ d, H d = none → d ≠ a → Q .non (upd (upd H d (exd d [(f, v)])) a (exo a C (some d)))
def spI2 (C : Addr) (f g : Str) : Sp := fun vs H Q _ => ∃ (a : Addr) (v w : V), vs = [.ref a, v, w] ∧ H a = some (exo a C none) ∧
  ∀ d, H d = none → d ≠ a → Q .non (upd (upd (upd H d (exd d [(f, v)])) a (exo a C (some d))) d (exd d [(g, w), (f, v)]))
section
variable {P : Program} {w : World} {K : PySem.W.Frag} {mg : Str → Option Value} {base : Heap} {R C f : Addr} {fd : FuncData}
theorem scBadFact : FnScope ["self", "value"] ["self", "value"] (defScope (inClass (topS 2) 0)) := ⟨rfl, rfl, rfl, by decide +kernel, rfl, by decide +kernel, by decide +kernel⟩
theorem okBadFact (T : X1 K mg R "BadFact" "BadFact.__init__" 2 ["value"] C f fd) : FnOk P w K mg base CX0 1 f fd ["self", "value"] (spI1 C "value") := by
  refine T.F.ok scBadFact (fun vs H Q E h => ?_) (fun cdv A outer s H vs Q E hr h => ?_)
  · obtain ⟨a, v, rfl, _⟩ := h
    rfl
  · obtain ⟨a, v, rfl, ha, k⟩ := h
    exact ⟨_, pss_one (ps_ost (pv 0) (pv 1)), ⟨_, rfl, _, rfl, a, C, rfl, T.o, T.no _ (List.mem_cons_self ..), .inl ⟨ha, k⟩⟩⟩
theorem scBadPattern : FnScope ["self", "value"] ["self", "value"] (defScope (inClass (topS 3) 0)) := ⟨rfl, rfl, rfl, by decide +kernel, rfl, by decide +kernel, by decide +kernel⟩
theorem okBadPattern (T : X1 K mg R "BadPattern" "BadPattern.__init__" 3 ["value"] C f fd) : FnOk P w K mg base CX0 1 f fd ["self", "value"] (spI1 C "value") := by
  refine T.F.ok scBadPattern (fun vs H Q E h => ?_) (fun cdv A outer s H vs Q E hr h => ?_)
  · obtain ⟨a, v, rfl, _⟩ := h
    rfl
  · obtain ⟨a, v, rfl, ha, k⟩ := h
    exact ⟨_, pss_one (ps_ost (pv 0) (pv 1)), ⟨_, rfl, _, rfl, a, C, rfl, T.o, T.no _ (List.mem_cons_self ..), .inl ⟨ha, k⟩⟩⟩
theorem scBadLine : FnScope ["self", "line"] ["self", "line"] (defScope (inClass (topS 4) 0)) := ⟨rfl, rfl, rfl, by decide +kernel, rfl, by decide +kernel, by decide +kernel⟩
theorem okBadLine (T : X1 K mg R "BadLine" "BadLine.__init__" 4 ["line"] C f fd) : FnOk P w K mg base CX0 1 f fd ["self", "line"] (spI1 C "line") := by
  refine T.F.ok scBadLine (fun vs H Q E h => ?_) (fun cdv A outer s H vs Q E hr h => ?_)
  · obtain ⟨a, v, rfl, _⟩ := h
    rfl
  · obtain ⟨a, v, rfl, ha, k⟩ := h
    exact ⟨_, pss_one (ps_ost (pv 0) (pv 1)), ⟨_, rfl, _, rfl, a, C, rfl, T.o, T.no _ (List.mem_cons_self ..), .inl ⟨ha, k⟩⟩⟩
theorem scBroken : FnScope ["self", "index", "shown"] ["self", "index", "shown"] (defScope (inClass (topS 9) 0)) := ⟨rfl, rfl, rfl, by decide +kernel, rfl, by decide +kernel, by decide +kernel⟩
theorem okBroken (T : X1 K mg R "Broken" "Broken.__init__" 9 ["index", "shown"] C f fd) : FnOk P w K mg base CX0 1 f fd ["self", "index", "shown"] (spI2 C "index" "shown") := by
  refine T.F.ok scBroken (fun vs H Q E h => ?_) (fun cdv A outer s H vs Q E hr h => ?_)
  · obtain ⟨a, v, w, rfl, _⟩ := h
    rfl
  · obtain ⟨a, v, w, rfl, ha, k⟩ := h
    refine ⟨_, pss_cons (ps_ost (pv 0) (pv 1)) (pss_one (ps_ost (pv 0) (pv 2))), ⟨_, rfl, _, rfl, a, C, rfl, T.o, T.no _ (List.mem_cons_self ..), .inl ⟨ha, fun d hd ne => ?_⟩⟩⟩
    refine ⟨_, rfl, _, rfl, a, C, rfl, T.o, T.no _ (List.mem_cons_of_mem _ (List.mem_cons_self ..)), .inr ⟨d, [("index", v)], upd_same, ?_, (by show 1 ≤ 900; decide), k d hd ne⟩⟩
    rw [upd_ne ne]
    exact upd_same
theorem scLoose : FnScope ["self", "variable"] ["self", "variable"] (defScope (inClass (topS 11) 0)) := ⟨rfl, rfl, rfl, by decide +kernel, rfl, by decide +kernel, by decide +kernel⟩
theorem okLoose (T : X1 K mg R "Loose" "Loose.__init__" 11 ["variable"] C f fd) : FnOk P w K mg base CX0 1 f fd ["self", "variable"] (spI1 C "variable") := by
  refine T.F.ok scLoose (fun vs H Q E h => ?_) (fun cdv A outer s H vs Q E hr h => ?_)
  · obtain ⟨a, v, rfl, _⟩ := h
    rfl
  · obtain ⟨a, v, rfl, ha, k⟩ := h
    exact ⟨_, pss_one (ps_ost (pv 0) (pv 1)), ⟨_, rfl, _, rfl, a, C, rfl, T.o, T.no _ (List.mem_cons_self ..), .inl ⟨ha, k⟩⟩⟩
theorem scNothingNew : FnScope ["self", "index"] ["self", "index"] (defScope (inClass (topS 12) 0)) := ⟨rfl, rfl, rfl, by decide +kernel, rfl, by decide +kernel, by decide +kernel⟩
theorem okNothingNew (T : X1 K mg R "NothingNew" "NothingNew.__init__" 12 ["index"] C f fd) : FnOk P w K mg base CX0 1 f fd ["self", "index"] (spI1 C "index") := by
  refine T.F.ok scNothingNew (fun vs H Q E h => ?_) (fun cdv A outer s H vs Q E hr h => ?_)
  · obtain ⟨a, v, rfl, _⟩ := h
    rfl
  · obtain ⟨a, v, rfl, ha, k⟩ := h
    exact ⟨_, pss_one (ps_ost (pv 0) (pv 1)), ⟨_, rfl, _, rfl, a, C, rfl, T.o, T.no _ (List.mem_cons_self ..), .inl ⟨ha, k⟩⟩⟩
theorem scBadNode : FnScope ["self", "index"] ["self", "index"] (defScope (inClass (topS 13) 0)) := ⟨rfl, rfl, rfl, by decide +kernel, rfl, by decide +kernel, by decide +kernel⟩
theorem okBadNode (T : X1 K mg R "BadNode" "BadNode.__init__" 13 ["index"] C f fd) : FnOk P w K mg base CX0 1 f fd ["self", "index"] (spI1 C "index") := by
  refine T.F.ok scBadNode (fun vs H Q E h => ?_) (fun cdv A outer s H vs Q E hr h => ?_)
  · obtain ⟨a, v, rfl, _⟩ := h
    rfl
  · obtain ⟨a, v, rfl, ha, k⟩ := h
    exact ⟨_, pss_one (ps_ost (pv 0) (pv 1)), ⟨_, rfl, _, rfl, a, C, rfl, T.o, T.no _ (List.mem_cons_self ..), .inl ⟨ha, k⟩⟩⟩
theorem scBadPart : FnScope ["self", "part"] ["self", "part"] (defScope (inClass (topS 14) 0)) := ⟨rfl, rfl, rfl, by decide +kernel, rfl, by decide +kernel, by decide +kernel⟩
theorem okBadPart (T : X1 K mg R "BadPart" "BadPart.__init__" 14 ["part"] C f fd) : FnOk P w K mg base CX0 1 f fd ["self", "part"] (spI1 C "part") := by
  refine T.F.ok scBadPart (fun vs H Q E h => ?_) (fun cdv A outer s H vs Q E hr h => ?_)
  · obtain ⟨a, v, rfl, _⟩ := h
    rfl
  · obtain ⟨a, v, rfl, ha, k⟩ := h
    exact ⟨_, pss_one (ps_ost (pv 0) (pv 1)), ⟨_, rfl, _, rfl, a, C, rfl, T.o, T.no _ (List.mem_cons_self ..), .inl ⟨ha, k⟩⟩⟩
theorem scNoPart : FnScope ["self", "known"] ["self", "known"] (defScope (inClass (topS 15) 0)) := ⟨rfl, rfl, rfl, by decide +kernel, rfl, by decide +kernel, by decide +kernel⟩
theorem okNoPart (T : X1 K mg R "NoPart" "NoPart.__init__" 15 ["known"] C f fd) : FnOk P w K mg base CX0 1 f fd ["self", "known"] (spI1 C "known") := by
  refine T.F.ok scNoPart (fun vs H Q E h => ?_) (fun cdv A outer s H vs Q E hr h => ?_)
  · obtain ⟨a, v, rfl, _⟩ := h
    rfl
  · obtain ⟨a, v, rfl, ha, k⟩ := h
    exact ⟨_, pss_one (ps_ost (pv 0) (pv 1)), ⟨_, rfl, _, rfl, a, C, rfl, T.o, T.no _ (List.mem_cons_self ..), .inl ⟨ha, k⟩⟩⟩
theorem scBadStrike : FnScope ["self", "value"] ["self", "value"] (defScope (inClass (topS 18) 0)) := ⟨rfl, rfl, rfl, by decide +kernel, rfl, by decide +kernel, by decide +kernel⟩
theorem okBadStrike (T : X1 K mg R "BadStrike" "BadStrike.__init__" 18 ["value"] C f fd) : FnOk P w K mg base CX0 1 f fd ["self", "value"] (spI1 C "value") := by
  refine T.F.ok scBadStrike (fun vs H Q E h => ?_) (fun cdv A outer s H vs Q E hr h => ?_)
  · obtain ⟨a, v, rfl, _⟩ := h
    rfl
  · obtain ⟨a, v, rfl, ha, k⟩ := h
    exact ⟨_, pss_one (ps_ost (pv 0) (pv 1)), ⟨_, rfl, _, rfl, a, C, rfl, T.o, T.no _ (List.mem_cons_self ..), .inl ⟨ha, k⟩⟩⟩
theorem scNotAnAnswer : FnScope ["self", "known"] ["self", "known"] (defScope (inClass (topS 19) 0)) := ⟨rfl, rfl, rfl, by decide +kernel, rfl, by decide +kernel, by decide +kernel⟩
theorem okNotAnAnswer (T : X1 K mg R "NotAnAnswer" "NotAnAnswer.__init__" 19 ["known"] C f fd) : FnOk P w K mg base CX0 1 f fd ["self", "known"] (spI1 C "known") := by
  refine T.F.ok scNotAnAnswer (fun vs H Q E h => ?_) (fun cdv A outer s H vs Q E hr h => ?_)
  · obtain ⟨a, v, rfl, _⟩ := h
    rfl
  · obtain ⟨a, v, rfl, ha, k⟩ := h
    exact ⟨_, pss_one (ps_ost (pv 0) (pv 1)), ⟨_, rfl, _, rfl, a, C, rfl, T.o, T.no _ (List.mem_cons_self ..), .inl ⟨ha, k⟩⟩⟩
theorem scBadQuestion : FnScope ["self", "value"] ["self", "value"] (defScope (inClass (topS 20) 0)) := ⟨rfl, rfl, rfl, by decide +kernel, rfl, by decide +kernel, by decide +kernel⟩
theorem okBadQuestion (T : X1 K mg R "BadQuestion" "BadQuestion.__init__" 20 ["value"] C f fd) : FnOk P w K mg base CX0 1 f fd ["self", "value"] (spI1 C "value") := by
  refine T.F.ok scBadQuestion (fun vs H Q E h => ?_) (fun cdv A outer s H vs Q E hr h => ?_)
  · obtain ⟨a, v, rfl, _⟩ := h
    rfl
  · obtain ⟨a, v, rfl, ha, k⟩ := h
    exact ⟨_, pss_one (ps_ost (pv 0) (pv 1)), ⟨_, rfl, _, rfl, a, C, rfl, T.o, T.no _ (List.mem_cons_self ..), .inl ⟨ha, k⟩⟩⟩
theorem scNoName : FnScope ["self", "value"] ["self", "value"] (defScope (inClass (topS 21) 0)) := ⟨rfl, rfl, rfl, by decide +kernel, rfl, by decide +kernel, by decide +kernel⟩
theorem okNoName (T : X1 K mg R "NoName" "NoName.__init__" 21 ["value"] C f fd) : FnOk P w K mg base CX0 1 f fd ["self", "value"] (spI1 C "value") := by
  refine T.F.ok scNoName (fun vs H Q E h => ?_) (fun cdv A outer s H vs Q E hr h => ?_)
  · obtain ⟨a, v, rfl, _⟩ := h
    rfl
  · obtain ⟨a, v, rfl, ha, k⟩ := h
    exact ⟨_, pss_one (ps_ost (pv 0) (pv 1)), ⟨_, rfl, _, rfl, a, C, rfl, T.o, T.no _ (List.mem_cons_self ..), .inl ⟨ha, k⟩⟩⟩
theorem scNotThere : FnScope ["self", "fact"] ["self", "fact"] (defScope (inClass (topS 22) 0)) := ⟨rfl, rfl, rfl, by decide +kernel, rfl, by decide +kernel, by decide +kernel⟩
theorem okNotThere (T : X1 K mg R "NotThere" "NotThere.__init__" 22 ["fact"] C f fd) : FnOk P w K mg base CX0 1 f fd ["self", "fact"] (spI1 C "fact") := by
  refine T.F.ok scNotThere (fun vs H Q E h => ?_) (fun cdv A outer s H vs Q E hr h => ?_)
  · obtain ⟨a, v, rfl, _⟩ := h
    rfl
  · obtain ⟨a, v, rfl, ha, k⟩ := h
    exact ⟨_, pss_one (ps_ost (pv 0) (pv 1)), ⟨_, rfl, _, rfl, a, C, rfl, T.o, T.no _ (List.mem_cons_self ..), .inl ⟨ha, k⟩⟩⟩
theorem scThereAlready : FnScope ["self", "fact"] ["self", "fact"] (defScope (inClass (topS 23) 0)) := ⟨rfl, rfl, rfl, by decide +kernel, rfl, by decide +kernel, by decide +kernel⟩
theorem okThereAlready (T : X1 K mg R "ThereAlready" "ThereAlready.__init__" 23 ["fact"] C f fd) : FnOk P w K mg base CX0 1 f fd ["self", "fact"] (spI1 C "fact") := by
  refine T.F.ok scThereAlready (fun vs H Q E h => ?_) (fun cdv A outer s H vs Q E hr h => ?_)
  · obtain ⟨a, v, rfl, _⟩ := h
    rfl
  · obtain ⟨a, v, rfl, ha, k⟩ := h
    exact ⟨_, pss_one (ps_ost (pv 0) (pv 1)), ⟨_, rfl, _, rfl, a, C, rfl, T.o, T.no _ (List.mem_cons_self ..), .inl ⟨ha, k⟩⟩⟩
end
end G39

namespace G39
open PySem PySem.Spec PyProof.Rows L2 Evl
/-- it gives a value of which Pv holds, leaving what is known -/
def EvP (te : TE) (σ : L2.St) (H : Hp) (Pv : V → Hp → Prop) : Prop := ∀ H1, Ex H H1 → ∀ Q : VK, (∀ v H2, Ex H1 H2 → Pv v H2 → Q v H2) → te σ H1 Q
/-- v is an error of the class at C -/
def XAt (H : Hp) (v : V) (C : Addr) : Prop := ∃ (a : Addr) (d : Option Addr), v = .ref a ∧ H a = some (exo a C d) ∧ ∀ dd, d = some dd → ∃ fs, H dd = some (exd dd fs)
theorem XAt.mono {H H' : Hp} {v : V} {C : Addr} (e : Ex H H') (h : XAt H v C) : XAt H' v C := by
  obtain ⟨a, d, rfl, h1, h2⟩ := h
  refine ⟨a, d, rfl, e _ _ h1, fun dd z => ?_⟩
  obtain ⟨fs, q⟩ := h2 dd z
  exact ⟨fs, e _ _ q⟩
/-- v is an error of the class named x -/
def XN (K : PySem.W.Frag) (mg : Str → Option Value) (R : Addr) (H : Hp) (v : V) (x : Str) : Prop := ∃ C, Cn K mg R x C ∧ XAt H v C
theorem XN.mono {K : PySem.W.Frag} {mg : Str → Option Value} {R : Addr} {H H' : Hp} {v : V} {x : Str} (e : Ex H H') (h : XN K mg R H v x) : XN K mg R H' v x := by
  obtain ⟨C, h1, h2⟩ := h
  exact ⟨C, h1, h2.mono e⟩
/-- errors of the classes named -/
abbrev XNs (K : PySem.W.Frag) (mg : Str → Option Value) (R : Addr) (H : Hp) (vs : List V) (xs : List Str) : Prop := Paired (fun v x => XN K mg R H v x) vs xs
theorem XNs.mono {K : PySem.W.Frag} {mg : Str → Option Value} {R : Addr} {H H' : Hp} {vs : List V} {xs : List Str} (e : Ex H H') (h : XNs K mg R H vs xs) : XNs K mg R H' vs xs := L2.Paired.mapP h fun _ _ z => z.mono e
theorem XNs.append {K : PySem.W.Frag} {mg : Str → Option Value} {R : Addr} {H : Hp} : ∀ {vs us : List V} {xs ys : List Str}, XNs K mg R H vs xs → XNs K mg R H us ys → XNs K mg R H (vs ++ us) (xs ++ ys)
  | _, _, _, _, .nil, s => s
  | _, _, _, _, .cons r t, s => .cons r (XNs.append t s)
section
variable {K : PySem.W.Frag} {mg : Str → Option Value} {R : Addr} {σ : L2.St} {H : Hp}
/-- a list of errors, made -/
def EaX (K : PySem.W.Frag) (mg : Str → Option Value) (R : Addr) (ta : TA) (σ : L2.St) (H : Hp) (xs : List Str) : Prop := ∀ H1, Ex H H1 → ∀ Q : List V → Hp → Prop, (∀ vs H2, Ex H1 H2 → XNs K mg R H2 vs xs → Q vs H2) → ta σ H1 Q
def ElX (K : PySem.W.Frag) (mg : Str → Option Value) (R : Addr) (te : TE) (σ : L2.St) (H : Hp) (xs : List Str) : Prop := ∀ H1, Ex H H1 → ∀ Q : VK, (∀ p vs H2, H1 p = none → Ex H1 H2 → H2 p = some (.lst vs) → XNs K mg R H2 vs xs → Q (.ref p) H2) → te σ H1 Q
theorem eax_nil : EaX K mg R tNil σ H [] := fun H1 _ _ q => q [] H1 (Ex.refl _) .nil
theorem eax_cons {te : TE} {ta : TA} {x : Str} {xs : List Str} (h : EvP te σ H fun v H' => XN K mg R H' v x) (hr : EaX K mg R ta σ H xs) : EaX K mg R (tCons te ta) σ H (x :: xs) := fun H1 e Q q =>
  h H1 e _ fun v H2 e2 hv => hr H2 (e.trans e2) _ fun vs H3 e3 hvs => q (v :: vs) H3 (e2.trans e3) (.cons (hv.mono e3) hvs)
theorem elx_lst {ta : TA} {xs : List Str} (h : EaX K mg R ta σ H xs) (hz : xs.length ≤ 1000) : ElX K mg R (tLst ta) σ H xs := fun H1 e Q q =>
  h H1 e _ fun vs H2 e2 hv => ⟨by rw [Paired.length hv, sizeLine_eq]; omega, fun p hp => q p vs _ (fresh_back e2 hp) (e2.trans (Ex.new hp)) upd_same (hv.mono (Ex.new hp))⟩
/-- slot i holds a list of errors -/
structure LX (K : PySem.W.Frag) (mg : Str → Option Value) (R : Addr) (H : Hp) (p : Addr) (xs : List Str) : Prop where
  ex : ∃ vs, H p = some (.lst vs) ∧ XNs K mg R H vs xs
theorem LX.mono {H' : Hp} {p : Addr} {xs : List Str} (e : Ex H H') (h : LX K mg R H p xs) : LX K mg R H' p xs := by
  obtain ⟨vs, h1, h2⟩ := h.ex
  exact ⟨vs, e _ _ h1, h2.mono e⟩
/-- l + [..] -/
theorem elx_cat {i : Nat} {p : Addr} {tb : TE} {xs ys : List Str} (hs : σ[i]? = some (some (.ref p))) (hp : LX K mg R H p xs) (h : ElX K mg R tb σ H ys) (hz : xs.length + ys.length ≤ 1000) : ElX K mg R (tOp rCat (tVar i) tb) σ H (xs ++ ys) := fun H1 e Q q => by
  refine ⟨.ref p, hs, h H1 e _ fun b us H2 hb e2 h2 hu => ?_⟩
  obtain ⟨vs, p1, p2⟩ := (hp.mono (e.trans e2)).ex
  have l1 := Paired.length p2
  have l2 := Paired.length hu
  refine ⟨p, b, vs, us, rfl, rfl, p1, h2, by rw [sizeLine_eq]; omega, fun l hl => q l _ _ (fresh_back e2 hl) (e2.trans (Ex.new hl)) upd_same ((p2.append hu).mono (Ex.new hl))⟩
/-- e + [..], e a list of errors, too -/
theorem elx_cat2 {ta tb : TE} {xs ys : List Str} (ha : ElX K mg R ta σ H xs) (h : ElX K mg R tb σ H ys) (hz : xs.length + ys.length ≤ 1000) : ElX K mg R (tOp rCat ta tb) σ H (xs ++ ys) := fun H1 e Q q => by
  refine ha H1 e _ fun p vs H2 hp e2 h2 hv => h H2 (e.trans e2) _ fun b us H3 hb e3 h3 hu => ?_
  have l1 := Paired.length hv
  have l2 := Paired.length hu
  refine ⟨p, b, vs, us, rfl, rfl, e3 _ _ h2, h3, by rw [sizeLine_eq]; omega, fun l hl => q l _ _ (fresh_back (e2.trans e3) hl) ((e2.trans e3).trans (Ex.new hl)) upd_same (((hv.mono e3).append hu).mono (Ex.new hl))⟩
theorem elx_var2 {i : Nat} {p : Addr} {j : Nat} {r : Addr} {xs ys : List Str} (hs : σ[i]? = some (some (.ref p))) (ht : σ[j]? = some (some (.ref r))) (hp : LX K mg R H p xs) (hr : LX K mg R H r ys) (hz : xs.length + ys.length ≤ 1000) : ElX K mg R (tOp rCat (tVar i) (tVar j)) σ H (xs ++ ys) := fun H1 e Q q => by
  obtain ⟨vs, p1, p2⟩ := (hp.mono e).ex
  obtain ⟨us, r1, r2⟩ := (hr.mono e).ex
  have l1 := Paired.length p2
  have l2 := Paired.length r2
  exact ⟨_, hs, _, ht, p, r, vs, us, rfl, rfl, p1, r1, by rw [sizeLine_eq]; omega, fun l hl => q l _ _ hl (Ex.new hl) upd_same ((p2.append r2).mono (Ex.new hl))⟩
/-! each class, made -/
theorem ep_x0 {x : Str} {C : Addr} (T : X0 K mg R x C) : EvP (fun σ H Q => ∀ a, H a = none → Q (.ref a) (upd H a (exo a C none))) σ H fun v H' => XN K mg R H' v x := fun H1 e Q q a ha =>
  q (.ref a) _ (Ex.new ha) ⟨C, T.c, a, none, rfl, upd_same, fun dd z => nomatch z⟩
/-- what is left of a made error with fields -/
def XF (H : Hp) (v : V) (C : Addr) (fs : List (Str × V)) : Prop := ∃ a d, v = .ref a ∧ H a = some (exo a C (some d)) ∧ H d = some (exd d fs)
theorem XF.at {H : Hp} {v : V} {C : Addr} {fs : List (Str × V)} (h : XF H v C fs) : XAt H v C := by
  obtain ⟨a, d, rfl, h1, h2⟩ := h
  exact ⟨a, some d, rfl, h1, fun dd z => by cases z; exact ⟨fs, h2⟩⟩
theorem mx1 {C : Addr} {f : Str} {v : V} {H1 : Hp} {Q : VK} (q : ∀ x H2, Ex H1 H2 → XF H2 x C [(f, v)] → Q x H2) (a : Addr) (ha : H1 a = none) : spI1 C f (.ref a :: [v]) (upd H1 a (exo a C none)) (fun y H2 => y = .non ∧ Q (.ref a) H2) (fun _ _ _ => False) := by
  refine ⟨a, v, rfl, upd_same, fun d hd ne => ⟨rfl, q _ _ ?_ ⟨a, d, rfl, upd_same, by rw [upd_ne ne]; exact upd_same⟩⟩⟩
  have hd1 : H1 d = none := by
    rw [upd_ne ne] at hd
    exact hd
  intro b o hb
  rw [upd_ne (ne_of_none hb ha), upd_ne (ne_of_none hb hd1), upd_ne (ne_of_none hb ha)]
  exact hb
theorem mx2 {C : Addr} {f g : Str} {v y : V} {H1 : Hp} {Q : VK} (q : ∀ x H2, Ex H1 H2 → XF H2 x C [(g, y), (f, v)] → Q x H2) (a : Addr) (ha : H1 a = none) : spI2 C f g (.ref a :: [v, y]) (upd H1 a (exo a C none)) (fun y H2 => y = .non ∧ Q (.ref a) H2) (fun _ _ _ => False) := by
  refine ⟨a, v, y, rfl, upd_same, fun d hd ne => ⟨rfl, q _ _ ?_ ⟨a, d, rfl, by rw [upd_ne (Ne.symm ne)]; exact upd_same, upd_same⟩⟩⟩
  have hd1 : H1 d = none := by
    rw [upd_ne ne] at hd
    exact hd
  intro b o hb
  rw [upd_ne (ne_of_none hb hd1), upd_ne (ne_of_none hb ha), upd_ne (ne_of_none hb hd1), upd_ne (ne_of_none hb ha)]
  exact hb
theorem ep_x1 {x qual : Str} {i : Nat} {f : Str} {C fI : Addr} {fd : FuncData} {te : TE} {v : V} (T : X1 K mg R x qual i [f] C fI fd) (h : Ev te σ H v) : EvP (tMx C (spI1 C f) (tCons te tNil)) σ H fun v H' => XN K mg R H' v x := fun H1 e Q q =>
  h H1 e _ fun H2 e2 => ⟨by show 1 ≤ 1000; decide, mx1 fun z H3 e3 hz => q z H3 (e2.trans e3) ⟨C, T.c, hz.at⟩⟩
theorem ep_x2 {x qual : Str} {i : Nat} {f g : Str} {C fI : Addr} {fd : FuncData} {te tf : TE} {v y : V} (T : X1 K mg R x qual i [f, g] C fI fd) (h : Ev te σ H v) (h' : Ev tf σ H y) : EvP (tMx C (spI2 C f g) (tCons te (tCons tf tNil))) σ H fun v H' => XN K mg R H' v x := fun H1 e Q q =>
  h H1 e _ fun H2 e2 => h' H2 (e.trans e2) _ fun H3 e3 => ⟨by show 2 ≤ 1000; decide, mx2 fun z H4 e4 hz => q z H4 ((e2.trans e3).trans e4) ⟨C, T.c, hz.at⟩⟩
end
end G39

namespace G39
open PySem PySem.Spec PyProof.Rows L2 Evl
def cls24 : List Str := ["BadText", "BadKey", "BadRule", "Clash", "BadNodes", "BadNames", "OrBelow", "NothingToUndo", "NothingToRedo", "BadFact", "BadPattern", "BadLine", "Loose", "NothingNew", "BadNode", "BadPart", "NoPart", "BadStrike", "NotAnAnswer", "BadQuestion", "NoName", "NotThere", "ThereAlready", "Broken"]
/-- what the top has written of the classes -/
structure TC (K : PySem.W.Frag) (mg : Str → Option Value) (R : Addr) : Prop where
  oc : OC K
  gR : mg "RowsError" = some (.ref R)
  nR : (PySem.W.clsIn K R).map (·.name) = some "RowsError"
  tR : PySem.W.typeIn K (.ref R) = some (.type "type")
  cBadFact : ∃ C fI fd, X1 K mg R "BadFact" "BadFact.__init__" 2 ["value"] C fI fd
  cBadPattern : ∃ C fI fd, X1 K mg R "BadPattern" "BadPattern.__init__" 3 ["value"] C fI fd
  cBadLine : ∃ C fI fd, X1 K mg R "BadLine" "BadLine.__init__" 4 ["line"] C fI fd
  cBadText : ∃ C, X0 K mg R "BadText" C
  cBadKey : ∃ C, X0 K mg R "BadKey" C
  cBadRule : ∃ C, X0 K mg R "BadRule" C
  cClash : ∃ C, X0 K mg R "Clash" C
  cBroken : ∃ C fI fd, X1 K mg R "Broken" "Broken.__init__" 9 ["index", "shown"] C fI fd
  cBadNodes : ∃ C, X0 K mg R "BadNodes" C
  cLoose : ∃ C fI fd, X1 K mg R "Loose" "Loose.__init__" 11 ["variable"] C fI fd
  cNothingNew : ∃ C fI fd, X1 K mg R "NothingNew" "NothingNew.__init__" 12 ["index"] C fI fd
  cBadNode : ∃ C fI fd, X1 K mg R "BadNode" "BadNode.__init__" 13 ["index"] C fI fd
  cBadPart : ∃ C fI fd, X1 K mg R "BadPart" "BadPart.__init__" 14 ["part"] C fI fd
  cNoPart : ∃ C fI fd, X1 K mg R "NoPart" "NoPart.__init__" 15 ["known"] C fI fd
  cBadNames : ∃ C, X0 K mg R "BadNames" C
  cOrBelow : ∃ C, X0 K mg R "OrBelow" C
  cBadStrike : ∃ C fI fd, X1 K mg R "BadStrike" "BadStrike.__init__" 18 ["value"] C fI fd
  cNotAnAnswer : ∃ C fI fd, X1 K mg R "NotAnAnswer" "NotAnAnswer.__init__" 19 ["known"] C fI fd
  cBadQuestion : ∃ C fI fd, X1 K mg R "BadQuestion" "BadQuestion.__init__" 20 ["value"] C fI fd
  cNoName : ∃ C fI fd, X1 K mg R "NoName" "NoName.__init__" 21 ["value"] C fI fd
  cNotThere : ∃ C fI fd, X1 K mg R "NotThere" "NotThere.__init__" 22 ["fact"] C fI fd
  cThereAlready : ∃ C fI fd, X1 K mg R "ThereAlready" "ThereAlready.__init__" 23 ["fact"] C fI fd
  cNothingToUndo : ∃ C, X0 K mg R "NothingToUndo" C
  cNothingToRedo : ∃ C, X0 K mg R "NothingToRedo" C
abbrev sMade : Stmt := topS 30
abbrev sKept : Stmt := topS 31
abbrev sClasses : Stmt := topS 32
theorem scMade : FnScope ["_law_one", "_law_two", "_law_plain", "_law_more"] ["_law_one", "_law_two"] (defScope sMade) := ⟨rfl, rfl, rfl, by decide +kernel, rfl, by decide +kernel, by decide +kernel⟩
theorem scKept : FnScope ["_law_one", "_law_two", "_law_found", "_law_second", "_law_value_here"] ["_law_one", "_law_two"] (defScope sKept) := ⟨rfl, rfl, rfl, by decide +kernel, rfl, by decide +kernel, by decide +kernel⟩
theorem scClasses : FnScope ["_law_e", "_law_found", "_law_bit"] ["_law_e"] (defScope sClasses) := ⟨rfl, rfl, rfl, by decide +kernel, rfl, by decide +kernel, by decide +kernel⟩
theorem pe_gref {X : Cx} {x : Str} {C : Addr} {pos : Pos} (hm : X.mg x = some (.ref C)) (hg : Gl X x := by rfl) (hd : (x == ("__debug__" : Str)) = false := by decide) : PE X (.Name x pos) (tC (.ref C)) := pe_glob (v := .ref C) hg hm rfl hd
theorem cn_ne {K : PySem.W.Frag} {C D : Addr} {x y : Str} (h1 : (PySem.W.clsIn K C).map (·.name) = some x) (h2 : (PySem.W.clsIn K D).map (·.name) = some y) (ne : x ≠ y) : C ≠ D := fun z => by
  rw [z, h2] at h1
  exact ne (Option.some.inj h1).symm
theorem cn_same {K : PySem.W.Frag} {mg : Str → Option Value} {R C D : Addr} {x : Str} (h1 : Cn K mg R x C) (h2 : Cn K mg R x D) : C = D := Value.ref.inj (Option.some.inj (h1.g.symm.trans h2.g))
theorem cn_some {K : PySem.W.Frag} {C : Addr} {x : Str} (h : (PySem.W.clsIn K C).map (·.name) = some x) : (PySem.W.clsIn K C).isSome = true := by
  obtain ⟨cd, e, _⟩ := Option.map_eq_some_iff.mp h
  rw [e]
  rfl
section
variable {K : PySem.W.Frag} {mg : Str → Option Value} {R : Addr} {σ : L2.St} {H : Hp}
/-- isinstance(e, Y) of an error of the class x -/
theorem ev_isX {i : Nat} {e : V} {x y : Str} {D : Addr} (T : TC K mg R) (hs : σ[i]? = some (some e)) (he : XN K mg R H e x) (hD : Cn K mg R y D) (nR : y ≠ "RowsError") :
    Ev (tCB (rIsX K R) (tCons (tVar i) (tCons (tC (.ref D)) tNil))) σ H (.bl (decide (x = y))) := fun H1 e1 Q q => by
  obtain ⟨C, hC, a, d, rfl, ha, hd⟩ := he.mono e1
  refine ⟨_, hs, a, C, d, .ref D, .ref D, _, rfl, hC.e, ha, hd, fun u z => z, hC.e.kit (cn_some hD.nm) hD.e.ty, ?_⟩
  have hR : decide (R = D) = false := decide_eq_false (cn_ne T.nR hD.nm (Ne.symm nR))
  have hx : decide (C = D) = decide (x = y) := by
    by_cases z : x = y
    · subst z
      rw [cn_same hC hD]
      simp
    · rw [decide_eq_false z, decide_eq_false (cn_ne hC.nm hD.nm z)]
  rw [hR, hx, Bool.or_false]
  exact q H1 (Ex.refl _)
theorem ev_isR {i : Nat} {e : V} {x : Str} (T : TC K mg R) (hs : σ[i]? = some (some e)) (he : XN K mg R H e x) : Ev (tCB (rIsX K R) (tCons (tVar i) (tCons (tC (.ref R)) tNil))) σ H (.bl true) := fun H1 e1 Q q => by
  obtain ⟨C, hC, a, d, rfl, ha, hd⟩ := he.mono e1
  refine ⟨_, hs, a, C, d, .ref R, .ref R, _, rfl, hC.e, ha, hd, fun u z => z, hC.e.kit (cn_some T.nR) T.tR, ?_⟩
  rw [decide_eq_true (rfl : R = R), Bool.or_true]
  exact q H1 (Ex.refl _)
theorem ev_isV {i : Nat} {e : V} {x : Str} (hs : σ[i]? = some (some e)) (he : XN K mg R H e x) : Ev (tCB (rIsX K R) (tCons (tVar i) (tCons (tC (.ty "ValueError")) tNil))) σ H (.bl true) := fun H1 e1 Q q => by
  obtain ⟨C, hC, a, d, rfl, ha, hd⟩ := he.mono e1
  exact ⟨_, hs, a, C, d, .ty "ValueError", .type "ValueError", _, rfl, hC.e, ha, hd, fun u z => z, hC.e.kitV, q H1 (Ex.refl _)⟩
/-- l + [..] of plain values -/
theorem el_catV {i : Nat} {p : Addr} {tb : TE} {xs ys : List V} (hs : σ[i]? = some (some (.ref p))) (hp : H p = some (.lst xs)) (h : EvL tb σ H ys) (hz : xs.length + ys.length ≤ 1000) : EvL (tOp rCat (tVar i) tb) σ H (xs ++ ys) := fun H1 e Q q =>
  ⟨.ref p, hs, h H1 e _ fun b H2 hb e2 h2 => ⟨p, b, xs, ys, rfl, rfl, e2 _ _ (e _ _ hp), h2, by rw [sizeLine_eq]; omega, fun l hl => q l _ (fresh_back e2 hl) (e2.trans (Ex.new hl)) upd_same⟩⟩
theorem el_catN {ta tb : TE} {xs ys : List V} (ha : EvL ta σ H xs) (h : EvL tb σ H ys) (hz : xs.length + ys.length ≤ 1000) : EvL (tOp rCat ta tb) σ H (xs ++ ys) := fun H1 e Q q =>
  ha H1 e _ fun p H2 hp e2 h2 => h H2 (e.trans e2) _ fun b H3 hb e3 h3 => ⟨p, b, xs, ys, rfl, rfl, e3 _ _ h2, h3, by rw [sizeLine_eq]; omega, fun l hl => q l _ (fresh_back (e2.trans e3) hl) ((e2.trans e3).trans (Ex.new hl)) upd_same⟩
theorem el_catVV {i j : Nat} {p r : Addr} {xs ys : List V} (hs : σ[i]? = some (some (.ref p))) (ht : σ[j]? = some (some (.ref r))) (hp : H p = some (.lst xs)) (hr : H r = some (.lst ys)) (hz : xs.length + ys.length ≤ 1000) : EvL (tOp rCat (tVar i) (tVar j)) σ H (xs ++ ys) := fun H1 e Q q =>
  ⟨_, hs, _, ht, p, r, xs, ys, rfl, rfl, e _ _ hp, e _ _ hr, by rw [sizeLine_eq]; omega, fun l hl => q l _ hl (Ex.new hl) upd_same⟩
end
def spClasses (K : PySem.W.Frag) (mg : Str → Option Value) (R : Addr) : Sp := fun vs H Q _ => ∃ (e : V) (x : Str), vs = [e] ∧ XN K mg R H e x ∧ x ∈ cls24 ∧ ∀ H', Ex H H' → Q (.int 1) H'
theorem count24 : ∀ x ∈ cls24, (given 24 (fun i => decide (x = cls24.getD i "")) fun i => .bl (decide (x = cls24.getD i ""))).length = 1 := by decide +kernel
section
variable {P : Program} {w : World} {K : PySem.W.Frag} {mg : Str → Option Value} {base : Heap} {R : Addr}
theorem ok_classes {f : Addr} {fd : FuncData} (T : TC K mg R) (mI : mg "isinstance" = none) (mL : mg "len" = none) (F : Fun K "_law_classes" "_law_classes" sClasses f fd) : FnOk P w K mg base CX0 1 f fd ["_law_e"] (spClasses K mg R) := by
  refine F.ok scClasses (fun vs H Q E h => ?_) (fun cdv A outer s H vs Q E hr h => ?_)
  · obtain ⟨e, x, rfl, _⟩ := h
    rfl
  · obtain ⟨e, x, rfl, he0, hx, k⟩ := h
    obtain ⟨CBadText, tBadText⟩ := T.cBadText
    have cBadText := tBadText.c
    obtain ⟨CBadKey, tBadKey⟩ := T.cBadKey
    have cBadKey := tBadKey.c
    obtain ⟨CBadRule, tBadRule⟩ := T.cBadRule
    have cBadRule := tBadRule.c
    obtain ⟨CClash, tClash⟩ := T.cClash
    have cClash := tClash.c
    obtain ⟨CBadNodes, tBadNodes⟩ := T.cBadNodes
    have cBadNodes := tBadNodes.c
    obtain ⟨CBadNames, tBadNames⟩ := T.cBadNames
    have cBadNames := tBadNames.c
    obtain ⟨COrBelow, tOrBelow⟩ := T.cOrBelow
    have cOrBelow := tOrBelow.c
    obtain ⟨CNothingToUndo, tNothingToUndo⟩ := T.cNothingToUndo
    have cNothingToUndo := tNothingToUndo.c
    obtain ⟨CNothingToRedo, tNothingToRedo⟩ := T.cNothingToRedo
    have cNothingToRedo := tNothingToRedo.c
    obtain ⟨CBadFact, fBadFact, dBadFact, tBadFact⟩ := T.cBadFact
    have cBadFact := tBadFact.c
    obtain ⟨CBadPattern, fBadPattern, dBadPattern, tBadPattern⟩ := T.cBadPattern
    have cBadPattern := tBadPattern.c
    obtain ⟨CBadLine, fBadLine, dBadLine, tBadLine⟩ := T.cBadLine
    have cBadLine := tBadLine.c
    obtain ⟨CLoose, fLoose, dLoose, tLoose⟩ := T.cLoose
    have cLoose := tLoose.c
    obtain ⟨CNothingNew, fNothingNew, dNothingNew, tNothingNew⟩ := T.cNothingNew
    have cNothingNew := tNothingNew.c
    obtain ⟨CBadNode, fBadNode, dBadNode, tBadNode⟩ := T.cBadNode
    have cBadNode := tBadNode.c
    obtain ⟨CBadPart, fBadPart, dBadPart, tBadPart⟩ := T.cBadPart
    have cBadPart := tBadPart.c
    obtain ⟨CNoPart, fNoPart, dNoPart, tNoPart⟩ := T.cNoPart
    have cNoPart := tNoPart.c
    obtain ⟨CBadStrike, fBadStrike, dBadStrike, tBadStrike⟩ := T.cBadStrike
    have cBadStrike := tBadStrike.c
    obtain ⟨CNotAnAnswer, fNotAnAnswer, dNotAnAnswer, tNotAnAnswer⟩ := T.cNotAnAnswer
    have cNotAnAnswer := tNotAnAnswer.c
    obtain ⟨CBadQuestion, fBadQuestion, dBadQuestion, tBadQuestion⟩ := T.cBadQuestion
    have cBadQuestion := tBadQuestion.c
    obtain ⟨CNoName, fNoName, dNoName, tNoName⟩ := T.cNoName
    have cNoName := tNoName.c
    obtain ⟨CNotThere, fNotThere, dNotThere, tNotThere⟩ := T.cNotThere
    have cNotThere := tNotThere.c
    obtain ⟨CThereAlready, fThereAlready, dThereAlready, tThereAlready⟩ := T.cThereAlready
    have cThereAlready := tThereAlready.c
    obtain ⟨CBroken, fBroken, dBroken, tBroken⟩ := T.cBroken
    have cBroken := tBroken.c
    refine ⟨_, (pss_cons (ps_set (i := 1) scClasses.nd rfl (Or.inl rfl) (pe_lst (pa_cons (pe_callB (call_isX (R := R) T.oc) (by rfl) mI PyProof.Rows.boot_isinstance (pa_cons (pv 0) (pa_cons (pe_gref cBadText.g) pa_nil))) (pa_cons (pe_callB (call_isX (R := R) T.oc) (by rfl) mI PyProof.Rows.boot_isinstance (pa_cons (pv 0) (pa_cons (pe_gref cBadKey.g) pa_nil))) (pa_cons (pe_callB (call_isX (R := R) T.oc) (by rfl) mI PyProof.Rows.boot_isinstance (pa_cons (pv 0) (pa_cons (pe_gref cBadRule.g) pa_nil))) (pa_cons (pe_callB (call_isX (R := R) T.oc) (by rfl) mI PyProof.Rows.boot_isinstance (pa_cons (pv 0) (pa_cons (pe_gref cClash.g) pa_nil))) pa_nil))))))
      (pss_cons (ps_set (i := 1) scClasses.nd rfl (Or.inl rfl) (pe_op op_cat (pv 1) (pe_lst (pa_cons (pe_callB (call_isX (R := R) T.oc) (by rfl) mI PyProof.Rows.boot_isinstance (pa_cons (pv 0) (pa_cons (pe_gref cBadNodes.g) pa_nil))) (pa_cons (pe_callB (call_isX (R := R) T.oc) (by rfl) mI PyProof.Rows.boot_isinstance (pa_cons (pv 0) (pa_cons (pe_gref cBadNames.g) pa_nil))) (pa_cons (pe_callB (call_isX (R := R) T.oc) (by rfl) mI PyProof.Rows.boot_isinstance (pa_cons (pv 0) (pa_cons (pe_gref cOrBelow.g) pa_nil))) pa_nil))))))
      (pss_cons (ps_set (i := 1) scClasses.nd rfl (Or.inl rfl) (pe_op op_cat (pv 1) (pe_lst (pa_cons (pe_callB (call_isX (R := R) T.oc) (by rfl) mI PyProof.Rows.boot_isinstance (pa_cons (pv 0) (pa_cons (pe_gref cNothingToUndo.g) pa_nil))) (pa_cons (pe_callB (call_isX (R := R) T.oc) (by rfl) mI PyProof.Rows.boot_isinstance (pa_cons (pv 0) (pa_cons (pe_gref cNothingToRedo.g) pa_nil))) (pa_cons (pe_callB (call_isX (R := R) T.oc) (by rfl) mI PyProof.Rows.boot_isinstance (pa_cons (pv 0) (pa_cons (pe_gref cBadFact.g) pa_nil))) pa_nil))))))
      (pss_cons (ps_set (i := 1) scClasses.nd rfl (Or.inl rfl) (pe_op op_cat (pv 1) (pe_lst (pa_cons (pe_callB (call_isX (R := R) T.oc) (by rfl) mI PyProof.Rows.boot_isinstance (pa_cons (pv 0) (pa_cons (pe_gref cBadPattern.g) pa_nil))) (pa_cons (pe_callB (call_isX (R := R) T.oc) (by rfl) mI PyProof.Rows.boot_isinstance (pa_cons (pv 0) (pa_cons (pe_gref cBadLine.g) pa_nil))) (pa_cons (pe_callB (call_isX (R := R) T.oc) (by rfl) mI PyProof.Rows.boot_isinstance (pa_cons (pv 0) (pa_cons (pe_gref cLoose.g) pa_nil))) pa_nil))))))
      (pss_cons (ps_set (i := 1) scClasses.nd rfl (Or.inl rfl) (pe_op op_cat (pv 1) (pe_lst (pa_cons (pe_callB (call_isX (R := R) T.oc) (by rfl) mI PyProof.Rows.boot_isinstance (pa_cons (pv 0) (pa_cons (pe_gref cNothingNew.g) pa_nil))) (pa_cons (pe_callB (call_isX (R := R) T.oc) (by rfl) mI PyProof.Rows.boot_isinstance (pa_cons (pv 0) (pa_cons (pe_gref cBadNode.g) pa_nil))) (pa_cons (pe_callB (call_isX (R := R) T.oc) (by rfl) mI PyProof.Rows.boot_isinstance (pa_cons (pv 0) (pa_cons (pe_gref cBadPart.g) pa_nil))) pa_nil))))))
      (pss_cons (ps_set (i := 1) scClasses.nd rfl (Or.inl rfl) (pe_op op_cat (pv 1) (pe_lst (pa_cons (pe_callB (call_isX (R := R) T.oc) (by rfl) mI PyProof.Rows.boot_isinstance (pa_cons (pv 0) (pa_cons (pe_gref cNoPart.g) pa_nil))) (pa_cons (pe_callB (call_isX (R := R) T.oc) (by rfl) mI PyProof.Rows.boot_isinstance (pa_cons (pv 0) (pa_cons (pe_gref cBadStrike.g) pa_nil))) pa_nil)))))
      (pss_cons (ps_set (i := 1) scClasses.nd rfl (Or.inl rfl) (pe_op op_cat (pv 1) (pe_lst (pa_cons (pe_callB (call_isX (R := R) T.oc) (by rfl) mI PyProof.Rows.boot_isinstance (pa_cons (pv 0) (pa_cons (pe_gref cNotAnAnswer.g) pa_nil))) (pa_cons (pe_callB (call_isX (R := R) T.oc) (by rfl) mI PyProof.Rows.boot_isinstance (pa_cons (pv 0) (pa_cons (pe_gref cBadQuestion.g) pa_nil))) (pa_cons (pe_callB (call_isX (R := R) T.oc) (by rfl) mI PyProof.Rows.boot_isinstance (pa_cons (pv 0) (pa_cons (pe_gref cNoName.g) pa_nil))) pa_nil))))))
      (pss_cons (ps_set (i := 1) scClasses.nd rfl (Or.inl rfl) (pe_op op_cat (pv 1) (pe_lst (pa_cons (pe_callB (call_isX (R := R) T.oc) (by rfl) mI PyProof.Rows.boot_isinstance (pa_cons (pv 0) (pa_cons (pe_gref cNotThere.g) pa_nil))) (pa_cons (pe_callB (call_isX (R := R) T.oc) (by rfl) mI PyProof.Rows.boot_isinstance (pa_cons (pv 0) (pa_cons (pe_gref cThereAlready.g) pa_nil))) (pa_cons (pe_callB (call_isX (R := R) T.oc) (by rfl) mI PyProof.Rows.boot_isinstance (pa_cons (pv 0) (pa_cons (pe_gref cBroken.g) pa_nil))) pa_nil))))))
      (pss_one (ps_ret (pe_callB call_len_seq (by rfl) mL PySem.boot_len (pa_cons (pe_lc (own := [("_law_bit", 2)]) (g := gName 2) (tt := fun σ H Q => tVar 2 σ H fun x H' => ∃ k, TruV K x H' k ∧ Q k H') rfl scClasses.nd (pi_list (pv 1)) (blkOk_by (N := ["_law_e", "_law_found", "_law_bit"]) (sc := defScope sClasses) (by decide +kernel)) (fun _ _ _ _ _ => pg_name (i := 2) scClasses.nd rfl (Or.inl rfl)) (fun _ _ _ _ _ => pts_one (pt_truth (pv 2) (by intro _; rfl))) (fun _ _ _ _ _ => pv 2)) pa_nil)))))))))))), ?_⟩
    refine q_asgL (el_lst (ea_cons (ev_isX T rfl he0 cBadText (by decide +kernel)) (ea_cons (ev_isX T rfl he0 cBadKey (by decide +kernel)) (ea_cons (ev_isX T rfl he0 cBadRule (by decide +kernel)) (ea_cons (ev_isX T rfl he0 cClash (by decide +kernel)) ea_nil)))) (by show 4 ≤ 100000; decide)) fun p0 H1 np0 e1 hp0 => ?_
    have he1 := he0.mono e1
    refine q_asgL (el_catV rfl hp0 (el_lst (ea_cons (ev_isX T rfl he1 cBadNodes (by decide +kernel)) (ea_cons (ev_isX T rfl he1 cBadNames (by decide +kernel)) (ea_cons (ev_isX T rfl he1 cOrBelow (by decide +kernel)) ea_nil))) (by show 3 ≤ 100000; decide)) (by show 4 + 3 ≤ 1000; decide)) fun p1 H2 np1 e2 hp1 => ?_
    have he2 := he1.mono e2
    refine q_asgL (el_catV rfl hp1 (el_lst (ea_cons (ev_isX T rfl he2 cNothingToUndo (by decide +kernel)) (ea_cons (ev_isX T rfl he2 cNothingToRedo (by decide +kernel)) (ea_cons (ev_isX T rfl he2 cBadFact (by decide +kernel)) ea_nil))) (by show 3 ≤ 100000; decide)) (by show 7 + 3 ≤ 1000; decide)) fun p2 H3 np2 e3 hp2 => ?_
    have he3 := he2.mono e3
    refine q_asgL (el_catV rfl hp2 (el_lst (ea_cons (ev_isX T rfl he3 cBadPattern (by decide +kernel)) (ea_cons (ev_isX T rfl he3 cBadLine (by decide +kernel)) (ea_cons (ev_isX T rfl he3 cLoose (by decide +kernel)) ea_nil))) (by show 3 ≤ 100000; decide)) (by show 10 + 3 ≤ 1000; decide)) fun p3 H4 np3 e4 hp3 => ?_
    have he4 := he3.mono e4
    refine q_asgL (el_catV rfl hp3 (el_lst (ea_cons (ev_isX T rfl he4 cNothingNew (by decide +kernel)) (ea_cons (ev_isX T rfl he4 cBadNode (by decide +kernel)) (ea_cons (ev_isX T rfl he4 cBadPart (by decide +kernel)) ea_nil))) (by show 3 ≤ 100000; decide)) (by show 13 + 3 ≤ 1000; decide)) fun p4 H5 np4 e5 hp4 => ?_
    have he5 := he4.mono e5
    refine q_asgL (el_catV rfl hp4 (el_lst (ea_cons (ev_isX T rfl he5 cNoPart (by decide +kernel)) (ea_cons (ev_isX T rfl he5 cBadStrike (by decide +kernel)) ea_nil)) (by show 2 ≤ 100000; decide)) (by show 16 + 2 ≤ 1000; decide)) fun p5 H6 np5 e6 hp5 => ?_
    have he6 := he5.mono e6
    refine q_asgL (el_catV rfl hp5 (el_lst (ea_cons (ev_isX T rfl he6 cNotAnAnswer (by decide +kernel)) (ea_cons (ev_isX T rfl he6 cBadQuestion (by decide +kernel)) (ea_cons (ev_isX T rfl he6 cNoName (by decide +kernel)) ea_nil))) (by show 3 ≤ 100000; decide)) (by show 18 + 3 ≤ 1000; decide)) fun p6 H7 np6 e7 hp6 => ?_
    have he7 := he6.mono e7
    refine q_asgL (el_catV rfl hp6 (el_lst (ea_cons (ev_isX T rfl he7 cNotThere (by decide +kernel)) (ea_cons (ev_isX T rfl he7 cThereAlready (by decide +kernel)) (ea_cons (ev_isX T rfl he7 cBroken (by decide +kernel)) ea_nil))) (by show 3 ≤ 100000; decide)) (by show 21 + 3 ≤ 1000; decide)) fun p7 H8 np7 e8 hp7 => ?_
    have he8 := he7.mono e8
    have hp : H8 p7 = some (.lst (cls24.map fun y => V.bl (decide (x = y)))) := hp7
    have at24 : ∀ (i : Nat) (v : V), (cls24.map fun y => V.bl (decide (x = y)))[i]? = some v → v = .bl (decide (x = cls24.getD i "")) := fun i v z => by
      rw [List.getElem?_map] at z
      obtain ⟨y, hy, rfl⟩ := Option.map_eq_some_iff.mp z
      rw [List.getD_eq_getElem?_getD, hy]
      rfl
    have res := ev_lenN (K := K) (el_lcL (K := K) (H := H8) (σ := [some e, some (.ref p7), none]) (tl := tVar 1) (t := fun σ H Q => tVar 2 σ H fun x H' => ∃ k, TruV K x H' k ∧ Q k H') (te := tVar 2) (j := 2) (vs := [2]) (fun i => decide (x = cls24.getD i "")) (fun i => .bl (decide (x = cls24.getD i ""))) (ev_var rfl) (sq_of hp) (by show 24 ≤ 40000; decide) (fun _ => rfl)
      (fun i v H9 e9 z => by
        rw [at24 i v z]
        exact fun H10 e10 Q' q' => ⟨_, rfl, _, rfl, q' H10 (Ex.refl _)⟩)
      (fun i v H9 e9 z _ => by
        rw [at24 i v z]
        exact ev_var rfl))
    have c1 := count24 x hx
    rw [List.length_map, show (cls24.length : Nat) = 24 from rfl, c1] at res
    exact s_ret res fun H9 e9 => k H9 ((((((((e1.trans e2).trans e3).trans e4).trans e5).trans e6).trans e7).trans e8).trans e9)
end
end G39

namespace G39
open PySem PySem.Spec PyProof.Rows L2 Evl
def spMade (K : PySem.W.Frag) (mg : Str → Option Value) (R : Addr) : Sp := fun vs H Q _ => ∃ one two : V, vs = [one, two] ∧ ∀ p us H', H p = none → Ex H H' → H' p = some (.lst us) → XNs K mg R H' us cls24 → Q (.ref p) H'
section
variable {P : Program} {w : World} {K : PySem.W.Frag} {mg : Str → Option Value} {base : Heap} {R : Addr}
/-- x = a new list of errors -/
theorem q_asgX {i : Nat} {te : TE} {tz : TS} {D : Ends} {σ : L2.St} {H : Hp} {xs : List Str} (h : ElX K mg R te σ H xs) (k : ∀ p H1, H p = none → Ex H H1 → LX K mg R H1 p xs → tz D (σ.set i (some (.ref p))) H1) : tSeq (tAsg te (gName i)) tz D σ H :=
  h H (Ex.refl H) _ fun p vs H1 hp e h1 hv => k p H1 hp e ⟨vs, h1, hv⟩
theorem ok_made {f : Addr} {fd : FuncData} (T : TC K mg R) (F : Fun K "_law_made" "_law_made" sMade f fd) : FnOk P w K mg base CX0 3 f fd ["_law_one", "_law_two"] (spMade K mg R) := by
  refine F.ok scMade (fun vs H Q E h => ?_) (fun cdv A outer s H vs Q E hr h => ?_)
  · obtain ⟨one, two, rfl, _⟩ := h
    rfl
  · obtain ⟨one, two, rfl, k⟩ := h
    obtain ⟨CBadText, tBadText⟩ := T.cBadText
    obtain ⟨CBadKey, tBadKey⟩ := T.cBadKey
    obtain ⟨CBadRule, tBadRule⟩ := T.cBadRule
    obtain ⟨CClash, tClash⟩ := T.cClash
    obtain ⟨CBadNodes, tBadNodes⟩ := T.cBadNodes
    obtain ⟨CBadNames, tBadNames⟩ := T.cBadNames
    obtain ⟨COrBelow, tOrBelow⟩ := T.cOrBelow
    obtain ⟨CNothingToUndo, tNothingToUndo⟩ := T.cNothingToUndo
    obtain ⟨CNothingToRedo, tNothingToRedo⟩ := T.cNothingToRedo
    obtain ⟨CBadFact, fBadFact, dBadFact, tBadFact⟩ := T.cBadFact
    obtain ⟨CBadPattern, fBadPattern, dBadPattern, tBadPattern⟩ := T.cBadPattern
    obtain ⟨CBadLine, fBadLine, dBadLine, tBadLine⟩ := T.cBadLine
    obtain ⟨CLoose, fLoose, dLoose, tLoose⟩ := T.cLoose
    obtain ⟨CNothingNew, fNothingNew, dNothingNew, tNothingNew⟩ := T.cNothingNew
    obtain ⟨CBadNode, fBadNode, dBadNode, tBadNode⟩ := T.cBadNode
    obtain ⟨CBadPart, fBadPart, dBadPart, tBadPart⟩ := T.cBadPart
    obtain ⟨CNoPart, fNoPart, dNoPart, tNoPart⟩ := T.cNoPart
    obtain ⟨CBadStrike, fBadStrike, dBadStrike, tBadStrike⟩ := T.cBadStrike
    obtain ⟨CNotAnAnswer, fNotAnAnswer, dNotAnAnswer, tNotAnAnswer⟩ := T.cNotAnAnswer
    obtain ⟨CBadQuestion, fBadQuestion, dBadQuestion, tBadQuestion⟩ := T.cBadQuestion
    obtain ⟨CNoName, fNoName, dNoName, tNoName⟩ := T.cNoName
    obtain ⟨CNotThere, fNotThere, dNotThere, tNotThere⟩ := T.cNotThere
    obtain ⟨CThereAlready, fThereAlready, dThereAlready, tThereAlready⟩ := T.cThereAlready
    obtain ⟨CBroken, fBroken, dBroken, tBroken⟩ := T.cBroken
    refine ⟨_, (pss_cons (ps_set (i := 2) scMade.nd rfl (Or.inl rfl) (pe_lst (pa_cons (pe_x0 PySem.F.excBase_ValueError tBadText.q tBadText.c.g tBadText.k (by rfl)) (pa_cons (pe_x0 PySem.F.excBase_ValueError tBadKey.q tBadKey.c.g tBadKey.k (by rfl)) (pa_cons (pe_x0 PySem.F.excBase_ValueError tBadRule.q tBadRule.c.g tBadRule.k (by rfl)) (pa_cons (pe_x0 PySem.F.excBase_ValueError tClash.q tClash.c.g tClash.k (by rfl)) (pa_cons (pe_x0 PySem.F.excBase_ValueError tBadNodes.q tBadNodes.c.g tBadNodes.k (by rfl)) (pa_cons (pe_x0 PySem.F.excBase_ValueError tBadNames.q tBadNames.c.g tBadNames.k (by rfl)) (pa_cons (pe_x0 PySem.F.excBase_ValueError tOrBelow.q tOrBelow.c.g tOrBelow.k (by rfl)) pa_nil)))))))))
      (pss_cons (ps_set (i := 2) scMade.nd rfl (Or.inl rfl) (pe_op op_cat (pv 2) (pe_lst (pa_cons (pe_x0 PySem.F.excBase_ValueError tNothingToUndo.q tNothingToUndo.c.g tNothingToUndo.k (by rfl)) (pa_cons (pe_x0 PySem.F.excBase_ValueError tNothingToRedo.q tNothingToRedo.c.g tNothingToRedo.k (by rfl)) pa_nil)))))
      (pss_cons (ps_set (i := 3) scMade.nd rfl (Or.inl rfl) (pe_lst (pa_cons (pe_mx tBadFact.o tBadFact.iC tBadFact.tI (okBadFact tBadFact) hr tBadFact.b (by rfl) tBadFact.c.g (pa_cons (pv 0) pa_nil)) (pa_cons (pe_mx tBadPattern.o tBadPattern.iC tBadPattern.tI (okBadPattern tBadPattern) hr tBadPattern.b (by rfl) tBadPattern.c.g (pa_cons (pv 0) pa_nil)) (pa_cons (pe_mx tBadLine.o tBadLine.iC tBadLine.tI (okBadLine tBadLine) hr tBadLine.b (by rfl) tBadLine.c.g (pa_cons (pv 0) pa_nil)) (pa_cons (pe_mx tLoose.o tLoose.iC tLoose.tI (okLoose tLoose) hr tLoose.b (by rfl) tLoose.c.g (pa_cons (pv 0) pa_nil)) (pa_cons (pe_mx tNothingNew.o tNothingNew.iC tNothingNew.tI (okNothingNew tNothingNew) hr tNothingNew.b (by rfl) tNothingNew.c.g (pa_cons (pv 0) pa_nil)) (pa_cons (pe_mx tBadNode.o tBadNode.iC tBadNode.tI (okBadNode tBadNode) hr tBadNode.b (by rfl) tBadNode.c.g (pa_cons (pv 0) pa_nil)) (pa_cons (pe_mx tBadPart.o tBadPart.iC tBadPart.tI (okBadPart tBadPart) hr tBadPart.b (by rfl) tBadPart.c.g (pa_cons (pv 0) pa_nil)) pa_nil)))))))))
      (pss_cons (ps_set (i := 3) scMade.nd rfl (Or.inl rfl) (pe_op op_cat (pv 3) (pe_lst (pa_cons (pe_mx tNoPart.o tNoPart.iC tNoPart.tI (okNoPart tNoPart) hr tNoPart.b (by rfl) tNoPart.c.g (pa_cons (pv 0) pa_nil)) (pa_cons (pe_mx tBadStrike.o tBadStrike.iC tBadStrike.tI (okBadStrike tBadStrike) hr tBadStrike.b (by rfl) tBadStrike.c.g (pa_cons (pv 0) pa_nil)) (pa_cons (pe_mx tNotAnAnswer.o tNotAnAnswer.iC tNotAnAnswer.tI (okNotAnAnswer tNotAnAnswer) hr tNotAnAnswer.b (by rfl) tNotAnAnswer.c.g (pa_cons (pv 0) pa_nil)) (pa_cons (pe_mx tBadQuestion.o tBadQuestion.iC tBadQuestion.tI (okBadQuestion tBadQuestion) hr tBadQuestion.b (by rfl) tBadQuestion.c.g (pa_cons (pv 0) pa_nil)) (pa_cons (pe_mx tNoName.o tNoName.iC tNoName.tI (okNoName tNoName) hr tNoName.b (by rfl) tNoName.c.g (pa_cons (pv 0) pa_nil)) (pa_cons (pe_mx tNotThere.o tNotThere.iC tNotThere.tI (okNotThere tNotThere) hr tNotThere.b (by rfl) tNotThere.c.g (pa_cons (pv 0) pa_nil)) pa_nil)))))))))
      (pss_one (ps_ret (pe_op op_cat (pe_op op_cat (pv 2) (pv 3)) (pe_lst (pa_cons (pe_mx tThereAlready.o tThereAlready.iC tThereAlready.tI (okThereAlready tThereAlready) hr tThereAlready.b (by rfl) tThereAlready.c.g (pa_cons (pv 0) pa_nil)) (pa_cons (pe_mx tBroken.o tBroken.iC tBroken.tI (okBroken tBroken) hr tBroken.b (by rfl) tBroken.c.g (pa_cons (pv 0) (pa_cons (pv 1) pa_nil))) pa_nil)))))))))), ?_⟩
    refine q_asgX (elx_lst (eax_cons (ep_x0 tBadText) (eax_cons (ep_x0 tBadKey) (eax_cons (ep_x0 tBadRule) (eax_cons (ep_x0 tClash) (eax_cons (ep_x0 tBadNodes) (eax_cons (ep_x0 tBadNames) (eax_cons (ep_x0 tOrBelow) eax_nil))))))) (by show 7 ≤ 1000; decide)) fun p1 H1 n1 e1 l1 => ?_
    refine q_asgX (elx_cat rfl l1 (elx_lst (eax_cons (ep_x0 tNothingToUndo) (eax_cons (ep_x0 tNothingToRedo) eax_nil)) (by show 2 ≤ 1000; decide)) (by show 7 + 2 ≤ 1000; decide)) fun p2 H2 n2 e2 l2 => ?_
    refine q_asgX (elx_lst (eax_cons (ep_x1 tBadFact (ev_var rfl)) (eax_cons (ep_x1 tBadPattern (ev_var rfl)) (eax_cons (ep_x1 tBadLine (ev_var rfl)) (eax_cons (ep_x1 tLoose (ev_var rfl)) (eax_cons (ep_x1 tNothingNew (ev_var rfl)) (eax_cons (ep_x1 tBadNode (ev_var rfl)) (eax_cons (ep_x1 tBadPart (ev_var rfl)) eax_nil))))))) (by show 7 ≤ 1000; decide)) fun p3 H3 n3 e3 l3 => ?_
    refine q_asgX (elx_cat rfl l3 (elx_lst (eax_cons (ep_x1 tNoPart (ev_var rfl)) (eax_cons (ep_x1 tBadStrike (ev_var rfl)) (eax_cons (ep_x1 tNotAnAnswer (ev_var rfl)) (eax_cons (ep_x1 tBadQuestion (ev_var rfl)) (eax_cons (ep_x1 tNoName (ev_var rfl)) (eax_cons (ep_x1 tNotThere (ev_var rfl)) eax_nil)))))) (by show 6 ≤ 1000; decide)) (by show 7 + 6 ≤ 1000; decide)) fun p4 H4 n4 e4 l4 => ?_
    have l2' := l2.mono (e3.trans e4)
    refine elx_cat2 (elx_var2 rfl rfl l2' l4 (by show 9 + 13 ≤ 1000; decide)) (elx_lst (eax_cons (ep_x1 tThereAlready (ev_var rfl)) (eax_cons (ep_x2 tBroken (ev_var rfl) (ev_var rfl)) eax_nil)) (by show 2 ≤ 1000; decide)) (by show 22 + 2 ≤ 1000; decide) H4 (Ex.refl _) _ fun p us H5 hp e5 h5 hu => ?_
    have eA := ((e1.trans e2).trans e3).trans e4
    exact k p us H5 (fresh_back eA hp) (eA.trans e5) h5 hu
/-- a new error of C with the fields fs -/
def EvX (te : TE) (σ : L2.St) (H : Hp) (C : Addr) (fs : List (Str × V)) : Prop := ∀ H1, Ex H H1 → ∀ Q : VK, (∀ x H2, Ex H1 H2 → XF H2 x C fs → Q x H2) → te σ H1 Q
theorem ev_fld {te : TE} {σ : L2.St} {H : Hp} {C : Addr} {fs : List (Str × V)} {n : Str} {v : V} (hx : EvX te σ H C fs) (T : EC K R C) (no : PySem.W.findIn K (.ref C) n = some none) (l : fs.lookup n = some v) : Ev (tXfl K R n te) σ H v := fun H1 e Q q =>
  hx H1 e _ fun x H2 e2 hf => by
    obtain ⟨a, d, rfl, h1, h2⟩ := hf
    exact ⟨a, C, d, fs, v, rfl, T, no, h1, h2, l, q H2 e2⟩
theorem look1 {f : Str} {v : V} : [(f, v)].lookup f = some v := by simp [List.lookup]
theorem ex_1 {te : TE} {σ : L2.St} {H : Hp} {C : Addr} {f : Str} {v : V} (h : Ev te σ H v) : EvX (tMx C (spI1 C f) (tCons te tNil)) σ H C [(f, v)] := fun H1 e Q q =>
  h H1 e _ fun H2 e2 => ⟨by show 1 ≤ 1000; decide, mx1 fun z H3 e3 hz => q z H3 (e2.trans e3) hz⟩
theorem ex_1k {te : TE} {σ : L2.St} {H : Hp} {C : Addr} {f : Str} {v : V} (h : Ev te σ H v) : EvX (tMk C (spI1 C f) 1 id (tCons te tNil)) σ H C [(f, v)] := fun H1 e Q q =>
  h H1 e _ fun H2 e2 => ⟨rfl, mx1 fun z H3 e3 hz => q z H3 (e2.trans e3) hz⟩
theorem ex_2 {te tf : TE} {σ : L2.St} {H : Hp} {C : Addr} {f g : Str} {v y : V} (h : Ev te σ H v) (h' : Ev tf σ H y) : EvX (tMx C (spI2 C f g) (tCons te (tCons tf tNil))) σ H C [(g, y), (f, v)] := fun H1 e Q q =>
  h H1 e _ fun H2 e2 => h' H2 (e.trans e2) _ fun H3 e3 => ⟨by show 2 ≤ 1000; decide, mx2 fun z H4 e4 hz => q z H4 ((e2.trans e3).trans e4) hz⟩
theorem ex_2k {te tf : TE} {σ : L2.St} {H : Hp} {C : Addr} {f g : Str} {v y : V} (h : Ev te σ H v) (h' : Ev tf σ H y) : EvX (tMk C (spI2 C f g) 2 id (tCons te (tCons tf tNil))) σ H C [(g, y), (f, v)] := fun H1 e Q q =>
  h H1 e _ fun H2 e2 => h' H2 (e.trans e2) _ fun H3 e3 => ⟨rfl, mx2 fun z H4 e4 hz => q z H4 ((e2.trans e3).trans e4) hz⟩
theorem ex_2r {te tf : TE} {σ : L2.St} {H : Hp} {C : Addr} {f g : Str} {v y : V} (h' : Ev tf σ H y) (h : Ev te σ H v) : EvX (tMk C (spI2 C f g) 2 List.reverse (tCons tf (tCons te tNil))) σ H C [(g, y), (f, v)] := fun H1 e Q q =>
  h' H1 e _ fun H2 e2 => h H2 (e.trans e2) _ fun H3 e3 => ⟨rfl, mx2 fun z H4 e4 hz => q z H4 ((e2.trans e3).trans e4) hz⟩
theorem vals_rev : ∀ {zs : List V} {ws : List Value}, Vals zs ws → Vals zs.reverse ws.reverse
  | _, _, .nil => .nil
  | _, _, .cons r t => by
    rw [List.reverse_cons, List.reverse_cons]
    exact (vals_rev t).append (.cons r .nil)
theorem xb1 {qual f : Str} {st : Stmt} {fI : Addr} {fd : FuncData} (F : Fun K "__init__" qual st fI fd)
    (h : ∀ (kV doc pm : Value) (an : Option Addr) (cdv ct a v : Value), bindArgs (PySem.W.fnOf "__init__" qual (defArgs st) (defBody st) (defScope st) .none kV doc pm an cdv ct) ⟨[a], [(f, v)]⟩ = pure [(("self" : Str), a), (f, v)]) :
    XBinds K fd ["self", f] [f] id id := by
  obtain ⟨oc, od, kV, doc, pm, an, cdv, ct, osl, rfl, lk, hcd⟩ := F.ex
  refine ⟨fun a s ws _ hl _ => ?_, fun r => r⟩
  match ws, hl with
  | [v], _ => exact .of_eq (h kV doc pm an cdv ct (.ref a) v)
theorem xb2 {qual f g : Str} {st : Stmt} {fI : Addr} {fd : FuncData} (F : Fun K "__init__" qual st fI fd)
    (h : ∀ (kV doc pm : Value) (an : Option Addr) (cdv ct a v y : Value), bindArgs (PySem.W.fnOf "__init__" qual (defArgs st) (defBody st) (defScope st) .none kV doc pm an cdv ct) ⟨[a], [(f, v), (g, y)]⟩ = pure [(("self" : Str), a), (f, v), (g, y)]) :
    XBinds K fd ["self", f, g] [f, g] id id := by
  obtain ⟨oc, od, kV, doc, pm, an, cdv, ct, osl, rfl, lk, hcd⟩ := F.ex
  refine ⟨fun a s ws _ hl _ => ?_, fun r => r⟩
  match ws, hl with
  | [v, y], _ => exact .of_eq (h kV doc pm an cdv ct (.ref a) v y)
theorem xb2r {qual f g : Str} {st : Stmt} {fI : Addr} {fd : FuncData} (F : Fun K "__init__" qual st fI fd)
    (h : ∀ (kV doc pm : Value) (an : Option Addr) (cdv ct a v y : Value), bindArgs (PySem.W.fnOf "__init__" qual (defArgs st) (defBody st) (defScope st) .none kV doc pm an cdv ct) ⟨[a], [(g, y), (f, v)]⟩ = pure [(("self" : Str), a), (f, v), (g, y)]) :
    XBinds K fd ["self", f, g] [g, f] List.reverse List.reverse := by
  obtain ⟨oc, od, kV, doc, pm, an, cdv, ct, osl, rfl, lk, hcd⟩ := F.ex
  refine ⟨fun a s ws _ hl _ => ?_, fun r => vals_rev r⟩
  match ws, hl with
  | [y, v], _ => exact .of_eq (h kV doc pm an cdv ct (.ref a) v y)
theorem flat1 : ∀ (n : Nat) (x : V), (List.replicate n [x]).flatten = List.replicate n x
  | 0, _ => rfl
  | n + 1, x => by
    rw [List.replicate_succ, List.flatten_cons, flat1 n x]
    rfl
theorem shown_ok : ∀ d ∈ ten, PyData.strOk d.shown = true := by
  intro d hd
  simp only [ten, List.mem_cons, List.not_mem_nil, or_false] at hd
  rcases hd with rfl | rfl | rfl | rfl | rfl | rfl | rfl | rfl | rfl | rfl
  all_goals decide +kernel
def spKept (K : PySem.W.Frag) : Sp := fun vs H Q _ => ∃ (one two : V) (d1 d2 : PyData), vs = [one, two] ∧ d1 ∈ ten ∧ d2 ∈ ten ∧ (∀ H', Ex H H' → Shw K H' one d1) ∧ (∀ H', Ex H H' → Shw K H' two d2) ∧ ∀ H', Ex H H' → Q (.bl true) H'
theorem ok_kept {f : Addr} {fd : FuncData} (T : TC K mg R) (mR : mg "repr" = none) (F : Fun K "_law_kept" "_law_kept" sKept f fd) : FnG P w K mg base 3 f fd ["_law_one", "_law_two"] (spKept K) := by
  refine okG F scKept (fun vs H Q E h => ?_) (fun cdv A outer s H vs Q E hG hr h => ?_)
  · obtain ⟨one, two, d1, d2, rfl, _⟩ := h
    rfl
  · obtain ⟨one, two, d1, d2, rfl, i1, i2, s1, s2, k⟩ := h
    obtain ⟨CBadFact, fBadFact, dBadFact, tBadFact⟩ := T.cBadFact
    obtain ⟨CBadPattern, fBadPattern, dBadPattern, tBadPattern⟩ := T.cBadPattern
    obtain ⟨CBadLine, fBadLine, dBadLine, tBadLine⟩ := T.cBadLine
    obtain ⟨CLoose, fLoose, dLoose, tLoose⟩ := T.cLoose
    obtain ⟨CNothingNew, fNothingNew, dNothingNew, tNothingNew⟩ := T.cNothingNew
    obtain ⟨CBadNode, fBadNode, dBadNode, tBadNode⟩ := T.cBadNode
    obtain ⟨CBadPart, fBadPart, dBadPart, tBadPart⟩ := T.cBadPart
    obtain ⟨CNoPart, fNoPart, dNoPart, tNoPart⟩ := T.cNoPart
    obtain ⟨CBadStrike, fBadStrike, dBadStrike, tBadStrike⟩ := T.cBadStrike
    obtain ⟨CNotAnAnswer, fNotAnAnswer, dNotAnAnswer, tNotAnAnswer⟩ := T.cNotAnAnswer
    obtain ⟨CBadQuestion, fBadQuestion, dBadQuestion, tBadQuestion⟩ := T.cBadQuestion
    obtain ⟨CNoName, fNoName, dNoName, tNoName⟩ := T.cNoName
    obtain ⟨CNotThere, fNotThere, dNotThere, tNotThere⟩ := T.cNotThere
    obtain ⟨CThereAlready, fThereAlready, dThereAlready, tThereAlready⟩ := T.cThereAlready
    obtain ⟨CBroken, fBroken, dBroken, tBroken⟩ := T.cBroken
    have xBadFact := xb1 (f := "value") tBadFact.F (fun _ _ _ _ _ _ _ _ => rfl)
    have xBadLine := xb1 (f := "line") tBadLine.F (fun _ _ _ _ _ _ _ _ => rfl)
    have xNothingNew := xb1 (f := "index") tNothingNew.F (fun _ _ _ _ _ _ _ _ => rfl)
    have xBadPart := xb1 (f := "part") tBadPart.F (fun _ _ _ _ _ _ _ _ => rfl)
    have xBadStrike := xb1 (f := "value") tBadStrike.F (fun _ _ _ _ _ _ _ _ => rfl)
    have xNotAnAnswer := xb1 (f := "known") tNotAnAnswer.F (fun _ _ _ _ _ _ _ _ => rfl)
    have xNoName := xb1 (f := "value") tNoName.F (fun _ _ _ _ _ _ _ _ => rfl)
    have xNotThere := xb1 (f := "fact") tNotThere.F (fun _ _ _ _ _ _ _ _ => rfl)
    have xBrokenk := xb2 (f := "index") (g := "shown") tBroken.F (fun _ _ _ _ _ _ _ _ _ => rfl)
    have xBrokenr := xb2r (f := "index") (g := "shown") tBroken.F (fun _ _ _ _ _ _ _ _ _ => rfl)
    refine ⟨_, (pss_cons (ps_set (i := 2) scKept.nd rfl (Or.inl rfl) (pe_lst (pa_cons (pe_xfl (R := R) (pe_mk tBadFact.o tBadFact.iC tBadFact.tI (okBadFact tBadFact) hr xBadFact (by rfl) tBadFact.c.g (pk_cons (pv 0) pk_nil))) (pa_cons (pe_xfl (R := R) (pe_mx tBadPattern.o tBadPattern.iC tBadPattern.tI (okBadPattern tBadPattern) hr tBadPattern.b (by rfl) tBadPattern.c.g (pa_cons (pv 0) pa_nil))) (pa_cons (pe_xfl (R := R) (pe_mk tBadLine.o tBadLine.iC tBadLine.tI (okBadLine tBadLine) hr xBadLine (by rfl) tBadLine.c.g (pk_cons (pv 0) pk_nil))) (pa_cons (pe_xfl (R := R) (pe_mx tLoose.o tLoose.iC tLoose.tI (okLoose tLoose) hr tLoose.b (by rfl) tLoose.c.g (pa_cons (pv 0) pa_nil))) pa_nil))))))
      (pss_cons (ps_set (i := 2) scKept.nd rfl (Or.inl rfl) (pe_op op_cat (pv 2) (pe_lst (pa_cons (pe_xfl (R := R) (pe_mk tNothingNew.o tNothingNew.iC tNothingNew.tI (okNothingNew tNothingNew) hr xNothingNew (by rfl) tNothingNew.c.g (pk_cons (pv 0) pk_nil))) (pa_cons (pe_xfl (R := R) (pe_mx tBadNode.o tBadNode.iC tBadNode.tI (okBadNode tBadNode) hr tBadNode.b (by rfl) tBadNode.c.g (pa_cons (pv 0) pa_nil))) (pa_cons (pe_xfl (R := R) (pe_mk tBadPart.o tBadPart.iC tBadPart.tI (okBadPart tBadPart) hr xBadPart (by rfl) tBadPart.c.g (pk_cons (pv 0) pk_nil))) (pa_cons (pe_xfl (R := R) (pe_mx tNoPart.o tNoPart.iC tNoPart.tI (okNoPart tNoPart) hr tNoPart.b (by rfl) tNoPart.c.g (pa_cons (pv 0) pa_nil))) pa_nil)))))))
      (pss_cons (ps_set (i := 2) scKept.nd rfl (Or.inl rfl) (pe_op op_cat (pv 2) (pe_lst (pa_cons (pe_xfl (R := R) (pe_mk tBadStrike.o tBadStrike.iC tBadStrike.tI (okBadStrike tBadStrike) hr xBadStrike (by rfl) tBadStrike.c.g (pk_cons (pv 0) pk_nil))) (pa_cons (pe_xfl (R := R) (pe_mk tNotAnAnswer.o tNotAnAnswer.iC tNotAnAnswer.tI (okNotAnAnswer tNotAnAnswer) hr xNotAnAnswer (by rfl) tNotAnAnswer.c.g (pk_cons (pv 0) pk_nil))) (pa_cons (pe_xfl (R := R) (pe_mx tBadQuestion.o tBadQuestion.iC tBadQuestion.tI (okBadQuestion tBadQuestion) hr tBadQuestion.b (by rfl) tBadQuestion.c.g (pa_cons (pv 0) pa_nil))) pa_nil))))))
      (pss_cons (ps_set (i := 2) scKept.nd rfl (Or.inl rfl) (pe_op op_cat (pv 2) (pe_lst (pa_cons (pe_xfl (R := R) (pe_mk tNoName.o tNoName.iC tNoName.tI (okNoName tNoName) hr xNoName (by rfl) tNoName.c.g (pk_cons (pv 0) pk_nil))) (pa_cons (pe_xfl (R := R) (pe_mk tNotThere.o tNotThere.iC tNotThere.tI (okNotThere tNotThere) hr xNotThere (by rfl) tNotThere.c.g (pk_cons (pv 0) pk_nil))) (pa_cons (pe_xfl (R := R) (pe_mx tThereAlready.o tThereAlready.iC tThereAlready.tI (okThereAlready tThereAlready) hr tThereAlready.b (by rfl) tThereAlready.c.g (pa_cons (pv 0) pa_nil))) pa_nil))))))
      (pss_cons (ps_set (i := 2) scKept.nd rfl (Or.inl rfl) (pe_op op_cat (pv 2) (pe_lst (pa_cons (pe_xfl (R := R) (pe_mx tBroken.o tBroken.iC tBroken.tI (okBroken tBroken) hr tBroken.b (by rfl) tBroken.c.g (pa_cons (pv 0) (pa_cons (pv 1) pa_nil)))) (pa_cons (pe_xfl (R := R) (pe_mk tBroken.o tBroken.iC tBroken.tI (okBroken tBroken) hr xBrokenr (by rfl) tBroken.c.g (pk_cons (pv 1) (pk_cons (pv 0) pk_nil)))) pa_nil)))))
      (pss_cons (ps_set (i := 3) scKept.nd rfl (Or.inl rfl) (pe_lst (pa_cons (pe_xfl (R := R) (pe_mx tBroken.o tBroken.iC tBroken.tI (okBroken tBroken) hr tBroken.b (by rfl) tBroken.c.g (pa_cons (pv 0) (pa_cons (pv 1) pa_nil)))) (pa_cons (pe_xfl (R := R) (pe_mk tBroken.o tBroken.iC tBroken.tI (okBroken tBroken) hr xBrokenk (by rfl) tBroken.c.g (pk_cons (pv 0) (pk_cons (pv 1) pk_nil)))) pa_nil))))
      (pss_one (ps_ret (pe_cmpR (op_eqD hr.units) (pe_lc (own := [("_law_value_here", 4)]) (g := gName 4) (tt := tYes) rfl scKept.nd (pi_list (pe_op op_cat (pv 2) (pv 3))) (blkOk_by (N := ["_law_one", "_law_two", "_law_found", "_law_second", "_law_value_here"]) (sc := defScope sKept) (by decide +kernel)) (fun _ _ _ _ _ => pg_name (i := 4) scKept.nd rfl (Or.inl rfl)) (fun _ _ _ _ _ => pts_nil) (fun _ _ _ _ _ => (pe_callB (call_reprK (K := K) rfl hG hr) (by rfl) mR PyProof.Rows.boot_repr (pa_cons (pv 4) pa_nil)))) (pe_op op_cat (pe_op op_rep (pe_lst (pa_cons (pe_callB (call_reprK (K := K) rfl hG hr) (by rfl) mR PyProof.Rows.boot_repr (pa_cons (pv 0) pa_nil)) pa_nil)) pe_int) (pe_op op_rep (pe_lst (pa_cons (pe_callB (call_reprK (K := K) rfl hG hr) (by rfl) mR PyProof.Rows.boot_repr (pa_cons (pv 1) pa_nil)) pa_nil)) pe_int)) (nomark _)))))))))), ?_⟩
    refine q_asgL (el_lst (ea_cons (ev_fld (ex_1k (ev_var rfl)) tBadFact.c.e (tBadFact.no _ (List.mem_cons_self ..)) look1) (ea_cons (ev_fld (ex_1 (ev_var rfl)) tBadPattern.c.e (tBadPattern.no _ (List.mem_cons_self ..)) look1) (ea_cons (ev_fld (ex_1k (ev_var rfl)) tBadLine.c.e (tBadLine.no _ (List.mem_cons_self ..)) look1) (ea_cons (ev_fld (ex_1 (ev_var rfl)) tLoose.c.e (tLoose.no _ (List.mem_cons_self ..)) look1) ea_nil)))) (by show 4 ≤ 100000; decide)) fun p0 H1 np0 e1 hp0 => ?_
    refine q_asgL (el_catV rfl hp0 (el_lst (ea_cons (ev_fld (ex_1k (ev_var rfl)) tNothingNew.c.e (tNothingNew.no _ (List.mem_cons_self ..)) look1) (ea_cons (ev_fld (ex_1 (ev_var rfl)) tBadNode.c.e (tBadNode.no _ (List.mem_cons_self ..)) look1) (ea_cons (ev_fld (ex_1k (ev_var rfl)) tBadPart.c.e (tBadPart.no _ (List.mem_cons_self ..)) look1) (ea_cons (ev_fld (ex_1 (ev_var rfl)) tNoPart.c.e (tNoPart.no _ (List.mem_cons_self ..)) look1) ea_nil)))) (by show 4 ≤ 100000; decide)) (by show 4 + 4 ≤ 1000; decide)) fun p1 H2 np1 e2 hp1 => ?_
    refine q_asgL (el_catV rfl hp1 (el_lst (ea_cons (ev_fld (ex_1k (ev_var rfl)) tBadStrike.c.e (tBadStrike.no _ (List.mem_cons_self ..)) look1) (ea_cons (ev_fld (ex_1k (ev_var rfl)) tNotAnAnswer.c.e (tNotAnAnswer.no _ (List.mem_cons_self ..)) look1) (ea_cons (ev_fld (ex_1 (ev_var rfl)) tBadQuestion.c.e (tBadQuestion.no _ (List.mem_cons_self ..)) look1) ea_nil))) (by show 3 ≤ 100000; decide)) (by show 8 + 3 ≤ 1000; decide)) fun p2 H3 np2 e3 hp2 => ?_
    refine q_asgL (el_catV rfl hp2 (el_lst (ea_cons (ev_fld (ex_1k (ev_var rfl)) tNoName.c.e (tNoName.no _ (List.mem_cons_self ..)) look1) (ea_cons (ev_fld (ex_1k (ev_var rfl)) tNotThere.c.e (tNotThere.no _ (List.mem_cons_self ..)) look1) (ea_cons (ev_fld (ex_1 (ev_var rfl)) tThereAlready.c.e (tThereAlready.no _ (List.mem_cons_self ..)) look1) ea_nil))) (by show 3 ≤ 100000; decide)) (by show 11 + 3 ≤ 1000; decide)) fun p3 H4 np3 e4 hp3 => ?_
    refine q_asgL (el_catV rfl hp3 (el_lst (ea_cons (ev_fld (ex_2 (ev_var rfl) (ev_var rfl)) tBroken.c.e (tBroken.no _ (List.mem_cons_self ..)) rfl) (ea_cons (ev_fld (ex_2r (ev_var rfl) (ev_var rfl)) tBroken.c.e (tBroken.no _ (List.mem_cons_self ..)) rfl) ea_nil)) (by show 2 ≤ 100000; decide)) (by show 14 + 2 ≤ 1000; decide)) fun p4 H5 np4 e5 hp4 => ?_
    refine q_asgL (el_lst (ea_cons (ev_fld (ex_2 (ev_var rfl) (ev_var rfl)) tBroken.c.e (tBroken.no _ (List.mem_cons_of_mem _ (List.mem_cons_self ..))) rfl) (ea_cons (ev_fld (ex_2k (ev_var rfl) (ev_var rfl)) tBroken.c.e (tBroken.no _ (List.mem_cons_of_mem _ (List.mem_cons_self ..))) rfl) ea_nil)) (by show 2 ≤ 100000; decide)) fun p5 H6 np5 e6 hp5 => ?_
    have hq4 : H6 p4 = some (.lst (List.replicate 16 one)) := e6 _ _ hp4
    have hq5 : H6 p5 = some (.lst (List.replicate 2 two)) := hp5
    have eA : Ex H H6 := ((((e1.trans e2).trans e3).trans e4).trans e5).trans e6
    have at18 : ∀ (i : Nat) (x : V), (List.replicate 16 one ++ List.replicate 2 two)[i]? = some x → (i < 16 ∧ x = one) ∨ (¬ i < 16 ∧ x = two) := fun i x z => by
      rw [List.getElem?_append, List.length_replicate] at z
      by_cases c : i < 16
      · rw [if_pos c, List.getElem?_replicate, if_pos c] at z
        exact .inl ⟨c, (Option.some.inj z).symm⟩
      · rw [if_neg c, List.getElem?_replicate] at z
        split at z
        · exact .inr ⟨c, (Option.some.inj z).symm⟩
        · cases z
    have rep : ∀ {i : Nat} {σ : L2.St} {H1 : Hp} {v : V} {dd : PyData}, σ[i]? = some (some v) → dd ∈ ten → (∀ H', Ex H1 H' → Shw K H' v dd) → Ev (tCB (rRepr K) (tCons (tVar i) tNil)) σ H1 (.str dd.shown) :=
      fun hs hd sh H1 e1 Q q => ⟨_, hs, _, _, rfl, sh H1 e1, fits _ hd, q H1 (Ex.refl _)⟩
    have lft := el_lcNL (K := K) (H := H6) (σ := [some one, some two, some (.ref p4), some (.ref p5), none]) (tl := tOp rCat (tVar 2) (tVar 3)) (t := tYes) (te := tCB (rRepr K) (tCons (tVar 4) tNil)) (j := 4) (vs := [4])
      (fun _ => true) (fun i => .str (if i < 16 then d1.shown else d2.shown)) (el_catVV rfl rfl hq4 hq5 (by show 16 + 2 ≤ 1000; decide)) (by show 18 ≤ 40000; decide) (fun _ => rfl)
      (fun i x H7 e7 z => fun H8 e8 Q q => q H8 (Ex.refl _))
      (fun i x H7 e7 z _ => by
        rcases at18 i x z with ⟨c, rfl⟩ | ⟨c, rfl⟩
        · rw [if_pos c]
          exact rep rfl i1 fun H' e' => s1 H' (eA.trans (e7.trans e'))
        · rw [if_neg c]
          exact rep rfl i2 fun H' e' => s2 H' (eA.trans (e7.trans e')))
    have elr : ∀ {te : TE} {σ : L2.St} {Hx : Hp} {x : V} {n : Nat}, Ev te σ Hx x → n ≤ 100 → EvL (tOp rRep (tLst (tCons te tNil)) (tC (.int (n : Int)))) σ Hx (List.replicate n x) := fun {te σ Hx x n} h hn => by
      intro H1 e1 Q q
      refine el_lst (ea_cons h ea_nil) (by show 1 ≤ 100000; decide) H1 e1 _ fun p H2 np e2 h2 => ?_
      refine ⟨p, (n : Int), [x], rfl, rfl, h2, by omega, by omega, ?_, fun l hl => ?_⟩
      · show 1 * ((n : Int)).toNat ≤ sizeLine
        rw [sizeLine_eq]
        omega
      · have z : (List.replicate ((n : Int)).toNat [x]).flatten = List.replicate n x := by
          rw [Int.toNat_natCast]
          exact flat1 n x
        rw [z]
        exact q l _ (fresh_back e2 hl) (e2.trans (Ex.new hl)) upd_same
    have rgt := el_catN (elr (n := 16) (rep (i := 0) (σ := [some one, some two, some (.ref p4), some (.ref p5), none]) rfl i1 fun H' e' => s1 H' (eA.trans e')) (by decide))
      (elr (n := 2) (rep (i := 1) (σ := [some one, some two, some (.ref p4), some (.ref p5), none]) rfl i2 fun H' e' => s2 H' (eA.trans e')) (by decide)) (by show 16 + 2 ≤ 1000; decide)
    have same : given (List.replicate 16 one ++ List.replicate 2 two).length (fun _ => true) (fun i => V.str (if i < 16 then d1.shown else d2.shown)) = List.replicate 16 (V.str d1.shown) ++ List.replicate 2 (V.str d2.shown) := rfl
    rw [same] at lft
    have ok1 : PyData.strOk d1.shown = true := shown_ok d1 i1
    have ok2 : PyData.strOk d2.shown = true := shown_ok d2 i2
    have dpS : ∀ (H' : Hp) (a b : Nat), DpAll K H' (List.replicate a (V.str d1.shown) ++ List.replicate b (V.str d2.shown)) (List.replicate a (PyData.str d1.shown) ++ List.replicate b (PyData.str d2.shown)) := fun H' a b => by
      induction a with
      | zero =>
        induction b with
        | zero => exact .nil
        | succ b ih => exact .cons (.str _) ih
      | succ a ih => exact .cons (.str _) ih
    have shp : SeqAt.shaped (.list (List.replicate 16 (PyData.str d1.shown) ++ List.replicate 2 (PyData.str d2.shown))) = true := by
      simp [SeqAt.shaped, PyData.canLay0, PyData.canLayAll0, PyData.depth, PyData.depthAll, List.replicate, ok1, ok2]
    refine s_ret (ev_opLL lft rgt fun p q H7 hp hq e7 => ?_) fun H7 e7 => k H7 (eA.trans e7)
    have dl : Dp K H7 (.ref p) (.list _) := .lst (sq_of hp) (dpS H7 16 2)
    have dr : Dp K H7 (.ref q) (.list _) := .lst (sq_of hq) (dpS H7 16 2)
    have eq : PyData.eqv (.list (List.replicate 16 (PyData.str d1.shown) ++ List.replicate 2 (PyData.str d2.shown))) (.list (List.replicate 16 (PyData.str d1.shown) ++ List.replicate 2 (PyData.str d2.shown))) = true := SeqAt.eqv_refl _ (SeqAt.canLay_of_shaped shp)
    intro H8 e8 Q' q'
    refine ⟨_, _, .lst (sq_of (e8 _ _ hp)) (dpS H8 16 2), .lst (sq_of (e8 _ _ hq)) (dpS H8 16 2), shp, shp, ?_⟩
    rw [eq]
    exact q' H8 (Ex.refl _)
end
end G39

namespace G39
open PySem PySem.Spec PyProof.Rows L2 Evl
abbrev sLaw : Stmt := topS 33
abbrev nLaw : List Str := ["_law_script", "_law_cell", "_law_source_here", "_law_one", "_law_two", "_law_made_here", "_law_e"]
theorem scLaw : FnScope nLaw ["_law_script"] (defScope sLaw) := ⟨rfl, rfl, rfl, by decide +kernel, rfl, by decide +kernel, by decide +kernel⟩
def spLaw (K : PySem.W.Frag) : Sp := fun vs H Q _ => ∃ (a : Addr) (ns : List Int), vs = [.ref a] ∧ SqL K H a (ns.map V.int) ∧ (∀ z ∈ ns, Builtin.Int.intBits z ≤ 1048576) ∧ ns.length ≤ 63 ∧ ∀ H', Q (.bl true) H'
theorem mem_cut {xs : List V} {lo hi : Option Int} {x : V} (h : x ∈ cutV xs lo hi) : x ∈ xs := List.mem_of_mem_drop (List.mem_of_mem_take h)
theorem XNs.get {K : PySem.W.Frag} {mg : Str → Option Value} {R : Addr} {H : Hp} : ∀ {vs : List V} {xs : List Str} {i : Nat} {v : V}, XNs K mg R H vs xs → vs[i]? = some v → ∃ x ∈ xs, XN K mg R H v x
  | _, _, _, _, .nil, e => by simp at e
  | _, _, 0, _, .cons r _, e => by
    simp at e
    subst e
    exact ⟨_, List.mem_cons_self .., r⟩
  | _, _, i + 1, v, .cons _ t, e => by
    obtain ⟨x, h1, h2⟩ := XNs.get (i := i) (v := v) t (by simpa using e)
    exact ⟨x, List.mem_cons_of_mem _ h1, h2⟩
section
variable {P : Program} {w : World} {K : PySem.W.Frag} {mg : Str → Option Value} {base : Heap} {R : Addr}
/-- the defs of the law -/
structure TL (K : PySem.W.Frag) (mg : Str → Option Value) (R : Addr) : Prop where
  c : TC K mg R
  mInt : mg "int" = none
  mI : mg "isinstance" = none
  mL : mg "len" = none
  mR : mg "repr" = none
  mV : mg "ValueError" = none
  draw : ∃ f fd, DefAt K mg "_law_draw" sDraw ["_law_source_here", "_law_limit"] f fd
  source : ∃ f fd, DefAt K mg "_law_source" sSource ["_law_cell"] f fd
  value : ∃ f fd, DefAt K mg "_law_value" sValue ["_law_source_here"] f fd
  made : ∃ f fd, DefAt K mg "_law_made" sMade ["_law_one", "_law_two"] f fd
  kept : ∃ f fd, DefAt K mg "_law_kept" sKept ["_law_one", "_law_two"] f fd
  classes : ∃ f fd, DefAt K mg "_law_classes" sClasses ["_law_e"] f fd
theorem ok_law {f : Addr} {fd : FuncData} (T : TL K mg R) (F : Fun K "law" "law" sLaw f fd) : FnG P w K mg base 4 f fd ["_law_script"] (spLaw K) := by
  obtain ⟨fD, dD, DD⟩ := T.draw
  obtain ⟨fS, dS, DS⟩ := T.source
  obtain ⟨fV, dV, DV⟩ := T.value
  obtain ⟨fM, dM, DM⟩ := T.made
  obtain ⟨fK, dK, DK⟩ := T.kept
  obtain ⟨fC, dC, DC⟩ := T.classes
  have GS : FnOk P w K mg base CX0 1 fS dS ["_law_cell"] spSource := ok_source DS.F
  have GV : FnOk P w K mg base CX0 2 fV dV ["_law_source_here"] (spValue K) := ok_value T.mInt DV.F DD
  have GM : FnOk P w K mg base CX0 3 fM dM ["_law_one", "_law_two"] (spMade K mg R) := ok_made T.c DM.F
  have GK : FnG P w K mg base 3 fK dK ["_law_one", "_law_two"] (spKept K) := ok_kept T.c T.mR DK.F
  have GC : FnOk P w K mg base CX0 1 fC dC ["_law_e"] (spClasses K mg R) := ok_classes T.c T.mI T.mL DC.F
  refine okG F scLaw (fun vs H Q E h => ?_) (fun cdv A outer s H vs Q E hG hr h => ?_)
  · obtain ⟨a, ns, rfl, _⟩ := h
    rfl
  · obtain ⟨a, ns, rfl, hS, hbits, hlen, k⟩ := h
    have hr1 : Room 1 _ := hr.mono (by decide)
    have hr2 : Room 2 _ := hr.mono (by decide)
    refine ⟨_, pss_cons (ps_for PassesOwn.never rfl (pi_list (pe_op op_cat (pe_slice sl_list (pv 0) po_none (po_some pe_int)) (pe_lst (pa_cons pe_int pa_nil)))) (pg_name (i := 1) scLaw.nd rfl (Or.inl rfl))
        (pss_cons (ps_set (i := 2) scLaw.nd rfl (Or.inl rfl) (pe_call GS hr1 (by rfl) DS.g DS.F.kp DS.b .nil pass0 (pa_cons (pv 1) pa_nil)))
        (pss_cons (ps_par (i := 3) (j := 4) (by rfl) scLaw.nd rfl rfl (by decide) rfl rfl (pa_cons (pe_call GV hr2 (by rfl) DV.g DV.F.kp DV.b .nil pass0 (pa_cons (pv 2) pa_nil)) (pa_cons (pe_call GV hr2 (by rfl) DV.g DV.F.kp DV.b .nil pass0 (pa_cons (pv 2) pa_nil)) pa_nil)) (by rfl))
        (pss_cons (ps_set (i := 5) scLaw.nd rfl (Or.inl rfl) (pe_call GM hr (by rfl) DM.g DM.F.kp DM.b .nil pass0 (pa_cons (pv 3) (pa_cons (pv 4) pa_nil))))
        (pss_cons (ps_if (PW.pt (pw_or (pt_cmpR op_ne (pe_callB call_len_seq (by rfl) T.mL PySem.boot_len (pa_cons (pv 5) pa_nil)) pe_int (nomark _))
            (pw_or1 (pt_not (pt_val (pe_callG GK hG hr (by rfl) DK.g DK.F.kp DK.b (pa_cons (pv 3) (pa_cons (pv 4) pa_nil)))))))) (pss_one (ps_ret pe_bl)) pss_nil)
        (pss_one (ps_for PassesOwn.never rfl (pi_list (pv 5)) (pg_name (i := 6) scLaw.nd rfl (Or.inl rfl))
          (pss_one (ps_if (PW.pt (pw_or (pt_not (pt_val (pe_callB (call_isX (R := R) T.c.oc) (by rfl) T.mI PyProof.Rows.boot_isinstance (pa_cons (pv 6) (pa_cons (pe_gref T.c.gR) pa_nil)))))
            (pw_or (pt_not (pt_val (pe_callB (call_isX (R := R) T.c.oc) (by rfl) T.mI PyProof.Rows.boot_isinstance (pa_cons (pv 6) (pa_cons (pe_bltn (v := .ty "ValueError") (by rfl) T.mV PyProof.Rows.Boot.«ValueError» rfl) pa_nil)))))
            (pw_or1 (pt_cmpR op_ne (pe_call GC hr1 (by rfl) DC.g DC.F.kp DC.b .nil pass0 (pa_cons (pv 6) pa_nil)) pe_int (nomark _)))))) (pss_one (ps_ret pe_bl)) pss_nil)))))))))
      (pss_one (ps_ret pe_bl)), ?_⟩
    have cellsOk : ∀ (i : Nat) (x : V), (cutV (ns.map V.int) none (some 4) ++ [V.int 0])[i]? = some x → ∃ z, x = .int z ∧ Builtin.Int.intBits z ≤ 1048576 := fun i x hx => by
      have hm := List.mem_of_getElem? hx
      rcases List.mem_append.mp hm with h | h
      · obtain ⟨z, hz, rfl⟩ := List.mem_map.mp (mem_cut h)
        exact ⟨z, rfl, hbits z hz⟩
      · rw [List.mem_singleton.mp h]
        exact ⟨0, rfl, by decide⟩
    have hcl : (cutV (ns.map V.int) none (some 4)).length ≤ 63 := by
      have z := cutV_length (ns.map V.int) none (some 4)
      rw [List.length_map] at z
      omega
    refine q_forNLn (K := K) (el_catN (el_sl (ev_var rfl) eo_none (eo_some ev_c) hS) (el_lst (ea_cons ev_c ea_nil) (by show 1 ≤ 100000; decide)) (by show _ + 1 ≤ 1000; omega))
      (fun p i σ' H' => Ex H H' ∧ H p = none ∧ H' p = some (.lst (cutV (ns.map V.int) none (some 4) ++ [V.int 0])) ∧ ∃ v1 v2 v3 v4 v5 v6, σ' = [some (.ref a), v1, v2, v3, v4, v5, v6])
      (fun p H1 np e1 hp => ⟨e1, np, hp, none, none, none, none, none, none, rfl⟩) (fun p i σ' H' _ ⟨_, _, hp, _⟩ => sq_of hp) ?_ (fun p σ' H' _ => k H')
    rintro p i x σ' H1 hx ⟨eH, np, hp, v1, v2, v3, v4, v5, v6, rfl⟩
    obtain ⟨z, rfl, hz⟩ := cellsOk i x hx
    -- the source, two values
    refine ⟨_, rfl, z, rfl, hz, fun sa H2 nsa e2 src => ?_⟩
    refine ⟨_, rfl, sa, 0, rfl, src, by decide, fun one d1 H3 hd1 sh1 x3 src3 => ?_⟩
    refine ⟨_, rfl, sa, 1, rfl, src3, by decide, fun two d2 H4 hd2 sh2 x4 src4 => ⟨one, two, rfl, ?_⟩⟩
    have eH4 : Ex H1 H4 := fun b o hb => (x3.trans x4) b o (ne_of_none hb nsa) (e2 b o hb)
    -- the errors
    refine ⟨_, rfl, _, rfl, one, two, rfl, fun pm us H5 npm e5 hm hus => ?_⟩
    have kept : Ev (tCall (spKept K) [] E0 (tCons (tVar 3) (tCons (tVar 4) tNil))) [some (.ref a), some (.int z), some (.ref sa), some one, some two, some (.ref pm), v6] H5 (.bl true) := fun H6 e6 Q' q' =>
      ⟨_, rfl, _, rfl, one, two, d1, d2, rfl, hd1, hd2, fun H' e' => sh1 H' (x4.trans (XB.ex (e5.trans (e6.trans e')))), fun H' e' => sh2 H' (XB.ex (e5.trans (e6.trans e'))), fun H' e' => q' H' e'⟩
    have hl24 : us.length = 24 := Paired.length hus
    have len24 : Ev (tCB (rLenS K) (tCons (tVar 5) tNil)) [some (.ref a), some (.int z), some (.ref sa), some one, some two, some (.ref pm), v6] H5 (.int 24) := by
      have q := ev_len (K := K) (σ := [some (.ref a), some (.int z), some (.ref sa), some one, some two, some (.ref pm), v6]) (ta := tVar 5) (ev_var rfl) (sq_of hm)
      rw [hl24] at q
      exact q
    refine q_when (et_or (et_test (ev_op len24 ev_c (rv_ne rfl))) (fun _ => et_not (et_B kept))) (fun b => absurd b (by decide)) (fun _ H6 e6 => ?_)
    -- each error
    refine s_forLn (K := K) (ev_var rfl) (sq_of (e6 _ _ hm)) (fun j σ'' H'' => Ex H5 H'' ∧ ∃ v, σ'' = [some (.ref a), some (.int z), some (.ref sa), some one, some two, some (.ref pm), v])
      (fun H7 e7 => ⟨e6.trans e7, v6, rfl⟩) (fun j σ'' H'' _ ⟨e, _⟩ => sq_of (e _ _ hm)) ?_ ?_
    · rintro j e σ'' H7 he ⟨e7, v, rfl⟩
      obtain ⟨x, hx24, hxn⟩ := (hus.mono e7).get he
      have cls : ∀ {H8 : Hp}, Ex H7 H8 → Ev (tCall (spClasses K mg R) [] E0 (tCons (tVar 6) tNil)) [some (.ref a), some (.int z), some (.ref sa), some one, some two, some (.ref pm), some e] H8 (.int 1) := fun e8 H9 e9 Q' q' =>
        ⟨_, rfl, e, x, rfl, hxn.mono (e8.trans e9), hx24, fun H' e' => q' H' e'⟩
      refine s_when (et_or (et_not (et_B (ev_isR T.c rfl hxn))) (fun _ => et_or (et_not (et_B (ev_isV rfl hxn))) (fun _ => et_test (ev_op (cls (Ex.refl _)) ev_c (rv_ne rfl))))) (fun b => absurd b (by decide)) (fun _ H8 e8 => ?_)
      exact ⟨e7.trans e8, _, rfl⟩
    · rintro σ'' H7 ⟨e7, v, rfl⟩
      have eA : Ex H1 H7 := eH4.trans (e5.trans e7)
      exact ⟨eH.trans eA, np, eA _ _ hp, _, _, _, _, _, _, rfl⟩
end
end G39

namespace G39
open PySem PySem.Spec PyProof.Rows L2 Evl
section
variable {K : PySem.W.Frag} {h : Heap} {mg : Str → Option Value} {R C fI : Addr} {x q qual : Str} {N : Addr} {bs : List Value} {sn : List Str} {sub : List Value} {ab : Bool} {col : Option Bool} {dd : Option Addr} {m0 m1 m2 m3 m5 : Option Value}
theorem mem2 {Pf : Str → Prop} {a b : Str} (h1 : Pf a) (h2 : Pf b) : ∀ f ∈ [a, b], Pf f := fun f hf => by
  rcases List.mem_cons.mp hf with e | e
  · rw [e]
    exact h1
  · rw [List.mem_singleton.mp e]
    exact h2
theorem mkE (xL : K.lookup C = some (excClassObj x q C N bs [.ref R, .type "ValueError", .type "Exception", .type "BaseException", .type "object"] true sn sub ab col dd m0 m1 m2 m3 m5 "ValueError.__new__"))
    (ga : PySem.W.findIn K (.ref C) "__getattribute__" = some (some (.builtin "BaseException.__getattribute__"))) (gg : PySem.W.findIn K (.ref C) "__getattr__" = some none) (ha : PySem.W.findIn K (.ref C) "__class__" = some (some (.builtin "object.__class__")))
    : EC K R C ∧ (PySem.W.clsIn K C).map (·.name) = some x := by
  have cl : PySem.W.clsIn K C = some { name := x, bases := bs, mro := .ref C :: [.ref R, .type "ValueError", .type "Exception", .type "BaseException", .type "object"], ns := N, qualname := q, hasDict := true, slotNames := sn, subclasses := sub, abstract := ab, collection := col, hasDel := false } := by
    unfold PySem.W.clsIn
    rw [xL] <;> rfl
  refine ⟨⟨ga, gg, ?_, ha, ?_, by rw [cl]; rfl⟩, by rw [cl]; rfl⟩
  · unfold PySem.W.hasDictIn
    rw [cl]
    rfl
  · show (K.lookup C).map (·.cls) = _
    rw [xL]
    rfl
theorem mkX0 (KX : K.In h) (G : h.Ns mainGlobals mg) (a : PySem.W.nsIn K mainGlobals x = some (some (.ref C))) (xL : K.lookup C = some (excClassObj x q C N bs [.ref R, .type "ValueError", .type "Exception", .type "BaseException", .type "object"] true sn sub ab col dd m0 m1 m2 m3 m5 "ValueError.__new__"))
    (ga : PySem.W.findIn K (.ref C) "__getattribute__" = some (some (.builtin "BaseException.__getattribute__"))) (gg : PySem.W.findIn K (.ref C) "__getattr__" = some none) (ha : PySem.W.findIn K (.ref C) "__class__" = some (some (.builtin "object.__class__")))
    (qx : PySem.W.excIn K C [.type "ValueError", .type "Exception", .type "BaseException", .type "object"] "ValueError.__new__" = true) (k : PySem.W.keepIn K (.ref C) = true) : ∃ C, X0 K mg R x C := by
  obtain ⟨E, nm⟩ := mkE xL ga gg ha
  exact ⟨C, ⟨⟨PySem.W.mg_of KX G a, E, nm⟩, qx, k⟩⟩
theorem mkX1 {i : Nat} {fl : List Str} {oc kV dc pm cd ct : Value} {od an : Option Addr} {sl : Array (Option Value)} (KX : K.In h) (G : h.Ns mainGlobals mg) (a : PySem.W.nsIn K mainGlobals x = some (some (.ref C))) (xL : K.lookup C = some (excClassObj x q C N bs [.ref R, .type "ValueError", .type "Exception", .type "BaseException", .type "object"] true sn sub ab col dd m0 m1 m2 m3 m5 "ValueError.__new__"))
    (ga : PySem.W.findIn K (.ref C) "__getattribute__" = some (some (.builtin "BaseException.__getattribute__"))) (gg : PySem.W.findIn K (.ref C) "__getattr__" = some none) (ha : PySem.W.findIn K (.ref C) "__class__" = some (some (.builtin "object.__class__")))
    (sa : PySem.W.findIn K (.ref C) "__setattr__" = some (some (.builtin "object.__setattr__"))) (kC : PySem.W.keepIn K (.ref C) = true)
    (iC : PySem.W.findIn K (.ref C) "__init__" = some (some (.ref fI))) (tI : PySem.W.typeIn K (.ref fI) = some (.type "function"))
    (l : K.lookup fI = some ⟨oc, od, .func (PySem.W.fnOf "__init__" qual (defArgs (inClass (topS i) 0)) (defBody (inClass (topS i) 0)) (defScope (inClass (topS i) 0)) .none kV dc pm an cd ct), sl⟩) (c : PySem.W.codeIn K cd qual = true) (kF : PySem.W.keepIn K (.ref fI) = true)
    (no : ∀ f ∈ fl, PySem.W.findIn K (.ref C) f = some none)
    (hb : ∀ (kV doc pm : Value) (an : Option Addr) (cdv ct : Value) (us : List Value), us.length = (("self" : Str) :: fl).length → bindArgs (PySem.W.fnOf "__init__" qual (defArgs (inClass (topS i) 0)) (defBody (inClass (topS i) 0)) (defScope (inClass (topS i) 0)) .none kV doc pm an cdv ct) ⟨us, []⟩ = pure ((("self" : Str) :: fl).zip us)) :
    ∃ C fI fd, X1 K mg R x qual i fl C fI fd := by
  obtain ⟨E, nm⟩ := mkE xL ga gg ha
  have F := fun_mk (st := inClass (topS i) 0) l c kF
  exact ⟨C, fI, _, ⟨⟨PySem.W.mg_of KX G a, E, nm⟩, ⟨⟨_, _, _, _, _, _, _, _, _, _, _, _, _, _, _, xL, rfl⟩, sa, E.base, E.ty, kC⟩, iC, tI, F, F.binds hb, no⟩⟩
theorem mkD {ps : List Str} {st : Stmt} {f : Addr} {oc kV dc pm cd ct : Value} {od an : Option Addr} {sl : Array (Option Value)} (KX : K.In h) (G : h.Ns mainGlobals mg) (a : PySem.W.nsIn K mainGlobals x = some (some (.ref f)))
    (l : K.lookup f = some ⟨oc, od, .func (PySem.W.fnOf x x (defArgs st) (defBody st) (defScope st) .none kV dc pm an cd ct), sl⟩) (c : PySem.W.codeIn K cd x = true) (k : PySem.W.keepIn K (.ref f) = true)
    (hb : ∀ (kV doc pm : Value) (an : Option Addr) (cdv ct : Value) (us : List Value), us.length = ps.length → bindArgs (PySem.W.fnOf x x (defArgs st) (defBody st) (defScope st) .none kV doc pm an cdv ct) ⟨us, []⟩ = pure (ps.zip us)) :
    DefAt K mg x st ps f (PySem.W.fnOf x x (defArgs st) (defBody st) (defScope st) .none kV dc pm an cd ct) := by
  have F := fun_mk (st := st) l c k
  exact ⟨PySem.W.mg_of KX G a, F, F.binds hb⟩
end
theorem all_mk {l : PySem.W.OpenLaw} {w : World} {K : PySem.W.Frag} {h : Heap} {mg : Str → Option Value} {fa : Addr} (KX : K.In h) (G : h.Ns mainGlobals mg) (hfa : mg "law" = some (.ref fa))
    {R nsR : Addr} {bsR mroR subR : List Value} {qR : Str} {hdR abR delR : Bool} {snR : List Str} {colR : Option Bool}
    {CBadFact NBadFact : Addr} {qBadFact : Str} {bsBadFact subBadFact : List Value} {snBadFact : List Str} {abBadFact : Bool} {colBadFact : Option Bool} {ddBadFact : Option Addr} {m0BadFact m1BadFact m2BadFact m3BadFact m5BadFact : Option Value}
    {fBadFact : Addr} {ocBadFact kVBadFact dcBadFact pmBadFact cdBadFact ctBadFact : Value} {odBadFact anBadFact : Option Addr} {slBadFact : Array (Option Value)}
    {CBadPattern NBadPattern : Addr} {qBadPattern : Str} {bsBadPattern subBadPattern : List Value} {snBadPattern : List Str} {abBadPattern : Bool} {colBadPattern : Option Bool} {ddBadPattern : Option Addr} {m0BadPattern m1BadPattern m2BadPattern m3BadPattern m5BadPattern : Option Value}
    {fBadPattern : Addr} {ocBadPattern kVBadPattern dcBadPattern pmBadPattern cdBadPattern ctBadPattern : Value} {odBadPattern anBadPattern : Option Addr} {slBadPattern : Array (Option Value)}
    {CBadLine NBadLine : Addr} {qBadLine : Str} {bsBadLine subBadLine : List Value} {snBadLine : List Str} {abBadLine : Bool} {colBadLine : Option Bool} {ddBadLine : Option Addr} {m0BadLine m1BadLine m2BadLine m3BadLine m5BadLine : Option Value}
    {fBadLine : Addr} {ocBadLine kVBadLine dcBadLine pmBadLine cdBadLine ctBadLine : Value} {odBadLine anBadLine : Option Addr} {slBadLine : Array (Option Value)}
    {CBadText NBadText : Addr} {qBadText : Str} {bsBadText subBadText : List Value} {snBadText : List Str} {abBadText : Bool} {colBadText : Option Bool} {ddBadText : Option Addr} {m0BadText m1BadText m2BadText m3BadText m5BadText : Option Value}
    {CBadKey NBadKey : Addr} {qBadKey : Str} {bsBadKey subBadKey : List Value} {snBadKey : List Str} {abBadKey : Bool} {colBadKey : Option Bool} {ddBadKey : Option Addr} {m0BadKey m1BadKey m2BadKey m3BadKey m5BadKey : Option Value}
    {CBadRule NBadRule : Addr} {qBadRule : Str} {bsBadRule subBadRule : List Value} {snBadRule : List Str} {abBadRule : Bool} {colBadRule : Option Bool} {ddBadRule : Option Addr} {m0BadRule m1BadRule m2BadRule m3BadRule m5BadRule : Option Value}
    {CClash NClash : Addr} {qClash : Str} {bsClash subClash : List Value} {snClash : List Str} {abClash : Bool} {colClash : Option Bool} {ddClash : Option Addr} {m0Clash m1Clash m2Clash m3Clash m5Clash : Option Value}
    {CBroken NBroken : Addr} {qBroken : Str} {bsBroken subBroken : List Value} {snBroken : List Str} {abBroken : Bool} {colBroken : Option Bool} {ddBroken : Option Addr} {m0Broken m1Broken m2Broken m3Broken m5Broken : Option Value}
    {fBroken : Addr} {ocBroken kVBroken dcBroken pmBroken cdBroken ctBroken : Value} {odBroken anBroken : Option Addr} {slBroken : Array (Option Value)}
    {CBadNodes NBadNodes : Addr} {qBadNodes : Str} {bsBadNodes subBadNodes : List Value} {snBadNodes : List Str} {abBadNodes : Bool} {colBadNodes : Option Bool} {ddBadNodes : Option Addr} {m0BadNodes m1BadNodes m2BadNodes m3BadNodes m5BadNodes : Option Value}
    {CLoose NLoose : Addr} {qLoose : Str} {bsLoose subLoose : List Value} {snLoose : List Str} {abLoose : Bool} {colLoose : Option Bool} {ddLoose : Option Addr} {m0Loose m1Loose m2Loose m3Loose m5Loose : Option Value}
    {fLoose : Addr} {ocLoose kVLoose dcLoose pmLoose cdLoose ctLoose : Value} {odLoose anLoose : Option Addr} {slLoose : Array (Option Value)}
    {CNothingNew NNothingNew : Addr} {qNothingNew : Str} {bsNothingNew subNothingNew : List Value} {snNothingNew : List Str} {abNothingNew : Bool} {colNothingNew : Option Bool} {ddNothingNew : Option Addr} {m0NothingNew m1NothingNew m2NothingNew m3NothingNew m5NothingNew : Option Value}
    {fNothingNew : Addr} {ocNothingNew kVNothingNew dcNothingNew pmNothingNew cdNothingNew ctNothingNew : Value} {odNothingNew anNothingNew : Option Addr} {slNothingNew : Array (Option Value)}
    {CBadNode NBadNode : Addr} {qBadNode : Str} {bsBadNode subBadNode : List Value} {snBadNode : List Str} {abBadNode : Bool} {colBadNode : Option Bool} {ddBadNode : Option Addr} {m0BadNode m1BadNode m2BadNode m3BadNode m5BadNode : Option Value}
    {fBadNode : Addr} {ocBadNode kVBadNode dcBadNode pmBadNode cdBadNode ctBadNode : Value} {odBadNode anBadNode : Option Addr} {slBadNode : Array (Option Value)}
    {CBadPart NBadPart : Addr} {qBadPart : Str} {bsBadPart subBadPart : List Value} {snBadPart : List Str} {abBadPart : Bool} {colBadPart : Option Bool} {ddBadPart : Option Addr} {m0BadPart m1BadPart m2BadPart m3BadPart m5BadPart : Option Value}
    {fBadPart : Addr} {ocBadPart kVBadPart dcBadPart pmBadPart cdBadPart ctBadPart : Value} {odBadPart anBadPart : Option Addr} {slBadPart : Array (Option Value)}
    {CNoPart NNoPart : Addr} {qNoPart : Str} {bsNoPart subNoPart : List Value} {snNoPart : List Str} {abNoPart : Bool} {colNoPart : Option Bool} {ddNoPart : Option Addr} {m0NoPart m1NoPart m2NoPart m3NoPart m5NoPart : Option Value}
    {fNoPart : Addr} {ocNoPart kVNoPart dcNoPart pmNoPart cdNoPart ctNoPart : Value} {odNoPart anNoPart : Option Addr} {slNoPart : Array (Option Value)}
    {CBadNames NBadNames : Addr} {qBadNames : Str} {bsBadNames subBadNames : List Value} {snBadNames : List Str} {abBadNames : Bool} {colBadNames : Option Bool} {ddBadNames : Option Addr} {m0BadNames m1BadNames m2BadNames m3BadNames m5BadNames : Option Value}
    {COrBelow NOrBelow : Addr} {qOrBelow : Str} {bsOrBelow subOrBelow : List Value} {snOrBelow : List Str} {abOrBelow : Bool} {colOrBelow : Option Bool} {ddOrBelow : Option Addr} {m0OrBelow m1OrBelow m2OrBelow m3OrBelow m5OrBelow : Option Value}
    {CBadStrike NBadStrike : Addr} {qBadStrike : Str} {bsBadStrike subBadStrike : List Value} {snBadStrike : List Str} {abBadStrike : Bool} {colBadStrike : Option Bool} {ddBadStrike : Option Addr} {m0BadStrike m1BadStrike m2BadStrike m3BadStrike m5BadStrike : Option Value}
    {fBadStrike : Addr} {ocBadStrike kVBadStrike dcBadStrike pmBadStrike cdBadStrike ctBadStrike : Value} {odBadStrike anBadStrike : Option Addr} {slBadStrike : Array (Option Value)}
    {CNotAnAnswer NNotAnAnswer : Addr} {qNotAnAnswer : Str} {bsNotAnAnswer subNotAnAnswer : List Value} {snNotAnAnswer : List Str} {abNotAnAnswer : Bool} {colNotAnAnswer : Option Bool} {ddNotAnAnswer : Option Addr} {m0NotAnAnswer m1NotAnAnswer m2NotAnAnswer m3NotAnAnswer m5NotAnAnswer : Option Value}
    {fNotAnAnswer : Addr} {ocNotAnAnswer kVNotAnAnswer dcNotAnAnswer pmNotAnAnswer cdNotAnAnswer ctNotAnAnswer : Value} {odNotAnAnswer anNotAnAnswer : Option Addr} {slNotAnAnswer : Array (Option Value)}
    {CBadQuestion NBadQuestion : Addr} {qBadQuestion : Str} {bsBadQuestion subBadQuestion : List Value} {snBadQuestion : List Str} {abBadQuestion : Bool} {colBadQuestion : Option Bool} {ddBadQuestion : Option Addr} {m0BadQuestion m1BadQuestion m2BadQuestion m3BadQuestion m5BadQuestion : Option Value}
    {fBadQuestion : Addr} {ocBadQuestion kVBadQuestion dcBadQuestion pmBadQuestion cdBadQuestion ctBadQuestion : Value} {odBadQuestion anBadQuestion : Option Addr} {slBadQuestion : Array (Option Value)}
    {CNoName NNoName : Addr} {qNoName : Str} {bsNoName subNoName : List Value} {snNoName : List Str} {abNoName : Bool} {colNoName : Option Bool} {ddNoName : Option Addr} {m0NoName m1NoName m2NoName m3NoName m5NoName : Option Value}
    {fNoName : Addr} {ocNoName kVNoName dcNoName pmNoName cdNoName ctNoName : Value} {odNoName anNoName : Option Addr} {slNoName : Array (Option Value)}
    {CNotThere NNotThere : Addr} {qNotThere : Str} {bsNotThere subNotThere : List Value} {snNotThere : List Str} {abNotThere : Bool} {colNotThere : Option Bool} {ddNotThere : Option Addr} {m0NotThere m1NotThere m2NotThere m3NotThere m5NotThere : Option Value}
    {fNotThere : Addr} {ocNotThere kVNotThere dcNotThere pmNotThere cdNotThere ctNotThere : Value} {odNotThere anNotThere : Option Addr} {slNotThere : Array (Option Value)}
    {CThereAlready NThereAlready : Addr} {qThereAlready : Str} {bsThereAlready subThereAlready : List Value} {snThereAlready : List Str} {abThereAlready : Bool} {colThereAlready : Option Bool} {ddThereAlready : Option Addr} {m0ThereAlready m1ThereAlready m2ThereAlready m3ThereAlready m5ThereAlready : Option Value}
    {fThereAlready : Addr} {ocThereAlready kVThereAlready dcThereAlready pmThereAlready cdThereAlready ctThereAlready : Value} {odThereAlready anThereAlready : Option Addr} {slThereAlready : Array (Option Value)}
    {CNothingToUndo NNothingToUndo : Addr} {qNothingToUndo : Str} {bsNothingToUndo subNothingToUndo : List Value} {snNothingToUndo : List Str} {abNothingToUndo : Bool} {colNothingToUndo : Option Bool} {ddNothingToUndo : Option Addr} {m0NothingToUndo m1NothingToUndo m2NothingToUndo m3NothingToUndo m5NothingToUndo : Option Value}
    {CNothingToRedo NNothingToRedo : Addr} {qNothingToRedo : Str} {bsNothingToRedo subNothingToRedo : List Value} {snNothingToRedo : List Str} {abNothingToRedo : Bool} {colNothingToRedo : Option Bool} {ddNothingToRedo : Option Addr} {m0NothingToRedo m1NothingToRedo m2NothingToRedo m3NothingToRedo m5NothingToRedo : Option Value}
    {f_law_source : Addr} {oc_law_source kV_law_source dc_law_source pm_law_source cd_law_source ct_law_source : Value} {od_law_source an_law_source : Option Addr} {sl_law_source : Array (Option Value)}
    {f_law_draw : Addr} {oc_law_draw kV_law_draw dc_law_draw pm_law_draw cd_law_draw ct_law_draw : Value} {od_law_draw an_law_draw : Option Addr} {sl_law_draw : Array (Option Value)}
    {f_law_value : Addr} {oc_law_value kV_law_value dc_law_value pm_law_value cd_law_value ct_law_value : Value} {od_law_value an_law_value : Option Addr} {sl_law_value : Array (Option Value)}
    {f_law_made : Addr} {oc_law_made kV_law_made dc_law_made pm_law_made cd_law_made ct_law_made : Value} {od_law_made an_law_made : Option Addr} {sl_law_made : Array (Option Value)}
    {f_law_kept : Addr} {oc_law_kept kV_law_kept dc_law_kept pm_law_kept cd_law_kept ct_law_kept : Value} {od_law_kept an_law_kept : Option Addr} {sl_law_kept : Array (Option Value)}
    {f_law_classes : Addr} {oc_law_classes kV_law_classes dc_law_classes pm_law_classes cd_law_classes ct_law_classes : Value} {od_law_classes an_law_classes : Option Addr} {sl_law_classes : Array (Option Value)}
    {flaw : Addr} {oclaw kVlaw dclaw pmlaw cdlaw ctlaw : Value} {odlaw anlaw : Option Addr} {sllaw : Array (Option Value)}
    (aR : PySem.W.nsIn K mainGlobals "RowsError" = some (some (.ref R)))
    (clR : PySem.W.clsIn K R = some { name := "RowsError", bases := bsR, mro := mroR, ns := nsR, qualname := qR, hasDict := hdR, slotNames := snR, subclasses := subR, abstract := abR, collection := colR, hasDel := delR })
    (tR : PySem.W.typeIn K (.ref R) = some (.type "type"))
    (hn : PySem.W.specialIn K (.builtin "object.__class__") "__get__" = some (some (.builtin "getset_descriptor.__get__")))
    (ht : PySem.W.takesIn K (.builtin "object.__class__") = some true)
    (aBadFact : PySem.W.nsIn K mainGlobals "BadFact" = some (some (.ref CBadFact)))
    (xBadFact : K.lookup CBadFact = some (excClassObj "BadFact" qBadFact CBadFact NBadFact bsBadFact [.ref R, .type "ValueError", .type "Exception", .type "BaseException", .type "object"] true snBadFact subBadFact abBadFact colBadFact ddBadFact m0BadFact m1BadFact m2BadFact m3BadFact m5BadFact "ValueError.__new__"))
    (gaBadFact : PySem.W.findIn K (.ref CBadFact) "__getattribute__" = some (some (.builtin "BaseException.__getattribute__")))
    (ggBadFact : PySem.W.findIn K (.ref CBadFact) "__getattr__" = some none)
    (haBadFact : PySem.W.findIn K (.ref CBadFact) "__class__" = some (some (.builtin "object.__class__")))
    (kBadFact : PySem.W.keepIn K (.ref CBadFact) = true)
    (saBadFact : PySem.W.findIn K (.ref CBadFact) "__setattr__" = some (some (.builtin "object.__setattr__")))
    (iBadFact : PySem.W.findIn K (.ref CBadFact) "__init__" = some (some (.ref fBadFact)))
    (tBadFact : PySem.W.typeIn K (.ref fBadFact) = some (.type "function"))
    (lBadFact : K.lookup fBadFact = some ⟨ocBadFact, odBadFact, .func (PySem.W.fnOf "__init__" "BadFact.__init__" (defArgs (inClass (topS 2) 0)) (defBody (inClass (topS 2) 0)) (defScope (inClass (topS 2) 0)) .none kVBadFact dcBadFact pmBadFact anBadFact cdBadFact ctBadFact), slBadFact⟩)
    (ccBadFact : PySem.W.codeIn K cdBadFact "BadFact.__init__" = true)
    (kfBadFact : PySem.W.keepIn K (.ref fBadFact) = true)
    (n0BadFact : PySem.W.findIn K (.ref CBadFact) "value" = some none)
    (aBadPattern : PySem.W.nsIn K mainGlobals "BadPattern" = some (some (.ref CBadPattern)))
    (xBadPattern : K.lookup CBadPattern = some (excClassObj "BadPattern" qBadPattern CBadPattern NBadPattern bsBadPattern [.ref R, .type "ValueError", .type "Exception", .type "BaseException", .type "object"] true snBadPattern subBadPattern abBadPattern colBadPattern ddBadPattern m0BadPattern m1BadPattern m2BadPattern m3BadPattern m5BadPattern "ValueError.__new__"))
    (gaBadPattern : PySem.W.findIn K (.ref CBadPattern) "__getattribute__" = some (some (.builtin "BaseException.__getattribute__")))
    (ggBadPattern : PySem.W.findIn K (.ref CBadPattern) "__getattr__" = some none)
    (haBadPattern : PySem.W.findIn K (.ref CBadPattern) "__class__" = some (some (.builtin "object.__class__")))
    (kBadPattern : PySem.W.keepIn K (.ref CBadPattern) = true)
    (saBadPattern : PySem.W.findIn K (.ref CBadPattern) "__setattr__" = some (some (.builtin "object.__setattr__")))
    (iBadPattern : PySem.W.findIn K (.ref CBadPattern) "__init__" = some (some (.ref fBadPattern)))
    (tBadPattern : PySem.W.typeIn K (.ref fBadPattern) = some (.type "function"))
    (lBadPattern : K.lookup fBadPattern = some ⟨ocBadPattern, odBadPattern, .func (PySem.W.fnOf "__init__" "BadPattern.__init__" (defArgs (inClass (topS 3) 0)) (defBody (inClass (topS 3) 0)) (defScope (inClass (topS 3) 0)) .none kVBadPattern dcBadPattern pmBadPattern anBadPattern cdBadPattern ctBadPattern), slBadPattern⟩)
    (ccBadPattern : PySem.W.codeIn K cdBadPattern "BadPattern.__init__" = true)
    (kfBadPattern : PySem.W.keepIn K (.ref fBadPattern) = true)
    (n0BadPattern : PySem.W.findIn K (.ref CBadPattern) "value" = some none)
    (aBadLine : PySem.W.nsIn K mainGlobals "BadLine" = some (some (.ref CBadLine)))
    (xBadLine : K.lookup CBadLine = some (excClassObj "BadLine" qBadLine CBadLine NBadLine bsBadLine [.ref R, .type "ValueError", .type "Exception", .type "BaseException", .type "object"] true snBadLine subBadLine abBadLine colBadLine ddBadLine m0BadLine m1BadLine m2BadLine m3BadLine m5BadLine "ValueError.__new__"))
    (gaBadLine : PySem.W.findIn K (.ref CBadLine) "__getattribute__" = some (some (.builtin "BaseException.__getattribute__")))
    (ggBadLine : PySem.W.findIn K (.ref CBadLine) "__getattr__" = some none)
    (haBadLine : PySem.W.findIn K (.ref CBadLine) "__class__" = some (some (.builtin "object.__class__")))
    (kBadLine : PySem.W.keepIn K (.ref CBadLine) = true)
    (saBadLine : PySem.W.findIn K (.ref CBadLine) "__setattr__" = some (some (.builtin "object.__setattr__")))
    (iBadLine : PySem.W.findIn K (.ref CBadLine) "__init__" = some (some (.ref fBadLine)))
    (tBadLine : PySem.W.typeIn K (.ref fBadLine) = some (.type "function"))
    (lBadLine : K.lookup fBadLine = some ⟨ocBadLine, odBadLine, .func (PySem.W.fnOf "__init__" "BadLine.__init__" (defArgs (inClass (topS 4) 0)) (defBody (inClass (topS 4) 0)) (defScope (inClass (topS 4) 0)) .none kVBadLine dcBadLine pmBadLine anBadLine cdBadLine ctBadLine), slBadLine⟩)
    (ccBadLine : PySem.W.codeIn K cdBadLine "BadLine.__init__" = true)
    (kfBadLine : PySem.W.keepIn K (.ref fBadLine) = true)
    (n0BadLine : PySem.W.findIn K (.ref CBadLine) "line" = some none)
    (aBadText : PySem.W.nsIn K mainGlobals "BadText" = some (some (.ref CBadText)))
    (xBadText : K.lookup CBadText = some (excClassObj "BadText" qBadText CBadText NBadText bsBadText [.ref R, .type "ValueError", .type "Exception", .type "BaseException", .type "object"] true snBadText subBadText abBadText colBadText ddBadText m0BadText m1BadText m2BadText m3BadText m5BadText "ValueError.__new__"))
    (gaBadText : PySem.W.findIn K (.ref CBadText) "__getattribute__" = some (some (.builtin "BaseException.__getattribute__")))
    (ggBadText : PySem.W.findIn K (.ref CBadText) "__getattr__" = some none)
    (haBadText : PySem.W.findIn K (.ref CBadText) "__class__" = some (some (.builtin "object.__class__")))
    (kBadText : PySem.W.keepIn K (.ref CBadText) = true)
    (eBadText : PySem.W.excIn K CBadText [.type "ValueError", .type "Exception", .type "BaseException", .type "object"] "ValueError.__new__" = true)
    (aBadKey : PySem.W.nsIn K mainGlobals "BadKey" = some (some (.ref CBadKey)))
    (xBadKey : K.lookup CBadKey = some (excClassObj "BadKey" qBadKey CBadKey NBadKey bsBadKey [.ref R, .type "ValueError", .type "Exception", .type "BaseException", .type "object"] true snBadKey subBadKey abBadKey colBadKey ddBadKey m0BadKey m1BadKey m2BadKey m3BadKey m5BadKey "ValueError.__new__"))
    (gaBadKey : PySem.W.findIn K (.ref CBadKey) "__getattribute__" = some (some (.builtin "BaseException.__getattribute__")))
    (ggBadKey : PySem.W.findIn K (.ref CBadKey) "__getattr__" = some none)
    (haBadKey : PySem.W.findIn K (.ref CBadKey) "__class__" = some (some (.builtin "object.__class__")))
    (kBadKey : PySem.W.keepIn K (.ref CBadKey) = true)
    (eBadKey : PySem.W.excIn K CBadKey [.type "ValueError", .type "Exception", .type "BaseException", .type "object"] "ValueError.__new__" = true)
    (aBadRule : PySem.W.nsIn K mainGlobals "BadRule" = some (some (.ref CBadRule)))
    (xBadRule : K.lookup CBadRule = some (excClassObj "BadRule" qBadRule CBadRule NBadRule bsBadRule [.ref R, .type "ValueError", .type "Exception", .type "BaseException", .type "object"] true snBadRule subBadRule abBadRule colBadRule ddBadRule m0BadRule m1BadRule m2BadRule m3BadRule m5BadRule "ValueError.__new__"))
    (gaBadRule : PySem.W.findIn K (.ref CBadRule) "__getattribute__" = some (some (.builtin "BaseException.__getattribute__")))
    (ggBadRule : PySem.W.findIn K (.ref CBadRule) "__getattr__" = some none)
    (haBadRule : PySem.W.findIn K (.ref CBadRule) "__class__" = some (some (.builtin "object.__class__")))
    (kBadRule : PySem.W.keepIn K (.ref CBadRule) = true)
    (eBadRule : PySem.W.excIn K CBadRule [.type "ValueError", .type "Exception", .type "BaseException", .type "object"] "ValueError.__new__" = true)
    (aClash : PySem.W.nsIn K mainGlobals "Clash" = some (some (.ref CClash)))
    (xClash : K.lookup CClash = some (excClassObj "Clash" qClash CClash NClash bsClash [.ref R, .type "ValueError", .type "Exception", .type "BaseException", .type "object"] true snClash subClash abClash colClash ddClash m0Clash m1Clash m2Clash m3Clash m5Clash "ValueError.__new__"))
    (gaClash : PySem.W.findIn K (.ref CClash) "__getattribute__" = some (some (.builtin "BaseException.__getattribute__")))
    (ggClash : PySem.W.findIn K (.ref CClash) "__getattr__" = some none)
    (haClash : PySem.W.findIn K (.ref CClash) "__class__" = some (some (.builtin "object.__class__")))
    (kClash : PySem.W.keepIn K (.ref CClash) = true)
    (eClash : PySem.W.excIn K CClash [.type "ValueError", .type "Exception", .type "BaseException", .type "object"] "ValueError.__new__" = true)
    (aBroken : PySem.W.nsIn K mainGlobals "Broken" = some (some (.ref CBroken)))
    (xBroken : K.lookup CBroken = some (excClassObj "Broken" qBroken CBroken NBroken bsBroken [.ref R, .type "ValueError", .type "Exception", .type "BaseException", .type "object"] true snBroken subBroken abBroken colBroken ddBroken m0Broken m1Broken m2Broken m3Broken m5Broken "ValueError.__new__"))
    (gaBroken : PySem.W.findIn K (.ref CBroken) "__getattribute__" = some (some (.builtin "BaseException.__getattribute__")))
    (ggBroken : PySem.W.findIn K (.ref CBroken) "__getattr__" = some none)
    (haBroken : PySem.W.findIn K (.ref CBroken) "__class__" = some (some (.builtin "object.__class__")))
    (kBroken : PySem.W.keepIn K (.ref CBroken) = true)
    (saBroken : PySem.W.findIn K (.ref CBroken) "__setattr__" = some (some (.builtin "object.__setattr__")))
    (iBroken : PySem.W.findIn K (.ref CBroken) "__init__" = some (some (.ref fBroken)))
    (tBroken : PySem.W.typeIn K (.ref fBroken) = some (.type "function"))
    (lBroken : K.lookup fBroken = some ⟨ocBroken, odBroken, .func (PySem.W.fnOf "__init__" "Broken.__init__" (defArgs (inClass (topS 9) 0)) (defBody (inClass (topS 9) 0)) (defScope (inClass (topS 9) 0)) .none kVBroken dcBroken pmBroken anBroken cdBroken ctBroken), slBroken⟩)
    (ccBroken : PySem.W.codeIn K cdBroken "Broken.__init__" = true)
    (kfBroken : PySem.W.keepIn K (.ref fBroken) = true)
    (n0Broken : PySem.W.findIn K (.ref CBroken) "index" = some none)
    (n1Broken : PySem.W.findIn K (.ref CBroken) "shown" = some none)
    (aBadNodes : PySem.W.nsIn K mainGlobals "BadNodes" = some (some (.ref CBadNodes)))
    (xBadNodes : K.lookup CBadNodes = some (excClassObj "BadNodes" qBadNodes CBadNodes NBadNodes bsBadNodes [.ref R, .type "ValueError", .type "Exception", .type "BaseException", .type "object"] true snBadNodes subBadNodes abBadNodes colBadNodes ddBadNodes m0BadNodes m1BadNodes m2BadNodes m3BadNodes m5BadNodes "ValueError.__new__"))
    (gaBadNodes : PySem.W.findIn K (.ref CBadNodes) "__getattribute__" = some (some (.builtin "BaseException.__getattribute__")))
    (ggBadNodes : PySem.W.findIn K (.ref CBadNodes) "__getattr__" = some none)
    (haBadNodes : PySem.W.findIn K (.ref CBadNodes) "__class__" = some (some (.builtin "object.__class__")))
    (kBadNodes : PySem.W.keepIn K (.ref CBadNodes) = true)
    (eBadNodes : PySem.W.excIn K CBadNodes [.type "ValueError", .type "Exception", .type "BaseException", .type "object"] "ValueError.__new__" = true)
    (aLoose : PySem.W.nsIn K mainGlobals "Loose" = some (some (.ref CLoose)))
    (xLoose : K.lookup CLoose = some (excClassObj "Loose" qLoose CLoose NLoose bsLoose [.ref R, .type "ValueError", .type "Exception", .type "BaseException", .type "object"] true snLoose subLoose abLoose colLoose ddLoose m0Loose m1Loose m2Loose m3Loose m5Loose "ValueError.__new__"))
    (gaLoose : PySem.W.findIn K (.ref CLoose) "__getattribute__" = some (some (.builtin "BaseException.__getattribute__")))
    (ggLoose : PySem.W.findIn K (.ref CLoose) "__getattr__" = some none)
    (haLoose : PySem.W.findIn K (.ref CLoose) "__class__" = some (some (.builtin "object.__class__")))
    (kLoose : PySem.W.keepIn K (.ref CLoose) = true)
    (saLoose : PySem.W.findIn K (.ref CLoose) "__setattr__" = some (some (.builtin "object.__setattr__")))
    (iLoose : PySem.W.findIn K (.ref CLoose) "__init__" = some (some (.ref fLoose)))
    (tLoose : PySem.W.typeIn K (.ref fLoose) = some (.type "function"))
    (lLoose : K.lookup fLoose = some ⟨ocLoose, odLoose, .func (PySem.W.fnOf "__init__" "Loose.__init__" (defArgs (inClass (topS 11) 0)) (defBody (inClass (topS 11) 0)) (defScope (inClass (topS 11) 0)) .none kVLoose dcLoose pmLoose anLoose cdLoose ctLoose), slLoose⟩)
    (ccLoose : PySem.W.codeIn K cdLoose "Loose.__init__" = true)
    (kfLoose : PySem.W.keepIn K (.ref fLoose) = true)
    (n0Loose : PySem.W.findIn K (.ref CLoose) "variable" = some none)
    (aNothingNew : PySem.W.nsIn K mainGlobals "NothingNew" = some (some (.ref CNothingNew)))
    (xNothingNew : K.lookup CNothingNew = some (excClassObj "NothingNew" qNothingNew CNothingNew NNothingNew bsNothingNew [.ref R, .type "ValueError", .type "Exception", .type "BaseException", .type "object"] true snNothingNew subNothingNew abNothingNew colNothingNew ddNothingNew m0NothingNew m1NothingNew m2NothingNew m3NothingNew m5NothingNew "ValueError.__new__"))
    (gaNothingNew : PySem.W.findIn K (.ref CNothingNew) "__getattribute__" = some (some (.builtin "BaseException.__getattribute__")))
    (ggNothingNew : PySem.W.findIn K (.ref CNothingNew) "__getattr__" = some none)
    (haNothingNew : PySem.W.findIn K (.ref CNothingNew) "__class__" = some (some (.builtin "object.__class__")))
    (kNothingNew : PySem.W.keepIn K (.ref CNothingNew) = true)
    (saNothingNew : PySem.W.findIn K (.ref CNothingNew) "__setattr__" = some (some (.builtin "object.__setattr__")))
    (iNothingNew : PySem.W.findIn K (.ref CNothingNew) "__init__" = some (some (.ref fNothingNew)))
    (tNothingNew : PySem.W.typeIn K (.ref fNothingNew) = some (.type "function"))
    (lNothingNew : K.lookup fNothingNew = some ⟨ocNothingNew, odNothingNew, .func (PySem.W.fnOf "__init__" "NothingNew.__init__" (defArgs (inClass (topS 12) 0)) (defBody (inClass (topS 12) 0)) (defScope (inClass (topS 12) 0)) .none kVNothingNew dcNothingNew pmNothingNew anNothingNew cdNothingNew ctNothingNew), slNothingNew⟩)
    (ccNothingNew : PySem.W.codeIn K cdNothingNew "NothingNew.__init__" = true)
    (kfNothingNew : PySem.W.keepIn K (.ref fNothingNew) = true)
    (n0NothingNew : PySem.W.findIn K (.ref CNothingNew) "index" = some none)
    (aBadNode : PySem.W.nsIn K mainGlobals "BadNode" = some (some (.ref CBadNode)))
    (xBadNode : K.lookup CBadNode = some (excClassObj "BadNode" qBadNode CBadNode NBadNode bsBadNode [.ref R, .type "ValueError", .type "Exception", .type "BaseException", .type "object"] true snBadNode subBadNode abBadNode colBadNode ddBadNode m0BadNode m1BadNode m2BadNode m3BadNode m5BadNode "ValueError.__new__"))
    (gaBadNode : PySem.W.findIn K (.ref CBadNode) "__getattribute__" = some (some (.builtin "BaseException.__getattribute__")))
    (ggBadNode : PySem.W.findIn K (.ref CBadNode) "__getattr__" = some none)
    (haBadNode : PySem.W.findIn K (.ref CBadNode) "__class__" = some (some (.builtin "object.__class__")))
    (kBadNode : PySem.W.keepIn K (.ref CBadNode) = true)
    (saBadNode : PySem.W.findIn K (.ref CBadNode) "__setattr__" = some (some (.builtin "object.__setattr__")))
    (iBadNode : PySem.W.findIn K (.ref CBadNode) "__init__" = some (some (.ref fBadNode)))
    (tBadNode : PySem.W.typeIn K (.ref fBadNode) = some (.type "function"))
    (lBadNode : K.lookup fBadNode = some ⟨ocBadNode, odBadNode, .func (PySem.W.fnOf "__init__" "BadNode.__init__" (defArgs (inClass (topS 13) 0)) (defBody (inClass (topS 13) 0)) (defScope (inClass (topS 13) 0)) .none kVBadNode dcBadNode pmBadNode anBadNode cdBadNode ctBadNode), slBadNode⟩)
    (ccBadNode : PySem.W.codeIn K cdBadNode "BadNode.__init__" = true)
    (kfBadNode : PySem.W.keepIn K (.ref fBadNode) = true)
    (n0BadNode : PySem.W.findIn K (.ref CBadNode) "index" = some none)
    (aBadPart : PySem.W.nsIn K mainGlobals "BadPart" = some (some (.ref CBadPart)))
    (xBadPart : K.lookup CBadPart = some (excClassObj "BadPart" qBadPart CBadPart NBadPart bsBadPart [.ref R, .type "ValueError", .type "Exception", .type "BaseException", .type "object"] true snBadPart subBadPart abBadPart colBadPart ddBadPart m0BadPart m1BadPart m2BadPart m3BadPart m5BadPart "ValueError.__new__"))
    (gaBadPart : PySem.W.findIn K (.ref CBadPart) "__getattribute__" = some (some (.builtin "BaseException.__getattribute__")))
    (ggBadPart : PySem.W.findIn K (.ref CBadPart) "__getattr__" = some none)
    (haBadPart : PySem.W.findIn K (.ref CBadPart) "__class__" = some (some (.builtin "object.__class__")))
    (kBadPart : PySem.W.keepIn K (.ref CBadPart) = true)
    (saBadPart : PySem.W.findIn K (.ref CBadPart) "__setattr__" = some (some (.builtin "object.__setattr__")))
    (iBadPart : PySem.W.findIn K (.ref CBadPart) "__init__" = some (some (.ref fBadPart)))
    (tBadPart : PySem.W.typeIn K (.ref fBadPart) = some (.type "function"))
    (lBadPart : K.lookup fBadPart = some ⟨ocBadPart, odBadPart, .func (PySem.W.fnOf "__init__" "BadPart.__init__" (defArgs (inClass (topS 14) 0)) (defBody (inClass (topS 14) 0)) (defScope (inClass (topS 14) 0)) .none kVBadPart dcBadPart pmBadPart anBadPart cdBadPart ctBadPart), slBadPart⟩)
    (ccBadPart : PySem.W.codeIn K cdBadPart "BadPart.__init__" = true)
    (kfBadPart : PySem.W.keepIn K (.ref fBadPart) = true)
    (n0BadPart : PySem.W.findIn K (.ref CBadPart) "part" = some none)
    (aNoPart : PySem.W.nsIn K mainGlobals "NoPart" = some (some (.ref CNoPart)))
    (xNoPart : K.lookup CNoPart = some (excClassObj "NoPart" qNoPart CNoPart NNoPart bsNoPart [.ref R, .type "ValueError", .type "Exception", .type "BaseException", .type "object"] true snNoPart subNoPart abNoPart colNoPart ddNoPart m0NoPart m1NoPart m2NoPart m3NoPart m5NoPart "ValueError.__new__"))
    (gaNoPart : PySem.W.findIn K (.ref CNoPart) "__getattribute__" = some (some (.builtin "BaseException.__getattribute__")))
    (ggNoPart : PySem.W.findIn K (.ref CNoPart) "__getattr__" = some none)
    (haNoPart : PySem.W.findIn K (.ref CNoPart) "__class__" = some (some (.builtin "object.__class__")))
    (kNoPart : PySem.W.keepIn K (.ref CNoPart) = true)
    (saNoPart : PySem.W.findIn K (.ref CNoPart) "__setattr__" = some (some (.builtin "object.__setattr__")))
    (iNoPart : PySem.W.findIn K (.ref CNoPart) "__init__" = some (some (.ref fNoPart)))
    (tNoPart : PySem.W.typeIn K (.ref fNoPart) = some (.type "function"))
    (lNoPart : K.lookup fNoPart = some ⟨ocNoPart, odNoPart, .func (PySem.W.fnOf "__init__" "NoPart.__init__" (defArgs (inClass (topS 15) 0)) (defBody (inClass (topS 15) 0)) (defScope (inClass (topS 15) 0)) .none kVNoPart dcNoPart pmNoPart anNoPart cdNoPart ctNoPart), slNoPart⟩)
    (ccNoPart : PySem.W.codeIn K cdNoPart "NoPart.__init__" = true)
    (kfNoPart : PySem.W.keepIn K (.ref fNoPart) = true)
    (n0NoPart : PySem.W.findIn K (.ref CNoPart) "known" = some none)
    (aBadNames : PySem.W.nsIn K mainGlobals "BadNames" = some (some (.ref CBadNames)))
    (xBadNames : K.lookup CBadNames = some (excClassObj "BadNames" qBadNames CBadNames NBadNames bsBadNames [.ref R, .type "ValueError", .type "Exception", .type "BaseException", .type "object"] true snBadNames subBadNames abBadNames colBadNames ddBadNames m0BadNames m1BadNames m2BadNames m3BadNames m5BadNames "ValueError.__new__"))
    (gaBadNames : PySem.W.findIn K (.ref CBadNames) "__getattribute__" = some (some (.builtin "BaseException.__getattribute__")))
    (ggBadNames : PySem.W.findIn K (.ref CBadNames) "__getattr__" = some none)
    (haBadNames : PySem.W.findIn K (.ref CBadNames) "__class__" = some (some (.builtin "object.__class__")))
    (kBadNames : PySem.W.keepIn K (.ref CBadNames) = true)
    (eBadNames : PySem.W.excIn K CBadNames [.type "ValueError", .type "Exception", .type "BaseException", .type "object"] "ValueError.__new__" = true)
    (aOrBelow : PySem.W.nsIn K mainGlobals "OrBelow" = some (some (.ref COrBelow)))
    (xOrBelow : K.lookup COrBelow = some (excClassObj "OrBelow" qOrBelow COrBelow NOrBelow bsOrBelow [.ref R, .type "ValueError", .type "Exception", .type "BaseException", .type "object"] true snOrBelow subOrBelow abOrBelow colOrBelow ddOrBelow m0OrBelow m1OrBelow m2OrBelow m3OrBelow m5OrBelow "ValueError.__new__"))
    (gaOrBelow : PySem.W.findIn K (.ref COrBelow) "__getattribute__" = some (some (.builtin "BaseException.__getattribute__")))
    (ggOrBelow : PySem.W.findIn K (.ref COrBelow) "__getattr__" = some none)
    (haOrBelow : PySem.W.findIn K (.ref COrBelow) "__class__" = some (some (.builtin "object.__class__")))
    (kOrBelow : PySem.W.keepIn K (.ref COrBelow) = true)
    (eOrBelow : PySem.W.excIn K COrBelow [.type "ValueError", .type "Exception", .type "BaseException", .type "object"] "ValueError.__new__" = true)
    (aBadStrike : PySem.W.nsIn K mainGlobals "BadStrike" = some (some (.ref CBadStrike)))
    (xBadStrike : K.lookup CBadStrike = some (excClassObj "BadStrike" qBadStrike CBadStrike NBadStrike bsBadStrike [.ref R, .type "ValueError", .type "Exception", .type "BaseException", .type "object"] true snBadStrike subBadStrike abBadStrike colBadStrike ddBadStrike m0BadStrike m1BadStrike m2BadStrike m3BadStrike m5BadStrike "ValueError.__new__"))
    (gaBadStrike : PySem.W.findIn K (.ref CBadStrike) "__getattribute__" = some (some (.builtin "BaseException.__getattribute__")))
    (ggBadStrike : PySem.W.findIn K (.ref CBadStrike) "__getattr__" = some none)
    (haBadStrike : PySem.W.findIn K (.ref CBadStrike) "__class__" = some (some (.builtin "object.__class__")))
    (kBadStrike : PySem.W.keepIn K (.ref CBadStrike) = true)
    (saBadStrike : PySem.W.findIn K (.ref CBadStrike) "__setattr__" = some (some (.builtin "object.__setattr__")))
    (iBadStrike : PySem.W.findIn K (.ref CBadStrike) "__init__" = some (some (.ref fBadStrike)))
    (tBadStrike : PySem.W.typeIn K (.ref fBadStrike) = some (.type "function"))
    (lBadStrike : K.lookup fBadStrike = some ⟨ocBadStrike, odBadStrike, .func (PySem.W.fnOf "__init__" "BadStrike.__init__" (defArgs (inClass (topS 18) 0)) (defBody (inClass (topS 18) 0)) (defScope (inClass (topS 18) 0)) .none kVBadStrike dcBadStrike pmBadStrike anBadStrike cdBadStrike ctBadStrike), slBadStrike⟩)
    (ccBadStrike : PySem.W.codeIn K cdBadStrike "BadStrike.__init__" = true)
    (kfBadStrike : PySem.W.keepIn K (.ref fBadStrike) = true)
    (n0BadStrike : PySem.W.findIn K (.ref CBadStrike) "value" = some none)
    (aNotAnAnswer : PySem.W.nsIn K mainGlobals "NotAnAnswer" = some (some (.ref CNotAnAnswer)))
    (xNotAnAnswer : K.lookup CNotAnAnswer = some (excClassObj "NotAnAnswer" qNotAnAnswer CNotAnAnswer NNotAnAnswer bsNotAnAnswer [.ref R, .type "ValueError", .type "Exception", .type "BaseException", .type "object"] true snNotAnAnswer subNotAnAnswer abNotAnAnswer colNotAnAnswer ddNotAnAnswer m0NotAnAnswer m1NotAnAnswer m2NotAnAnswer m3NotAnAnswer m5NotAnAnswer "ValueError.__new__"))
    (gaNotAnAnswer : PySem.W.findIn K (.ref CNotAnAnswer) "__getattribute__" = some (some (.builtin "BaseException.__getattribute__")))
    (ggNotAnAnswer : PySem.W.findIn K (.ref CNotAnAnswer) "__getattr__" = some none)
    (haNotAnAnswer : PySem.W.findIn K (.ref CNotAnAnswer) "__class__" = some (some (.builtin "object.__class__")))
    (kNotAnAnswer : PySem.W.keepIn K (.ref CNotAnAnswer) = true)
    (saNotAnAnswer : PySem.W.findIn K (.ref CNotAnAnswer) "__setattr__" = some (some (.builtin "object.__setattr__")))
    (iNotAnAnswer : PySem.W.findIn K (.ref CNotAnAnswer) "__init__" = some (some (.ref fNotAnAnswer)))
    (tNotAnAnswer : PySem.W.typeIn K (.ref fNotAnAnswer) = some (.type "function"))
    (lNotAnAnswer : K.lookup fNotAnAnswer = some ⟨ocNotAnAnswer, odNotAnAnswer, .func (PySem.W.fnOf "__init__" "NotAnAnswer.__init__" (defArgs (inClass (topS 19) 0)) (defBody (inClass (topS 19) 0)) (defScope (inClass (topS 19) 0)) .none kVNotAnAnswer dcNotAnAnswer pmNotAnAnswer anNotAnAnswer cdNotAnAnswer ctNotAnAnswer), slNotAnAnswer⟩)
    (ccNotAnAnswer : PySem.W.codeIn K cdNotAnAnswer "NotAnAnswer.__init__" = true)
    (kfNotAnAnswer : PySem.W.keepIn K (.ref fNotAnAnswer) = true)
    (n0NotAnAnswer : PySem.W.findIn K (.ref CNotAnAnswer) "known" = some none)
    (aBadQuestion : PySem.W.nsIn K mainGlobals "BadQuestion" = some (some (.ref CBadQuestion)))
    (xBadQuestion : K.lookup CBadQuestion = some (excClassObj "BadQuestion" qBadQuestion CBadQuestion NBadQuestion bsBadQuestion [.ref R, .type "ValueError", .type "Exception", .type "BaseException", .type "object"] true snBadQuestion subBadQuestion abBadQuestion colBadQuestion ddBadQuestion m0BadQuestion m1BadQuestion m2BadQuestion m3BadQuestion m5BadQuestion "ValueError.__new__"))
    (gaBadQuestion : PySem.W.findIn K (.ref CBadQuestion) "__getattribute__" = some (some (.builtin "BaseException.__getattribute__")))
    (ggBadQuestion : PySem.W.findIn K (.ref CBadQuestion) "__getattr__" = some none)
    (haBadQuestion : PySem.W.findIn K (.ref CBadQuestion) "__class__" = some (some (.builtin "object.__class__")))
    (kBadQuestion : PySem.W.keepIn K (.ref CBadQuestion) = true)
    (saBadQuestion : PySem.W.findIn K (.ref CBadQuestion) "__setattr__" = some (some (.builtin "object.__setattr__")))
    (iBadQuestion : PySem.W.findIn K (.ref CBadQuestion) "__init__" = some (some (.ref fBadQuestion)))
    (tBadQuestion : PySem.W.typeIn K (.ref fBadQuestion) = some (.type "function"))
    (lBadQuestion : K.lookup fBadQuestion = some ⟨ocBadQuestion, odBadQuestion, .func (PySem.W.fnOf "__init__" "BadQuestion.__init__" (defArgs (inClass (topS 20) 0)) (defBody (inClass (topS 20) 0)) (defScope (inClass (topS 20) 0)) .none kVBadQuestion dcBadQuestion pmBadQuestion anBadQuestion cdBadQuestion ctBadQuestion), slBadQuestion⟩)
    (ccBadQuestion : PySem.W.codeIn K cdBadQuestion "BadQuestion.__init__" = true)
    (kfBadQuestion : PySem.W.keepIn K (.ref fBadQuestion) = true)
    (n0BadQuestion : PySem.W.findIn K (.ref CBadQuestion) "value" = some none)
    (aNoName : PySem.W.nsIn K mainGlobals "NoName" = some (some (.ref CNoName)))
    (xNoName : K.lookup CNoName = some (excClassObj "NoName" qNoName CNoName NNoName bsNoName [.ref R, .type "ValueError", .type "Exception", .type "BaseException", .type "object"] true snNoName subNoName abNoName colNoName ddNoName m0NoName m1NoName m2NoName m3NoName m5NoName "ValueError.__new__"))
    (gaNoName : PySem.W.findIn K (.ref CNoName) "__getattribute__" = some (some (.builtin "BaseException.__getattribute__")))
    (ggNoName : PySem.W.findIn K (.ref CNoName) "__getattr__" = some none)
    (haNoName : PySem.W.findIn K (.ref CNoName) "__class__" = some (some (.builtin "object.__class__")))
    (kNoName : PySem.W.keepIn K (.ref CNoName) = true)
    (saNoName : PySem.W.findIn K (.ref CNoName) "__setattr__" = some (some (.builtin "object.__setattr__")))
    (iNoName : PySem.W.findIn K (.ref CNoName) "__init__" = some (some (.ref fNoName)))
    (tNoName : PySem.W.typeIn K (.ref fNoName) = some (.type "function"))
    (lNoName : K.lookup fNoName = some ⟨ocNoName, odNoName, .func (PySem.W.fnOf "__init__" "NoName.__init__" (defArgs (inClass (topS 21) 0)) (defBody (inClass (topS 21) 0)) (defScope (inClass (topS 21) 0)) .none kVNoName dcNoName pmNoName anNoName cdNoName ctNoName), slNoName⟩)
    (ccNoName : PySem.W.codeIn K cdNoName "NoName.__init__" = true)
    (kfNoName : PySem.W.keepIn K (.ref fNoName) = true)
    (n0NoName : PySem.W.findIn K (.ref CNoName) "value" = some none)
    (aNotThere : PySem.W.nsIn K mainGlobals "NotThere" = some (some (.ref CNotThere)))
    (xNotThere : K.lookup CNotThere = some (excClassObj "NotThere" qNotThere CNotThere NNotThere bsNotThere [.ref R, .type "ValueError", .type "Exception", .type "BaseException", .type "object"] true snNotThere subNotThere abNotThere colNotThere ddNotThere m0NotThere m1NotThere m2NotThere m3NotThere m5NotThere "ValueError.__new__"))
    (gaNotThere : PySem.W.findIn K (.ref CNotThere) "__getattribute__" = some (some (.builtin "BaseException.__getattribute__")))
    (ggNotThere : PySem.W.findIn K (.ref CNotThere) "__getattr__" = some none)
    (haNotThere : PySem.W.findIn K (.ref CNotThere) "__class__" = some (some (.builtin "object.__class__")))
    (kNotThere : PySem.W.keepIn K (.ref CNotThere) = true)
    (saNotThere : PySem.W.findIn K (.ref CNotThere) "__setattr__" = some (some (.builtin "object.__setattr__")))
    (iNotThere : PySem.W.findIn K (.ref CNotThere) "__init__" = some (some (.ref fNotThere)))
    (tNotThere : PySem.W.typeIn K (.ref fNotThere) = some (.type "function"))
    (lNotThere : K.lookup fNotThere = some ⟨ocNotThere, odNotThere, .func (PySem.W.fnOf "__init__" "NotThere.__init__" (defArgs (inClass (topS 22) 0)) (defBody (inClass (topS 22) 0)) (defScope (inClass (topS 22) 0)) .none kVNotThere dcNotThere pmNotThere anNotThere cdNotThere ctNotThere), slNotThere⟩)
    (ccNotThere : PySem.W.codeIn K cdNotThere "NotThere.__init__" = true)
    (kfNotThere : PySem.W.keepIn K (.ref fNotThere) = true)
    (n0NotThere : PySem.W.findIn K (.ref CNotThere) "fact" = some none)
    (aThereAlready : PySem.W.nsIn K mainGlobals "ThereAlready" = some (some (.ref CThereAlready)))
    (xThereAlready : K.lookup CThereAlready = some (excClassObj "ThereAlready" qThereAlready CThereAlready NThereAlready bsThereAlready [.ref R, .type "ValueError", .type "Exception", .type "BaseException", .type "object"] true snThereAlready subThereAlready abThereAlready colThereAlready ddThereAlready m0ThereAlready m1ThereAlready m2ThereAlready m3ThereAlready m5ThereAlready "ValueError.__new__"))
    (gaThereAlready : PySem.W.findIn K (.ref CThereAlready) "__getattribute__" = some (some (.builtin "BaseException.__getattribute__")))
    (ggThereAlready : PySem.W.findIn K (.ref CThereAlready) "__getattr__" = some none)
    (haThereAlready : PySem.W.findIn K (.ref CThereAlready) "__class__" = some (some (.builtin "object.__class__")))
    (kThereAlready : PySem.W.keepIn K (.ref CThereAlready) = true)
    (saThereAlready : PySem.W.findIn K (.ref CThereAlready) "__setattr__" = some (some (.builtin "object.__setattr__")))
    (iThereAlready : PySem.W.findIn K (.ref CThereAlready) "__init__" = some (some (.ref fThereAlready)))
    (tThereAlready : PySem.W.typeIn K (.ref fThereAlready) = some (.type "function"))
    (lThereAlready : K.lookup fThereAlready = some ⟨ocThereAlready, odThereAlready, .func (PySem.W.fnOf "__init__" "ThereAlready.__init__" (defArgs (inClass (topS 23) 0)) (defBody (inClass (topS 23) 0)) (defScope (inClass (topS 23) 0)) .none kVThereAlready dcThereAlready pmThereAlready anThereAlready cdThereAlready ctThereAlready), slThereAlready⟩)
    (ccThereAlready : PySem.W.codeIn K cdThereAlready "ThereAlready.__init__" = true)
    (kfThereAlready : PySem.W.keepIn K (.ref fThereAlready) = true)
    (n0ThereAlready : PySem.W.findIn K (.ref CThereAlready) "fact" = some none)
    (aNothingToUndo : PySem.W.nsIn K mainGlobals "NothingToUndo" = some (some (.ref CNothingToUndo)))
    (xNothingToUndo : K.lookup CNothingToUndo = some (excClassObj "NothingToUndo" qNothingToUndo CNothingToUndo NNothingToUndo bsNothingToUndo [.ref R, .type "ValueError", .type "Exception", .type "BaseException", .type "object"] true snNothingToUndo subNothingToUndo abNothingToUndo colNothingToUndo ddNothingToUndo m0NothingToUndo m1NothingToUndo m2NothingToUndo m3NothingToUndo m5NothingToUndo "ValueError.__new__"))
    (gaNothingToUndo : PySem.W.findIn K (.ref CNothingToUndo) "__getattribute__" = some (some (.builtin "BaseException.__getattribute__")))
    (ggNothingToUndo : PySem.W.findIn K (.ref CNothingToUndo) "__getattr__" = some none)
    (haNothingToUndo : PySem.W.findIn K (.ref CNothingToUndo) "__class__" = some (some (.builtin "object.__class__")))
    (kNothingToUndo : PySem.W.keepIn K (.ref CNothingToUndo) = true)
    (eNothingToUndo : PySem.W.excIn K CNothingToUndo [.type "ValueError", .type "Exception", .type "BaseException", .type "object"] "ValueError.__new__" = true)
    (aNothingToRedo : PySem.W.nsIn K mainGlobals "NothingToRedo" = some (some (.ref CNothingToRedo)))
    (xNothingToRedo : K.lookup CNothingToRedo = some (excClassObj "NothingToRedo" qNothingToRedo CNothingToRedo NNothingToRedo bsNothingToRedo [.ref R, .type "ValueError", .type "Exception", .type "BaseException", .type "object"] true snNothingToRedo subNothingToRedo abNothingToRedo colNothingToRedo ddNothingToRedo m0NothingToRedo m1NothingToRedo m2NothingToRedo m3NothingToRedo m5NothingToRedo "ValueError.__new__"))
    (gaNothingToRedo : PySem.W.findIn K (.ref CNothingToRedo) "__getattribute__" = some (some (.builtin "BaseException.__getattribute__")))
    (ggNothingToRedo : PySem.W.findIn K (.ref CNothingToRedo) "__getattr__" = some none)
    (haNothingToRedo : PySem.W.findIn K (.ref CNothingToRedo) "__class__" = some (some (.builtin "object.__class__")))
    (kNothingToRedo : PySem.W.keepIn K (.ref CNothingToRedo) = true)
    (eNothingToRedo : PySem.W.excIn K CNothingToRedo [.type "ValueError", .type "Exception", .type "BaseException", .type "object"] "ValueError.__new__" = true)
    (a_law_source : PySem.W.nsIn K mainGlobals "_law_source" = some (some (.ref f_law_source)))
    (l_law_source : K.lookup f_law_source = some ⟨oc_law_source, od_law_source, .func (PySem.W.fnOf "_law_source" "_law_source" (defArgs sSource) (defBody sSource) (defScope sSource) .none kV_law_source dc_law_source pm_law_source an_law_source cd_law_source ct_law_source), sl_law_source⟩)
    (cc_law_source : PySem.W.codeIn K cd_law_source "_law_source" = true)
    (kf_law_source : PySem.W.keepIn K (.ref f_law_source) = true)
    (a_law_draw : PySem.W.nsIn K mainGlobals "_law_draw" = some (some (.ref f_law_draw)))
    (l_law_draw : K.lookup f_law_draw = some ⟨oc_law_draw, od_law_draw, .func (PySem.W.fnOf "_law_draw" "_law_draw" (defArgs sDraw) (defBody sDraw) (defScope sDraw) .none kV_law_draw dc_law_draw pm_law_draw an_law_draw cd_law_draw ct_law_draw), sl_law_draw⟩)
    (cc_law_draw : PySem.W.codeIn K cd_law_draw "_law_draw" = true)
    (kf_law_draw : PySem.W.keepIn K (.ref f_law_draw) = true)
    (a_law_value : PySem.W.nsIn K mainGlobals "_law_value" = some (some (.ref f_law_value)))
    (l_law_value : K.lookup f_law_value = some ⟨oc_law_value, od_law_value, .func (PySem.W.fnOf "_law_value" "_law_value" (defArgs sValue) (defBody sValue) (defScope sValue) .none kV_law_value dc_law_value pm_law_value an_law_value cd_law_value ct_law_value), sl_law_value⟩)
    (cc_law_value : PySem.W.codeIn K cd_law_value "_law_value" = true)
    (kf_law_value : PySem.W.keepIn K (.ref f_law_value) = true)
    (a_law_made : PySem.W.nsIn K mainGlobals "_law_made" = some (some (.ref f_law_made)))
    (l_law_made : K.lookup f_law_made = some ⟨oc_law_made, od_law_made, .func (PySem.W.fnOf "_law_made" "_law_made" (defArgs sMade) (defBody sMade) (defScope sMade) .none kV_law_made dc_law_made pm_law_made an_law_made cd_law_made ct_law_made), sl_law_made⟩)
    (cc_law_made : PySem.W.codeIn K cd_law_made "_law_made" = true)
    (kf_law_made : PySem.W.keepIn K (.ref f_law_made) = true)
    (a_law_kept : PySem.W.nsIn K mainGlobals "_law_kept" = some (some (.ref f_law_kept)))
    (l_law_kept : K.lookup f_law_kept = some ⟨oc_law_kept, od_law_kept, .func (PySem.W.fnOf "_law_kept" "_law_kept" (defArgs sKept) (defBody sKept) (defScope sKept) .none kV_law_kept dc_law_kept pm_law_kept an_law_kept cd_law_kept ct_law_kept), sl_law_kept⟩)
    (cc_law_kept : PySem.W.codeIn K cd_law_kept "_law_kept" = true)
    (kf_law_kept : PySem.W.keepIn K (.ref f_law_kept) = true)
    (a_law_classes : PySem.W.nsIn K mainGlobals "_law_classes" = some (some (.ref f_law_classes)))
    (l_law_classes : K.lookup f_law_classes = some ⟨oc_law_classes, od_law_classes, .func (PySem.W.fnOf "_law_classes" "_law_classes" (defArgs sClasses) (defBody sClasses) (defScope sClasses) .none kV_law_classes dc_law_classes pm_law_classes an_law_classes cd_law_classes ct_law_classes), sl_law_classes⟩)
    (cc_law_classes : PySem.W.codeIn K cd_law_classes "_law_classes" = true)
    (kf_law_classes : PySem.W.keepIn K (.ref f_law_classes) = true)
    (alaw : PySem.W.nsIn K mainGlobals "law" = some (some (.ref flaw)))
    (llaw : K.lookup flaw = some ⟨oclaw, odlaw, .func (PySem.W.fnOf "law" "law" (defArgs sLaw) (defBody sLaw) (defScope sLaw) .none kVlaw dclaw pmlaw anlaw cdlaw ctlaw), sllaw⟩)
    (cclaw : PySem.W.codeIn K cdlaw "law" = true)
    (kflaw : PySem.W.keepIn K (.ref flaw) = true)
    (zint : PySem.W.nsIn K mainGlobals "int" = some none)
    (zisinstance : PySem.W.nsIn K mainGlobals "isinstance" = some none)
    (zlen : PySem.W.nsIn K mainGlobals "len" = some none)
    (zrepr : PySem.W.nsIn K mainGlobals "repr" = some none)
    (zValueError : PySem.W.nsIn K mainGlobals "ValueError" = some none) :
    ∃ fd : FuncData, (∀ (s : Shared) (v : Value), BindsTo s fd ⟨[v], []⟩ [("_law_script", v)]) ∧ ∀ base : Heap, K.In base → base.Ns mainGlobals mg → FnG l.prog w K mg base 4 fa fd ["_law_script"] (spLaw K) := by
  have e := hfa.symm.trans (PySem.W.mg_of KX G alaw)
  cases e
  have TCx : TC K mg R := { oc := ⟨hn, ht⟩, gR := PySem.W.mg_of KX G aR, nR := (by rw [clR]; rfl), tR := tR, cBadFact := mkX1 (i := 2) KX G aBadFact xBadFact gaBadFact ggBadFact haBadFact saBadFact kBadFact iBadFact tBadFact lBadFact ccBadFact kfBadFact (fun f hf => by rw [List.mem_singleton.mp hf]; exact n0BadFact) (fun _ _ _ _ _ _ us hl => match us, hl with | [_, _], _ => rfl), cBadPattern := mkX1 (i := 3) KX G aBadPattern xBadPattern gaBadPattern ggBadPattern haBadPattern saBadPattern kBadPattern iBadPattern tBadPattern lBadPattern ccBadPattern kfBadPattern (fun f hf => by rw [List.mem_singleton.mp hf]; exact n0BadPattern) (fun _ _ _ _ _ _ us hl => match us, hl with | [_, _], _ => rfl), cBadLine := mkX1 (i := 4) KX G aBadLine xBadLine gaBadLine ggBadLine haBadLine saBadLine kBadLine iBadLine tBadLine lBadLine ccBadLine kfBadLine (fun f hf => by rw [List.mem_singleton.mp hf]; exact n0BadLine) (fun _ _ _ _ _ _ us hl => match us, hl with | [_, _], _ => rfl), cBadText := mkX0 KX G aBadText xBadText gaBadText ggBadText haBadText eBadText kBadText, cBadKey := mkX0 KX G aBadKey xBadKey gaBadKey ggBadKey haBadKey eBadKey kBadKey, cBadRule := mkX0 KX G aBadRule xBadRule gaBadRule ggBadRule haBadRule eBadRule kBadRule, cClash := mkX0 KX G aClash xClash gaClash ggClash haClash eClash kClash, cBroken := mkX1 (i := 9) KX G aBroken xBroken gaBroken ggBroken haBroken saBroken kBroken iBroken tBroken lBroken ccBroken kfBroken (mem2 n0Broken n1Broken) (fun _ _ _ _ _ _ us hl => match us, hl with | [_, _, _], _ => rfl), cBadNodes := mkX0 KX G aBadNodes xBadNodes gaBadNodes ggBadNodes haBadNodes eBadNodes kBadNodes, cLoose := mkX1 (i := 11) KX G aLoose xLoose gaLoose ggLoose haLoose saLoose kLoose iLoose tLoose lLoose ccLoose kfLoose (fun f hf => by rw [List.mem_singleton.mp hf]; exact n0Loose) (fun _ _ _ _ _ _ us hl => match us, hl with | [_, _], _ => rfl), cNothingNew := mkX1 (i := 12) KX G aNothingNew xNothingNew gaNothingNew ggNothingNew haNothingNew saNothingNew kNothingNew iNothingNew tNothingNew lNothingNew ccNothingNew kfNothingNew (fun f hf => by rw [List.mem_singleton.mp hf]; exact n0NothingNew) (fun _ _ _ _ _ _ us hl => match us, hl with | [_, _], _ => rfl), cBadNode := mkX1 (i := 13) KX G aBadNode xBadNode gaBadNode ggBadNode haBadNode saBadNode kBadNode iBadNode tBadNode lBadNode ccBadNode kfBadNode (fun f hf => by rw [List.mem_singleton.mp hf]; exact n0BadNode) (fun _ _ _ _ _ _ us hl => match us, hl with | [_, _], _ => rfl), cBadPart := mkX1 (i := 14) KX G aBadPart xBadPart gaBadPart ggBadPart haBadPart saBadPart kBadPart iBadPart tBadPart lBadPart ccBadPart kfBadPart (fun f hf => by rw [List.mem_singleton.mp hf]; exact n0BadPart) (fun _ _ _ _ _ _ us hl => match us, hl with | [_, _], _ => rfl), cNoPart := mkX1 (i := 15) KX G aNoPart xNoPart gaNoPart ggNoPart haNoPart saNoPart kNoPart iNoPart tNoPart lNoPart ccNoPart kfNoPart (fun f hf => by rw [List.mem_singleton.mp hf]; exact n0NoPart) (fun _ _ _ _ _ _ us hl => match us, hl with | [_, _], _ => rfl), cBadNames := mkX0 KX G aBadNames xBadNames gaBadNames ggBadNames haBadNames eBadNames kBadNames, cOrBelow := mkX0 KX G aOrBelow xOrBelow gaOrBelow ggOrBelow haOrBelow eOrBelow kOrBelow, cBadStrike := mkX1 (i := 18) KX G aBadStrike xBadStrike gaBadStrike ggBadStrike haBadStrike saBadStrike kBadStrike iBadStrike tBadStrike lBadStrike ccBadStrike kfBadStrike (fun f hf => by rw [List.mem_singleton.mp hf]; exact n0BadStrike) (fun _ _ _ _ _ _ us hl => match us, hl with | [_, _], _ => rfl), cNotAnAnswer := mkX1 (i := 19) KX G aNotAnAnswer xNotAnAnswer gaNotAnAnswer ggNotAnAnswer haNotAnAnswer saNotAnAnswer kNotAnAnswer iNotAnAnswer tNotAnAnswer lNotAnAnswer ccNotAnAnswer kfNotAnAnswer (fun f hf => by rw [List.mem_singleton.mp hf]; exact n0NotAnAnswer) (fun _ _ _ _ _ _ us hl => match us, hl with | [_, _], _ => rfl), cBadQuestion := mkX1 (i := 20) KX G aBadQuestion xBadQuestion gaBadQuestion ggBadQuestion haBadQuestion saBadQuestion kBadQuestion iBadQuestion tBadQuestion lBadQuestion ccBadQuestion kfBadQuestion (fun f hf => by rw [List.mem_singleton.mp hf]; exact n0BadQuestion) (fun _ _ _ _ _ _ us hl => match us, hl with | [_, _], _ => rfl), cNoName := mkX1 (i := 21) KX G aNoName xNoName gaNoName ggNoName haNoName saNoName kNoName iNoName tNoName lNoName ccNoName kfNoName (fun f hf => by rw [List.mem_singleton.mp hf]; exact n0NoName) (fun _ _ _ _ _ _ us hl => match us, hl with | [_, _], _ => rfl), cNotThere := mkX1 (i := 22) KX G aNotThere xNotThere gaNotThere ggNotThere haNotThere saNotThere kNotThere iNotThere tNotThere lNotThere ccNotThere kfNotThere (fun f hf => by rw [List.mem_singleton.mp hf]; exact n0NotThere) (fun _ _ _ _ _ _ us hl => match us, hl with | [_, _], _ => rfl), cThereAlready := mkX1 (i := 23) KX G aThereAlready xThereAlready gaThereAlready ggThereAlready haThereAlready saThereAlready kThereAlready iThereAlready tThereAlready lThereAlready ccThereAlready kfThereAlready (fun f hf => by rw [List.mem_singleton.mp hf]; exact n0ThereAlready) (fun _ _ _ _ _ _ us hl => match us, hl with | [_, _], _ => rfl), cNothingToUndo := mkX0 KX G aNothingToUndo xNothingToUndo gaNothingToUndo ggNothingToUndo haNothingToUndo eNothingToUndo kNothingToUndo, cNothingToRedo := mkX0 KX G aNothingToRedo xNothingToRedo gaNothingToRedo ggNothingToRedo haNothingToRedo eNothingToRedo kNothingToRedo }
  have T : TL K mg R := { c := TCx, mInt := PySem.W.mg_none_of KX G zint, mI := PySem.W.mg_none_of KX G zisinstance, mL := PySem.W.mg_none_of KX G zlen, mR := PySem.W.mg_none_of KX G zrepr, mV := PySem.W.mg_none_of KX G zValueError, source := ⟨_, _, mkD (ps := ["_law_cell"]) (st := sSource) KX G a_law_source l_law_source cc_law_source kf_law_source (fun _ _ _ _ _ _ us hl => match us, hl with | [_], _ => rfl)⟩, draw := ⟨_, _, mkD (ps := ["_law_source_here", "_law_limit"]) (st := sDraw) KX G a_law_draw l_law_draw cc_law_draw kf_law_draw (fun _ _ _ _ _ _ us hl => match us, hl with | [_, _], _ => rfl)⟩, value := ⟨_, _, mkD (ps := ["_law_source_here"]) (st := sValue) KX G a_law_value l_law_value cc_law_value kf_law_value (fun _ _ _ _ _ _ us hl => match us, hl with | [_], _ => rfl)⟩, made := ⟨_, _, mkD (ps := ["_law_one", "_law_two"]) (st := sMade) KX G a_law_made l_law_made cc_law_made kf_law_made (fun _ _ _ _ _ _ us hl => match us, hl with | [_, _], _ => rfl)⟩, kept := ⟨_, _, mkD (ps := ["_law_one", "_law_two"]) (st := sKept) KX G a_law_kept l_law_kept cc_law_kept kf_law_kept (fun _ _ _ _ _ _ us hl => match us, hl with | [_, _], _ => rfl)⟩, classes := ⟨_, _, mkD (ps := ["_law_e"]) (st := sClasses) KX G a_law_classes l_law_classes cc_law_classes kf_law_classes (fun _ _ _ _ _ _ us hl => match us, hl with | [_], _ => rfl)⟩ }
  have F := fun_mk (st := sLaw) llaw cclaw kflaw
  exact ⟨_, fun s v => .of_eq rfl, fun base _ _ => ok_law T F⟩
theorem walk {l : PySem.W.OpenLaw} {q : Program} {loose : List Str} {XP : (Str → Option Value) → Heap → Prop} {YP : World → Heap → Prop} {d : DefRec} {K : Params → PySem.W.Frag} (hn : l.most = some 63) (hdf : d.params.defaults = [])
    (hY : ∀ (w : World) (h : Heap), YP w h → (K w.params).In h)
    (F : ∀ (w : World) (mg : Str → Option Value) (fa : Addr) (h : Heap), (K w.params).In h → h.Ns mainGlobals mg → mg d.name = some (.ref fa) →
      ∃ fd : FuncData, (∀ (s : Shared) (u : Value), BindsTo s fd ⟨[u], []⟩ [("_law_script", u)]) ∧ ∀ base : Heap, (K w.params).In base → base.Ns mainGlobals mg → FnG l.prog w (K w.params) mg base 4 fa fd ["_law_script"] (spLaw (K w.params))) :
    PySem.W.WalkO q loose XP YP l.row.toRowW d [] (fun f vs => PySem.call f vs) :=
  walkG (n := 63) (k := 4) (x := "_law_script") (sp := fun w => spLaw (K w.params)) hn (by decide) hdf ⟨rfl, by decide, by decide⟩ hY F (fun w H a ns hl hb _ hS => ⟨a, ns, rfl, hS, hb, hl, fun _ => rfl⟩)
end G39

open PySem PySem.W PyProof.Rows
set_option maxRecDepth 100000 in
set_option maxHeartbeats 0 in
theorem PySem.Challenge.cw_fullestrows_k02_errors_holds : PySem.Challenge.rw_fullestrows_k02_errors.Holds := by
  w_on; o_law; k_head; (case hw => w_witness2)
  k_fill
  refine G39.walk (l := PySem.Challenge.rw_fullestrows_k02_errors) rfl rfl (fun w h Y => PySem.W.kIn_of Y) ?F
  case F =>
    intro w mg fa h KX G hmg
    refine' G39.all_mk KX G hmg ?aR ?clR ?tR ?hn ?ht ?aBadFact ?xBadFact ?gaBadFact ?ggBadFact ?haBadFact ?kBadFact ?saBadFact ?iBadFact ?tBadFact ?lBadFact ?ccBadFact ?kfBadFact ?n0BadFact ?aBadPattern ?xBadPattern ?gaBadPattern ?ggBadPattern ?haBadPattern ?kBadPattern ?saBadPattern ?iBadPattern ?tBadPattern ?lBadPattern ?ccBadPattern ?kfBadPattern ?n0BadPattern ?aBadLine ?xBadLine ?gaBadLine ?ggBadLine ?haBadLine ?kBadLine ?saBadLine ?iBadLine ?tBadLine ?lBadLine ?ccBadLine ?kfBadLine ?n0BadLine ?aBadText ?xBadText ?gaBadText ?ggBadText ?haBadText ?kBadText ?eBadText ?aBadKey ?xBadKey ?gaBadKey ?ggBadKey ?haBadKey ?kBadKey ?eBadKey ?aBadRule ?xBadRule ?gaBadRule ?ggBadRule ?haBadRule ?kBadRule ?eBadRule ?aClash ?xClash ?gaClash ?ggClash ?haClash ?kClash ?eClash ?aBroken ?xBroken ?gaBroken ?ggBroken ?haBroken ?kBroken ?saBroken ?iBroken ?tBroken ?lBroken ?ccBroken ?kfBroken ?n0Broken ?n1Broken ?aBadNodes ?xBadNodes ?gaBadNodes ?ggBadNodes ?haBadNodes ?kBadNodes ?eBadNodes ?aLoose ?xLoose ?gaLoose ?ggLoose ?haLoose ?kLoose ?saLoose ?iLoose ?tLoose ?lLoose ?ccLoose ?kfLoose ?n0Loose ?aNothingNew ?xNothingNew ?gaNothingNew ?ggNothingNew ?haNothingNew ?kNothingNew ?saNothingNew ?iNothingNew ?tNothingNew ?lNothingNew ?ccNothingNew ?kfNothingNew ?n0NothingNew ?aBadNode ?xBadNode ?gaBadNode ?ggBadNode ?haBadNode ?kBadNode ?saBadNode ?iBadNode ?tBadNode ?lBadNode ?ccBadNode ?kfBadNode ?n0BadNode ?aBadPart ?xBadPart ?gaBadPart ?ggBadPart ?haBadPart ?kBadPart ?saBadPart ?iBadPart ?tBadPart ?lBadPart ?ccBadPart ?kfBadPart ?n0BadPart ?aNoPart ?xNoPart ?gaNoPart ?ggNoPart ?haNoPart ?kNoPart ?saNoPart ?iNoPart ?tNoPart ?lNoPart ?ccNoPart ?kfNoPart ?n0NoPart ?aBadNames ?xBadNames ?gaBadNames ?ggBadNames ?haBadNames ?kBadNames ?eBadNames ?aOrBelow ?xOrBelow ?gaOrBelow ?ggOrBelow ?haOrBelow ?kOrBelow ?eOrBelow ?aBadStrike ?xBadStrike ?gaBadStrike ?ggBadStrike ?haBadStrike ?kBadStrike ?saBadStrike ?iBadStrike ?tBadStrike ?lBadStrike ?ccBadStrike ?kfBadStrike ?n0BadStrike ?aNotAnAnswer ?xNotAnAnswer ?gaNotAnAnswer ?ggNotAnAnswer ?haNotAnAnswer ?kNotAnAnswer ?saNotAnAnswer ?iNotAnAnswer ?tNotAnAnswer ?lNotAnAnswer ?ccNotAnAnswer ?kfNotAnAnswer ?n0NotAnAnswer ?aBadQuestion ?xBadQuestion ?gaBadQuestion ?ggBadQuestion ?haBadQuestion ?kBadQuestion ?saBadQuestion ?iBadQuestion ?tBadQuestion ?lBadQuestion ?ccBadQuestion ?kfBadQuestion ?n0BadQuestion ?aNoName ?xNoName ?gaNoName ?ggNoName ?haNoName ?kNoName ?saNoName ?iNoName ?tNoName ?lNoName ?ccNoName ?kfNoName ?n0NoName ?aNotThere ?xNotThere ?gaNotThere ?ggNotThere ?haNotThere ?kNotThere ?saNotThere ?iNotThere ?tNotThere ?lNotThere ?ccNotThere ?kfNotThere ?n0NotThere ?aThereAlready ?xThereAlready ?gaThereAlready ?ggThereAlready ?haThereAlready ?kThereAlready ?saThereAlready ?iThereAlready ?tThereAlready ?lThereAlready ?ccThereAlready ?kfThereAlready ?n0ThereAlready ?aNothingToUndo ?xNothingToUndo ?gaNothingToUndo ?ggNothingToUndo ?haNothingToUndo ?kNothingToUndo ?eNothingToUndo ?aNothingToRedo ?xNothingToRedo ?gaNothingToRedo ?ggNothingToRedo ?haNothingToRedo ?kNothingToRedo ?eNothingToRedo ?a_law_source ?l_law_source ?cc_law_source ?kf_law_source ?a_law_draw ?l_law_draw ?cc_law_draw ?kf_law_draw ?a_law_value ?l_law_value ?cc_law_value ?kf_law_value ?a_law_made ?l_law_made ?cc_law_made ?kf_law_made ?a_law_kept ?l_law_kept ?cc_law_kept ?kf_law_kept ?a_law_classes ?l_law_classes ?cc_law_classes ?kf_law_classes ?alaw ?llaw ?cclaw ?kflaw ?zint ?zisinstance ?zlen ?zrepr ?zValueError
    (case aR => k_is)
    (case clR => k_is)
    (case tR => k_is)
    (case hn => k_is)
    (case ht => k_is)
    (case aBadFact => k_is)
    (case xBadFact => k_is)
    (case gaBadFact => k_is)
    (case ggBadFact => k_is)
    (case haBadFact => k_is)
    (case kBadFact => k_is)
    (case saBadFact => k_is)
    (case iBadFact => k_is)
    (case tBadFact => k_is)
    (case lBadFact => k_is)
    (case ccBadFact => k_is)
    (case kfBadFact => k_is)
    (case n0BadFact => k_is)
    (case aBadPattern => k_is)
    (case xBadPattern => k_is)
    (case gaBadPattern => k_is)
    (case ggBadPattern => k_is)
    (case haBadPattern => k_is)
    (case kBadPattern => k_is)
    (case saBadPattern => k_is)
    (case iBadPattern => k_is)
    (case tBadPattern => k_is)
    (case lBadPattern => k_is)
    (case ccBadPattern => k_is)
    (case kfBadPattern => k_is)
    (case n0BadPattern => k_is)
    (case aBadLine => k_is)
    (case xBadLine => k_is)
    (case gaBadLine => k_is)
    (case ggBadLine => k_is)
    (case haBadLine => k_is)
    (case kBadLine => k_is)
    (case saBadLine => k_is)
    (case iBadLine => k_is)
    (case tBadLine => k_is)
    (case lBadLine => k_is)
    (case ccBadLine => k_is)
    (case kfBadLine => k_is)
    (case n0BadLine => k_is)
    (case aBadText => k_is)
    (case xBadText => k_is)
    (case gaBadText => k_is)
    (case ggBadText => k_is)
    (case haBadText => k_is)
    (case kBadText => k_is)
    (case eBadText => k_exc)
    (case aBadKey => k_is)
    (case xBadKey => k_is)
    (case gaBadKey => k_is)
    (case ggBadKey => k_is)
    (case haBadKey => k_is)
    (case kBadKey => k_is)
    (case eBadKey => k_exc)
    (case aBadRule => k_is)
    (case xBadRule => k_is)
    (case gaBadRule => k_is)
    (case ggBadRule => k_is)
    (case haBadRule => k_is)
    (case kBadRule => k_is)
    (case eBadRule => k_exc)
    (case aClash => k_is)
    (case xClash => k_is)
    (case gaClash => k_is)
    (case ggClash => k_is)
    (case haClash => k_is)
    (case kClash => k_is)
    (case eClash => k_exc)
    (case aBroken => k_is)
    (case xBroken => k_is)
    (case gaBroken => k_is)
    (case ggBroken => k_is)
    (case haBroken => k_is)
    (case kBroken => k_is)
    (case saBroken => k_is)
    (case iBroken => k_is)
    (case tBroken => k_is)
    (case lBroken => k_is)
    (case ccBroken => k_is)
    (case kfBroken => k_is)
    (case n0Broken => k_is)
    (case n1Broken => k_is)
    (case aBadNodes => k_is)
    (case xBadNodes => k_is)
    (case gaBadNodes => k_is)
    (case ggBadNodes => k_is)
    (case haBadNodes => k_is)
    (case kBadNodes => k_is)
    (case eBadNodes => k_exc)
    (case aLoose => k_is)
    (case xLoose => k_is)
    (case gaLoose => k_is)
    (case ggLoose => k_is)
    (case haLoose => k_is)
    (case kLoose => k_is)
    (case saLoose => k_is)
    (case iLoose => k_is)
    (case tLoose => k_is)
    (case lLoose => k_is)
    (case ccLoose => k_is)
    (case kfLoose => k_is)
    (case n0Loose => k_is)
    (case aNothingNew => k_is)
    (case xNothingNew => k_is)
    (case gaNothingNew => k_is)
    (case ggNothingNew => k_is)
    (case haNothingNew => k_is)
    (case kNothingNew => k_is)
    (case saNothingNew => k_is)
    (case iNothingNew => k_is)
    (case tNothingNew => k_is)
    (case lNothingNew => k_is)
    (case ccNothingNew => k_is)
    (case kfNothingNew => k_is)
    (case n0NothingNew => k_is)
    (case aBadNode => k_is)
    (case xBadNode => k_is)
    (case gaBadNode => k_is)
    (case ggBadNode => k_is)
    (case haBadNode => k_is)
    (case kBadNode => k_is)
    (case saBadNode => k_is)
    (case iBadNode => k_is)
    (case tBadNode => k_is)
    (case lBadNode => k_is)
    (case ccBadNode => k_is)
    (case kfBadNode => k_is)
    (case n0BadNode => k_is)
    (case aBadPart => k_is)
    (case xBadPart => k_is)
    (case gaBadPart => k_is)
    (case ggBadPart => k_is)
    (case haBadPart => k_is)
    (case kBadPart => k_is)
    (case saBadPart => k_is)
    (case iBadPart => k_is)
    (case tBadPart => k_is)
    (case lBadPart => k_is)
    (case ccBadPart => k_is)
    (case kfBadPart => k_is)
    (case n0BadPart => k_is)
    (case aNoPart => k_is)
    (case xNoPart => k_is)
    (case gaNoPart => k_is)
    (case ggNoPart => k_is)
    (case haNoPart => k_is)
    (case kNoPart => k_is)
    (case saNoPart => k_is)
    (case iNoPart => k_is)
    (case tNoPart => k_is)
    (case lNoPart => k_is)
    (case ccNoPart => k_is)
    (case kfNoPart => k_is)
    (case n0NoPart => k_is)
    (case aBadNames => k_is)
    (case xBadNames => k_is)
    (case gaBadNames => k_is)
    (case ggBadNames => k_is)
    (case haBadNames => k_is)
    (case kBadNames => k_is)
    (case eBadNames => k_exc)
    (case aOrBelow => k_is)
    (case xOrBelow => k_is)
    (case gaOrBelow => k_is)
    (case ggOrBelow => k_is)
    (case haOrBelow => k_is)
    (case kOrBelow => k_is)
    (case eOrBelow => k_exc)
    (case aBadStrike => k_is)
    (case xBadStrike => k_is)
    (case gaBadStrike => k_is)
    (case ggBadStrike => k_is)
    (case haBadStrike => k_is)
    (case kBadStrike => k_is)
    (case saBadStrike => k_is)
    (case iBadStrike => k_is)
    (case tBadStrike => k_is)
    (case lBadStrike => k_is)
    (case ccBadStrike => k_is)
    (case kfBadStrike => k_is)
    (case n0BadStrike => k_is)
    (case aNotAnAnswer => k_is)
    (case xNotAnAnswer => k_is)
    (case gaNotAnAnswer => k_is)
    (case ggNotAnAnswer => k_is)
    (case haNotAnAnswer => k_is)
    (case kNotAnAnswer => k_is)
    (case saNotAnAnswer => k_is)
    (case iNotAnAnswer => k_is)
    (case tNotAnAnswer => k_is)
    (case lNotAnAnswer => k_is)
    (case ccNotAnAnswer => k_is)
    (case kfNotAnAnswer => k_is)
    (case n0NotAnAnswer => k_is)
    (case aBadQuestion => k_is)
    (case xBadQuestion => k_is)
    (case gaBadQuestion => k_is)
    (case ggBadQuestion => k_is)
    (case haBadQuestion => k_is)
    (case kBadQuestion => k_is)
    (case saBadQuestion => k_is)
    (case iBadQuestion => k_is)
    (case tBadQuestion => k_is)
    (case lBadQuestion => k_is)
    (case ccBadQuestion => k_is)
    (case kfBadQuestion => k_is)
    (case n0BadQuestion => k_is)
    (case aNoName => k_is)
    (case xNoName => k_is)
    (case gaNoName => k_is)
    (case ggNoName => k_is)
    (case haNoName => k_is)
    (case kNoName => k_is)
    (case saNoName => k_is)
    (case iNoName => k_is)
    (case tNoName => k_is)
    (case lNoName => k_is)
    (case ccNoName => k_is)
    (case kfNoName => k_is)
    (case n0NoName => k_is)
    (case aNotThere => k_is)
    (case xNotThere => k_is)
    (case gaNotThere => k_is)
    (case ggNotThere => k_is)
    (case haNotThere => k_is)
    (case kNotThere => k_is)
    (case saNotThere => k_is)
    (case iNotThere => k_is)
    (case tNotThere => k_is)
    (case lNotThere => k_is)
    (case ccNotThere => k_is)
    (case kfNotThere => k_is)
    (case n0NotThere => k_is)
    (case aThereAlready => k_is)
    (case xThereAlready => k_is)
    (case gaThereAlready => k_is)
    (case ggThereAlready => k_is)
    (case haThereAlready => k_is)
    (case kThereAlready => k_is)
    (case saThereAlready => k_is)
    (case iThereAlready => k_is)
    (case tThereAlready => k_is)
    (case lThereAlready => k_is)
    (case ccThereAlready => k_is)
    (case kfThereAlready => k_is)
    (case n0ThereAlready => k_is)
    (case aNothingToUndo => k_is)
    (case xNothingToUndo => k_is)
    (case gaNothingToUndo => k_is)
    (case ggNothingToUndo => k_is)
    (case haNothingToUndo => k_is)
    (case kNothingToUndo => k_is)
    (case eNothingToUndo => k_exc)
    (case aNothingToRedo => k_is)
    (case xNothingToRedo => k_is)
    (case gaNothingToRedo => k_is)
    (case ggNothingToRedo => k_is)
    (case haNothingToRedo => k_is)
    (case kNothingToRedo => k_is)
    (case eNothingToRedo => k_exc)
    (case a_law_source => k_is)
    (case l_law_source => k_is)
    (case cc_law_source => k_is)
    (case kf_law_source => k_is)
    (case a_law_draw => k_is)
    (case l_law_draw => k_is)
    (case cc_law_draw => k_is)
    (case kf_law_draw => k_is)
    (case a_law_value => k_is)
    (case l_law_value => k_is)
    (case cc_law_value => k_is)
    (case kf_law_value => k_is)
    (case a_law_made => k_is)
    (case l_law_made => k_is)
    (case cc_law_made => k_is)
    (case kf_law_made => k_is)
    (case a_law_kept => k_is)
    (case l_law_kept => k_is)
    (case cc_law_kept => k_is)
    (case kf_law_kept => k_is)
    (case a_law_classes => k_is)
    (case l_law_classes => k_is)
    (case cc_law_classes => k_is)
    (case kf_law_classes => k_is)
    (case alaw => k_is)
    (case llaw => k_is)
    (case cclaw => k_is)
    (case kflaw => k_is)
    (case zint => k_is)
    (case zisinstance => k_is)
    (case zlen => k_is)
    (case zrepr => k_is)
    (case zValueError => k_is)
#print axioms PySem.Challenge.cw_fullestrows_k02_errors_holds
