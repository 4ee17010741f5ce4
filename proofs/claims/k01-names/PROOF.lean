import PyProof.Rows.All
import Wide.All
import OpenK.AllK
import Wide.FinOn
import HandS.ForMost
import HandS.Set
import HandS.SetBool
import HandS.More
import HandS.EndBits
import HandS.Evl
import HandS.IsInst
import HandS.TupAny
import HandS.TupMul
import HandS.Star
import HandS.FStr
import HandS.RaiseMore
import HandS.TryOnly
import HandS.Walk
import PyProof.Rows.StrPartPair
import PyProof.StrLawsTight
import PyProof.StrLawsChain
import PyProof.Rows.StrItems
import PyProof.Rows.StrSplitJoin
import PyProof.StrOps2
import PySem.Challenge.RW_fullestrows_k01_names_and_patterns
set_option Elab.async false
set_option linter.all false
set_option maxRecDepth 100000
set_option maxHeartbeats 4000000
/-! sets of texts: made by a comprehension, sorted -/
namespace G39
open PySem PySem.Spec PyProof.Rows L2
/-- a row of a set of texts -/
def keyT (e : Int × Value) : Str := match e.2 with | .str k _ => k | _ => Str.empty
def RowT (w : World) (e : Int × Value) : Prop := ∃ k tk, e.2 = Value.str k tk ∧ e.1 = hashStr w k
/-- the set of texts at a: its members as they came first, each once; its table rises and can be walked -/
def SetT (w : World) (h : Heap) (a : Addr) (L : List Str) : Prop :=
  ∃ o es ep t, h.get? a = some o ∧ o.ExactSet ∧ o.data = .set es ep t ∧ (∀ e ∈ es.toList, RowT w e) ∧ L.Nodup ∧ (es.toList.map keyT).Perm L ∧
    es.size < scanBound ∧ t.fits es.size = true ∧ Ris t.place.toList ∧ (w.params.followText "set-order" = true ∨ t.led = true)
section
variable {P : Program} {w : World} {A : Around} {E : Value → Shared → Prop} {s : Shared} {a : Addr} {L : List Str}
theorem SetT.at {h h' : Heap} (R : SetT w h a L) (k : ∀ o, h.get? a = some o → h'.get? a = some o) : SetT w h' a L := by
  obtain ⟨o, es, ep, t, ho, r⟩ := R
  exact ⟨o, es, ep, t, k o ho, r⟩
theorem SetT.len {h : Heap} (R : SetT w h a L) : ∃ o es ep t, h.get? a = some o ∧ o.data = .set es ep t ∧ es.size = L.length := by
  obtain ⟨o, es, ep, t, ho, _, hd, _, _, pm, _⟩ := R
  refine ⟨o, es, ep, t, ho, hd, ?_⟩
  rw [← pm.length_eq, List.length_map, Array.length_toList]
theorem row_elems {l : List (Int × Value)} (g : ∀ e ∈ l, RowT w e) : ElemsOf (strKind P w) l := fun e he => by
  obtain ⟨k, tk, h1, h2⟩ := g e he
  exact ⟨⟨k, by rw [h1]; exact strKind_is P w k tk, h2⟩, by rw [h1] <;> rfl⟩
theorem row_is {e : Int × Value} (g : RowT w e) (k : Str) : (strKind P w).is k e.2 = true ↔ keyT e = k := by
  obtain ⟨k0, tk, h1, _⟩ := g
  unfold keyT
  rw [h1]
  show (decide (k0 = k) = true) ↔ k0 = k
  exact decide_eq_true_iff
theorem row_mem {l : List (Int × Value)} (g : ∀ e ∈ l, RowT w e) (k : Str) : k ∈ l.map keyT ↔ ∃ e ∈ l, (strKind P w).is k e.2 = true := by
  rw [List.mem_map]
  constructor
  · rintro ⟨e, he, q⟩
    exact ⟨e, he, (row_is (g e he) k).2 q⟩
  · rintro ⟨e, he, q⟩
    exact ⟨e, he, (row_is (g e he) k).1 q⟩
theorem putRow_at {h : Heap} {o : Obj} {es es' : Array (Int × Value)} {ep : Nat} {t t' : SetTable} (ho : h.get? a = some o) (hd : o.data = .set es ep t) :
    (h.update a (Obj.putSet es' t')).get? a = some { o with data := .set es' (ep + 1) t' } := by
  have q := Heap.get?_update_self (Obj.putSet es' t') ho (by rw [putSet_of es' t' hd]; rfl)
  rw [putSet_of es' t' hd] at q
  exact q
/-- the rows are laid, and the table grows where it is too full -/
theorem setT_tail {g : Bool → Sem Unit} (hg : ∀ (b : Bool) (s₁ : Shared) (Q' : Unit → Shared → Prop), Q' () s₁ → wpAny (model P w) A (g b) Q' E s₁)
    {o : Obj} {es : Array (Int × Value)} {ep : Nat} {t : SetTable} (ho : s.heap.get? a = some o) (hex : o.ExactSet) (hd : o.data = .set es ep t)
    {es1 : Array (Int × Value)} {t2 : SetTable} {M : List Str} (g1 : ∀ e ∈ es1.toList, RowT w e) (nd : M.Nodup) (m1 : (es1.toList.map keyT).Perm M)
    (hb1 : es1.size < scanBound) (hf2 : t2.fits es1.size = true) (hr : Ris t2.place.toList) (hl : w.params.followText "set-order" = true ∨ t2.led = true) {wasDummy : Bool} {R : Option Bool → Shared → Prop}
    (hR : ∀ h', Heap.SameBut a s.heap h' → SetT w h' a M → R (some true) { s with heap := h' }) :
    wpAny (model P w) A (do
        storeSet a es1 t2
        if (!wasDummy && t2.tooFull) = true then do
            g (relayAll t2 es1 (SetTable.grown es1.size)).2.2
            storeSet a (relayAll t2 es1 (SetTable.grown es1.size)).1 (relayAll t2 es1 (SetTable.grown es1.size)).2.1
            pure (some true)
          else pure (some true)) R E s := by
  refine wpAny_bind (wpAny_storeSet_of ho hd ?_ (fits_of_scanBound hb1))
  have o1 := putRow_at (es' := es1) (t' := t2) ho hd
  have b1 := Heap.SameBut.update s.heap a (Obj.putSet es1 t2)
  split
  · have pm := relayAll_perm t2 es1 (SetTable.grown es1.size)
    have f3 := relayAll_fits t2 es1 (SetTable.grown es1.size)
    have r3 := relayAll_ris t2 es1 (SetTable.grown es1.size)
    have l3 := relayAll_led t2 es1 (SetTable.grown es1.size)
    generalize relayAll t2 es1 (SetTable.grown es1.size) = Z at pm f3 r3 l3 ⊢
    obtain ⟨es2, t3, gave⟩ := Z
    dsimp only at pm f3 r3 l3 ⊢
    have hsz : es2.size = es1.size := by
      rw [← Array.length_toList, pm.length_eq, Array.length_toList]
    have hb2 : es2.size < scanBound := by
      rw [hsz]
      exact hb1
    refine wpAny_bind (hg _ _ _ ?_)
    refine wpAny_bind (wpAny_storeSet_of o1 rfl ?_ (fits_of_scanBound hb2))
    have o2 := putRow_at (es' := es2) (t' := t3) o1 rfl
    refine wpAny_pure (hR _ (b1.trans (Heap.SameBut.update _ a _)) ?_)
    exact ⟨_, es2, _, t3, o2, hex, rfl, fun e he => g1 e (pm.mem_iff.mp he), nd, (pm.map keyT).trans m1, hb2, f3, r3, hl.imp id fun z => by rw [l3]; exact z⟩
  · exact wpAny_pure (hR _ b1 ⟨_, es1, _, t2, o1, hex, rfl, g1, nd, m1, hb1, hf2, hr, hl⟩)
/-- the members with one more, behind the others -/
def plus (L : List Str) (k : Str) : List Str := if k ∈ L then L else L ++ [k]
theorem setT_hashed {k : Str} {tk : Tok} {Q : Bool → Shared → Prop} (R : SetT w s.heap a L) (room : L.length + 1 < scanBound)
    (hQ : ∀ (b : Bool) h', Heap.SameBut a s.heap h' → SetT w h' a (plus L k) → Q b { s with heap := h' }) :
    wpAny (model P w) A (setAddHashed a (.str k tk) ((strKind P w).hash k)) Q E s := by
  obtain ⟨o, es, ep, t, ho, hex, hd, g, nd, pL, hb, hf, hr, hl⟩ := R
  have hkey : (strKind P w).is k (.str k tk) = true := strKind_is P w k tk
  have hsc : (Value.str k tk).scannable = true := rfl
  have hel : ElemsOf (strKind P w) es.toList := row_elems g
  have hlen : es.size = L.length := by
    rw [← pL.length_eq, List.length_map, Array.length_toList]
  unfold setAddHashed setAddHashedIn
  refine wpAny_holding (wpAny_bind (wpAny_setState_of ho hd hf ?_))
  dsimp only
  rw [byScan_of hsc hb hel]
  simp only [↓reduceIte]
  unfold setAddByScan
  refine wpAny_bind ?_
  refine wpAny_bind (wpAny_rule ?_)
  refine wpAny_bind (wpAny_setScan_of hkey ho hd hf hel ?_)
  cases hfi : List.findIdx? (fun e => (strKind P w).is k e.2) es.toList with
  | some j =>
    dsimp only
    obtain ⟨hj, pj, _⟩ := List.findIdx?_eq_some_iff_getElem.mp hfi
    have hk : k ∈ L := pL.mem_iff.mp ((row_mem (P := P) g k).2 ⟨es.toList[j], List.getElem_mem hj, pj⟩)
    refine wpAny_pure (wpAny_pure ?_)
    refine hQ false s.heap (Heap.SameBut.refl a s.heap) ?_
    rw [plus, if_pos hk]
    exact ⟨o, es, ep, t, ho, hex, hd, g, nd, pL, hb, hf, hr, hl⟩
  | none =>
    dsimp only
    have hk : k ∉ L := fun z => by
      obtain ⟨e, he, q⟩ := (row_mem (P := P) g k).1 (pL.mem_iff.mpr z)
      have c := List.findIdx?_eq_none_iff.mp hfi e he
      rw [q] at c
      cases c
    have gw : ∀ (b : Bool) {s₁ : Shared} {Q' : Unit → Shared → Prop}, Q' () s₁ → wpAny (model P w) A (match b with | true => rule "set.scan.the-table-gave-way" | false => pure ()) Q' E s₁ :=
      fun b s₁ Q' q => by cases b <;> first | exact wpAny_pure q | exact wpAny_rule q
    have pm := layNew_perm t es ((strKind P w).hash k) (.str k tk)
    have f1 := layNew_fits t es ((strKind P w).hash k) (.str k tk)
    have r1 := layNew_ris t es ((strKind P w).hash k) (.str k tk) hr
    have l1 := layNew_led t es ((strKind P w).hash k) (.str k tk)
    generalize layNew t es ((strKind P w).hash k) (.str k tk) = Z at pm f1 r1 l1 ⊢
    obtain ⟨es1, t1, wasDummy, gave⟩ := Z
    dsimp only at pm f1 r1 l1 ⊢
    rw [Array.toList_push] at pm
    have pc : es1.toList.Perm (((strKind P w).hash k, Value.str k tk) :: es.toList) := pm.trans (List.perm_append_singleton _ _)
    have pk : (es1.toList.map keyT).Perm (L ++ [k]) := (pc.map keyT).trans ((pL.cons k).trans (List.perm_append_singleton _ _).symm)
    have g1 : ∀ e ∈ es1.toList, RowT w e := fun e he => by
      rcases List.mem_cons.mp (pc.mem_iff.mp he) with z | z
      · rw [z]
        exact ⟨k, tk, rfl, rfl⟩
      · exact g e z
    have nd1 : (L ++ [k]).Nodup := (List.perm_append_singleton _ _).nodup_iff.mpr (List.nodup_cons.mpr ⟨hk, nd⟩)
    have hsz : es1.size = L.length + 1 := by
      rw [← Array.length_toList, pc.length_eq, List.length_cons, Array.length_toList, hlen]
    have hb1 : es1.size < scanBound := by
      rw [hsz]
      exact room
    have led : w.params.followText "set-order" = true ∨ t1.led = true := hl.imp id fun z => by
      rw [l1]
      exact z
    have fin : ∀ h', Heap.SameBut a s.heap h' → SetT w h' a (L ++ [k]) → Q true { s with heap := h' } := fun h' sb r => hQ true h' sb (by rw [plus, if_neg hk]; exact r)
    refine wpAny_bind (gw _ ?_)
    split
    · refine wpAny_bind ?_
      rw [hashByValue_scannable 8 hsc]
      refine wpAny_pure ?_
      refine setT_tail ?_ ho hex hd g1 nd1 pk hb1 ?_ ?_ ?_ ?_
      · intro b s₁ Q' q
        cases b <;> first | exact wpAny_pure q | exact wpAny_rule q
      · first | (split <;> first | exact f1 | exact SetTable.fits_plain_off f1) | exact f1
      · first | (split <;> exact r1) | exact r1
      · first | (split <;> exact led) | exact led
      · intro h' sb r
        dsimp only
        exact wpAny_pure (fin h' sb r)
    · refine wpAny_bind (wpAny_pure ?_)
      simp only [↓reduceIte]
      refine setT_tail ?_ ho hex hd g1 nd1 pk hb1 f1 r1 led ?_
      · intro b s₁ Q' q
        cases b <;> first | exact wpAny_pure q | exact wpAny_rule q
      · intro h' sb r
        dsimp only
        exact wpAny_pure (fin h' sb r)
end
end G39

/-! a set comprehension over any walk, for any description of the growing set -/
namespace G39
open PySem PySem.Spec PyProof.Rows L2
/-- how a growing set is described: what stands at D at first, and what it takes to put a value in -/
structure Bag (X : Cx) (zero : Addr → HO) (add : V → Hp → Addr → (Hp → Prop) → Prop) : Prop where
  new : ∀ (h : Heap) (H : Hp), ObjOk X.prog X.w H (h.push { cls := .type "set", dict := none, data := .set #[] 0 (.fresh 0 0 (!X.w.params.followText "set-order")) }) h.objs.size (zero h.objs.size)
  put : ∀ (Y : Cx), Y.prog = X.prog → Y.w = X.w → Y.A = X.A → Y.K = X.K → ∀ (pins : List (Addr × Obj)) (s : Shared) (σ : L2.St) (H : Hp) (D : Addr) (y : V) (u : Value) (Nx : Hp → Prop) (Q : Value → Shared → Prop) (E : Value → Shared → Prop),
    Inv Y pins σ H s → RelV y u → add y H D Nx → (∀ s' H', Inv Y pins σ H' s' → Nx H' → Q .none s') → wpAny (model Y.prog Y.w) Y.A (call (.builtin "set.add") [.ref D, u]) Q E s
/-- {elt for target in iter if ..}: D the new set -/
def tSg (zero : Addr → HO) (add : V → Hp → Addr → (Hp → Prop) → Prop) (wi : TI) (g : TG) (tt : TT) (te : TE) (vs : List Nat) : TE := fun σ H Q => wi σ H fun J H1 => ∀ D, H1 D = none →
  ∃ W : Nat → Nat → Hp → Prop, (∃ m, W 0 m (upd H1 D (zero D))) ∧ ∀ i m H, W i m H →
  (J.stop i H ∧ Q (.ref D) H) ∨ (J.go i H ∧ ∃ Nx : Hp → Prop, (∀ H', Nx H' → ∃ m', m' < m ∧ W (i + 1) m' H') ∧ ∀ x H', J.yld i H x H' → g x (wipe σ vs) H' fun σ2 H2 => wipe σ2 vs = wipe σ vs ∧ tt σ2 H2 fun b H3 =>
    if b = true then te σ2 H3 fun y H4 => add y H4 D Nx else Nx H3)
section
variable {X : Cx} {zero : Addr → HO} {add : V → Hp → Addr → (Hp → Prop) → Prop} {elt tg iter : Expr} {ifs : List Expr} {scope : Scope} {own : List (PySem.Str × Nat)} {pos : Pos} {wi : TI} {g : TG} {tt : TT} {te : TE}
theorem pe_sg (B : Bag X zero add) (hc : X.calm = true) (hN : X.N.Nodup) (hi : PI X tg iter wi) (ok : BlkOk X.N X.env.scope scope own)
    (hg : ∀ (s : Shared) (H : Hp) (C : Addr) (cl : List (PySem.Str × Addr)) (fp : List Addr), PG (X.blk s H scope (compEnvC scope cl C X.env) fp) tg g)
    (ht : ∀ (s : Shared) (H : Hp) (C : Addr) (cl : List (PySem.Str × Addr)) (fp : List Addr), PTs (X.blk s H scope (compEnvC scope cl C X.env) fp) ifs tt)
    (he : ∀ (s : Shared) (H : Hp) (C : Addr) (cl : List (PySem.Str × Addr)) (fp : List Addr), PE (X.blk s H scope (compEnvC scope cl C X.env) fp) elt te)
    (hs : ∀ x, foldedSetIterable iter X.env x = pure x := by intro _; rfl) :
    PE X (.SetComp elt [⟨tg, iter, ifs, 0⟩] scope pos) (tSg zero add wi g tt te (own.map (·.2))) := by
  refine ⟨fun pins s σ H Q I h => ?_⟩
  rw [PpSet.eval_SetComp]
  refine wpAny_comprehension_free rfl hs (closure_ok fun y hy e => ?_) ok.kind (fun y hy e => by rw [ok.uniq y hy, e]) (thn (hi.run pins s σ H _ I h) fun xv s1 hx => thn hx fun itv s2 h2 => ?_)
  · rcases ok.free y hy e with k | k
    · exact I.ok.has _ (.inl k)
    · exact I.ok.has _ (.inr k)
  obtain ⟨it, fp, tn, J, H2, rfl, I2, T, st2, f2, q⟩ := h2
  refine PpSet.newSet_ok (newEnv_comp ?_)
  have hDn : H2 s2.heap.objs.size = none := I2.hok.fresh (Nat.le_refl _)
  obtain ⟨W, ⟨m0, w0⟩, turn⟩ := q s2.heap.objs.size hDn
  have J3 : Inv X pins σ (upd H2 s2.heap.objs.size (zero s2.heap.objs.size)) { s2 with heap := s2.heap.push { cls := .type "set", dict := none, data := .set #[] 0 (.fresh 0 0 (!X.w.params.followText "set-order")) } } :=
    I2.laid (t' := s2.toks) (fun b o e => Heap.get?_push_of_some _ e) (Nat.le_refl _) (B.new _ _)
  generalize hs3 : ({ s2 with heap := s2.heap.push { cls := .type "set", dict := none, data := .set #[] 0 (.fresh 0 0 (!X.w.params.followText "set-order")) } } : Shared) = s3 at J3
  have h3 : s3.heap = s2.heap.push { cls := .type "set", dict := none, data := .set #[] 0 (.fresh 0 0 (!X.w.params.followText "set-order")) } := by rw [← hs3]
  have low : ∀ b ∈ fp, b < s2.heap.objs.size := fun b hb => by
    obtain ⟨o, e, _⟩ := T.obj _ _ st2 b hb
    exact Heap.lt_size e
  have f3 : ∀ b ∈ fp, FpOk X pins (upd H2 s2.heap.objs.size (zero s2.heap.objs.size)) b ∧ b < s3.heap.objs.size := fun b hb => by
    have hlt := low b hb
    refine ⟨⟨?_, (f2 b hb).2⟩, by rw [h3, Heap.size_push]; exact Nat.lt_succ_of_lt hlt⟩
    rw [upd_ne (Nat.ne_of_lt hlt)]
    exact (f2 b hb).1
  have st3 : tn 0 s3.heap := T.keep _ _ _ st2 fun b _ o e => by
    rw [h3]
    exact Heap.get?_push_of_some _ e
  generalize s2.heap.objs.size = D at hDn w0 J3 f3 turn ⊢
  generalize hH3 : upd H2 D (zero D) = H3 at J3 f3 w0
  have I4 := block_start J3 ok hN f3
  have pg := hg s3 H3 s3.heap.objs.size (cellsFrom (s3.heap.objs.size + 1) scope.names (cloFrom X.env.cells scope.names [])) fp
  have pt := ht s3 H3 s3.heap.objs.size (cellsFrom (s3.heap.objs.size + 1) scope.names (cloFrom X.env.cells scope.names [])) fp
  have pe := he s3 H3 s3.heap.objs.size (cellsFrom (s3.heap.objs.size + 1) scope.names (cloFrom X.env.cells scope.names [])) fp
  have nfp : ∀ b ∈ fp, H3 b = none := fun b hb => (f3 b hb).1.1
  show codeAny _ _ (.compStart (.SetComp elt [⟨tg, iter, ifs, 0⟩] scope pos) 0 (.ref it) (.ref D) (compEnvC scope (cellsFrom (s3.heap.objs.size + 1) scope.names (cloFrom X.env.cells scope.names [])) s3.heap.objs.size X.env)) _ { s3 with heap := pushCells (s3.heap.push { cls := .type "dict", data := .dict #[] }) scope.names }
  generalize hce : compEnvC scope (cellsFrom (s3.heap.objs.size + 1) scope.names (cloFrom X.env.cells scope.names [])) s3.heap.objs.size X.env = ce at I4 pg pt pe ⊢
  have cL : ce.locals = s3.heap.objs.size := by
    subst hce
    rfl
  generalize hs4 : ({ s3 with heap := pushCells (s3.heap.push { cls := .type "dict", data := .dict #[] }) scope.names } : Shared) = s4 at I4 ⊢
  have st4 : tn 0 s4.heap := T.keep _ _ _ st3 fun b _ o e => by
    rw [← hs4]
    exact pushCells_keeps _ _ _ _ (Heap.get?_push_of_some _ e)
  have stat : ∀ {σ' : L2.St} {H' : Hp} {s' : Shared}, Inv (X.blk s3 H3 scope ce fp) [] σ' H' s' → (∀ b ∈ fp, H' b = none) → ∀ b ∈ fp, FpOk (X.blk s3 H3 scope ce fp) [] H' b := fun {σ' H' s'} I' hn b hb =>
    ⟨hn b hb, (I'.ok.exf b hb).1, I'.ok.exfs b hb, .inl hb, fun x c e => (I'.ok.exf b hb).2 x c e, fun p hp => absurd (show p ∈ ([] : List (Addr × Obj)) ++ [] from hp) (by simp)⟩
  have loop : codeAny (model X.prog X.w) X.A (.compLoop (.SetComp elt [⟨tg, iter, ifs, 0⟩] scope pos) 0 (.ref it) (.ref D) ce) (compPost (model X.prog X.w) X.A X.xe none (EP X pins σ Q) (.ref D) s3.heap.objs.size) s4 := by
    refine PpSet.compLoopS_any (fun n s' => ∃ i H', Inv (X.blk s3 H3 scope ce fp) [] (wipe σ (own.map (·.2))) H' s' ∧ tn i s'.heap ∧ (∀ b ∈ fp, H' b = none) ∧ W i n H') ?_ m0 ⟨0, H3, I4, st4, nfp, w0⟩
    rintro n s5 ⟨i, H5, I5, st5, n5, w5⟩
    rcases turn i n H5 w5 with ⟨stop, qq⟩ | ⟨go, Nx, hNx, step⟩
    · refine thnF (T.done (X.blk s3 H3 scope ce fp) rfl rfl rfl hc i [] s5 _ H5 (fun _ _ => False) I5 (stat I5 n5) st5 stop) fun r s6 ⟨hr, I6⟩ => ?_
      subst hr
      have I7 : Inv X pins σ H5 s6 := J3.call' (ch := fp) I6.os I6.base I6.hok I6.bare fun b hb => ⟨(f3 b hb).1.2.2.2.1, (f3 b hb).1.2.1, (f3 b hb).1.2.2.2.2.1, (f3 b hb).1.2.2.2.2.2⟩
      have nC : H5 s3.heap.objs.size = none := by
        have z : H5 ce.locals = none := I6.free
        rwa [cL] at z
      obtain ⟨m, hn, _⟩ := I6.loc
      have hn : s6.heap.Ns ce.locals m := hn
      rw [cL] at hn
      obtain ⟨g0, g1, g2, g3, g4, g5⟩ := J3.fpOk (Nat.le_refl _) nC
      exact ⟨m, hn, fun h'' sb => ⟨.ref D, H5, I7.turned (t' := s6.toks) (fun b o hb e => (sb.2 b hb).trans e) g0 g1 g3 g4 g5, rfl, qq⟩⟩
    · refine thnF (T.item (X.blk s3 H3 scope ce fp) rfl rfl rfl hc i [] s5 _ H5 (fun _ _ => False) I5 (stat I5 n5) st5 go) fun r s6 ⟨u, hr, h6⟩ => ?_
      subst hr
      refine thnF h6 fun _ s7 ⟨x, H7, I7, r7, y7, st7, n7⟩ => ?_
      have I7' := I7.pinned (stat I7 n7) (T.obj _ _ st7)
      refine thnF (pg.run _ s7 _ H7 x u _ I7' r7 (step x H7 y7)) fun _ s8 ⟨σ8, H8, I8, hw8, q8⟩ => ?_
      refine thnF (pt.run _ s8 σ8 H8 _ I8 q8) fun b s9 ⟨H9, I9, q9⟩ => ?_
      have fin : ∀ {s' : Shared} {H' : Hp}, Inv (X.blk s3 H3 scope ce fp) ([] ++ pinsAt fp s7.heap) σ8 H' s' → Nx H' →
          ∃ m, m < n ∧ ∃ i H', Inv (X.blk s3 H3 scope ce fp) [] (wipe σ (own.map (·.2))) H' s' ∧ tn i s'.heap ∧ (∀ b ∈ fp, H' b = none) ∧ W i m H' := fun {s' H'} I' nx => by
        obtain ⟨m', hm, w'⟩ := hNx H' nx
        have pin' : ∀ b ∈ fp, ∀ o, s7.heap.get? b = some o → s'.heap.get? b = some o ∧ H' b = none := fun b hb o e =>
          let z := I'.pin (b, o) (List.mem_append_right _ (List.mem_append_right _ (mem_pinsAt hb e)))
          ⟨z.1, z.2.1⟩
        have hl : (wipe σ (own.map (·.2))).length = σ8.length := by rw [← hw8, wipe_length]
        refine ⟨m', hm, i + 1, H', (I'.unpinned (pins := [])).weak hl (fun j v e => ?_), T.keep _ _ _ st7 fun b hb o e => (pin' b hb o e).1, fun b hb => ?_, w'⟩
        · rw [← hw8] at e
          exact (wipe_some e).1
        · obtain ⟨o, e, _⟩ := T.obj _ _ st7 b hb
          exact (pin' b hb o e).2
      cases b with
      | false =>
        simp only [Bool.false_eq_true, if_false] at q9 ⊢
        exact fin I9 q9
      | true =>
        simp only [if_true] at q9 ⊢
        refine thnF (pe.run _ s9 σ8 H9 _ I9 q9) fun z s10 ⟨yv, H10, I10, r10, ad⟩ => ?_
        exact B.put (X.blk s3 H3 scope ce fp) rfl rfl rfl rfl _ s10 σ8 H10 D yv z Nx _ _ I10 r10 ad fun s11 H11 I11 nx => fin I11 nx
  exact PpSet.codeAny_compStart_set loop (T.self X.A 0 _ _ _ st4 loop)
end
/-- at a: the set of the texts L -/
def SetTx (w : World) (a : Addr) (L : List Str) : HO := .ext fun h => SetT w h a L
theorem setTx_ok {w : World} {P : Program} {H : Hp} {h : Heap} {a : Addr} {L : List Str} (R : SetT w h a L) : ObjOk P w H h a (SetTx w a L) := by
  have ⟨o, _, _, _, ho, _⟩ := R
  exact ⟨R, ⟨o, ho⟩, fun h1 h2 p k => SetT.at p k⟩
theorem setT_fresh {h : Heap} (w : World) : SetT w (h.push { cls := .type "set", dict := none, data := .set #[] 0 (.fresh 0 0 (!w.params.followText "set-order")) }) h.objs.size [] := by
  refine ⟨_, #[], 0, _, Heap.get?_push_size _ rfl, ⟨rfl, rfl, rfl⟩, rfl, (fun e he => by simp at he), .nil, .nil, by decide, by rfl, List.Pairwise.nil, ?_⟩
  show _ ∨ (!w.params.followText "set-order") = true
  cases w.params.followText "set-order"
  · exact .inr rfl
  · exact .inl rfl
def addTx (w : World) : V → Hp → Addr → (Hp → Prop) → Prop := fun y H D Nx => ∃ (k : Str) (L : List Str), y = .str k ∧ H D = some (SetTx w D L) ∧ L.length ≤ 1000 ∧ Nx (upd H D (SetTx w D (plus L k)))
theorem bagTx {X : Cx} : Bag X (fun D => SetTx X.w D []) (addTx X.w) := by
  refine ⟨fun h H => setTx_ok (setT_fresh X.w), ?_⟩
  intro Y e1 e2 e3 e4 pins s σ H D y u Nx Q E I r ad hq
  obtain ⟨k, L, rfl, hD, hl, nx⟩ := ad
  obtain ⟨tk, rfl⟩ := r
  rw [← e2] at hD nx
  have R : SetT Y.w s.heap D L := (I.hok D _ hD).1
  obtain ⟨o, es, ep, t, ho, hex, hd, _⟩ := id R
  refine wpAny_call_entry F.slot_set_add ⟨o, ho, hex.1⟩ F.entry_set_add ?_ (F.args_set_add_2 _ _)
  unfold Builtin.«set.add» Builtin.Frozenset.oneOther
  simp only [List.isEmpty_nil, bind_assoc]
  unfold Builtin.Frozenset.addrOf setAdd
  refine wpAny_bind (wpAny_pure ?_)
  try dsimp only
  refine wpAny_bind (wpAny_pure ?_)
  try dsimp only
  refine wpAny_bind ?_
  refine wpAny_holding ?_
  refine wpAny_bind ((strKind Y.prog Y.w).pyHash (strKind_is Y.prog Y.w k tk) ?_)
  refine setT_hashed (s := { s with toks := s.toks + 1 }) R (Nat.lt_of_le_of_lt (Nat.succ_le_succ hl) (by decide)) fun b h' sb new => ?_
  show wpAny _ _ (ret Value.none) _ _ _
  have hv : ∃ v, h'.get? D = some v := by
    obtain ⟨o', _, _, _, ho', _⟩ := new
    exact ⟨o', ho'⟩
  exact wpAny_pure ⟨_, rfl, hq _ _ (I.write (e := D) (t' := s.toks + 1) (by rw [hD]; trivial) (.inl rfl) (fun b u hb hu => (sb.2 b hb).trans hu) hv (setTx_ok new)) nx⟩
end G39

namespace G39
open PySem PySem.Spec PyProof.Rows L2
/-- the texts of rows -/
theorem rows_strs {w : World} : ∀ (l : List Value), (∀ v ∈ l, ∃ k tk, v = Value.str k tk) → StrsAre l (l.map fun v => match v with | .str k _ => k | _ => Str.empty)
  | [], _ => .nil
  | v :: l, h => by
    obtain ⟨k, tk, rfl⟩ := h v List.mem_cons_self
    exact .cons k tk (rows_strs (w := w) l fun u hu => h u (List.mem_cons_of_mem _ hu))
/-- sorted(a set of texts) -/
def rSortTx (w : World) : List V → Hp → VK → Prop := fun vs H Q => ∃ (a : Addr) (L : List Str), vs = [V.ref a] ∧ H a = some (SetTx w a L) ∧ L.length < 64 ∧ ∀ (ys : List Str) (p : Addr), ys.Perm L → sortedS ys = true → H p = none → Q (.ref p) (upd H p (.lst (ys.map V.str)))
theorem cr_sortTx {X : Cx} (hc : X.calm = true) : CallR X (.builtin "sorted") (rSortTx X.w) := by
  intro pins s σ H vs us Q I r h
  obtain ⟨a, L, rfl, ha, h64, q⟩ := h
  have R : SetT X.w s.heap a L := (I.hok a _ ha).1
  rw [Vals.ref1 r]
  obtain ⟨o, es, ep, t, ho, hex, hd, g, nd, pL, hb, hf, hr, hl⟩ := R
  refine Calls.call_function_entry PyProof.Rows.kind_sorted PyProof.Rows.plain_sorted PyProof.Rows.entry_sorted (PyProof.Rows.args_sorted1 _) ?_
  unfold Builtin.«sorted»
  refine wpAny_bind (m := checkCount "sorted" 1 1 _) (wpAny_pure ?_)
  refine wpAny_bind (collect_set (A := X.A.in1) (I.ok.hd hc) ⟨o, ho, hex.1, hd⟩ hf hb hr hl fun s1 us k1 hz g1 o1 pm => ?_)
  have hS : StrsAre us (us.map fun v => match v with | .str k _ => k | _ => Str.empty) := rows_strs (w := X.w) us fun v hv => by
    obtain ⟨e, he, z⟩ := List.mem_map.mp (pm.mem_iff.mp hv)
    obtain ⟨k, tk, h1, _⟩ := g e he
    exact ⟨k, tk, by rw [← z]; exact h1⟩
  have pk : (us.map fun v => match v with | .str k _ => k | _ => Str.empty).Perm L := by
    have z := pm.map (fun v : Value => match v with | .str k _ => k | _ => Str.empty)
    rw [List.map_map] at z
    exact z.trans pL
  have hlen : us.length < 64 := by
    have z := pk.length_eq
    rw [List.length_map] at z
    omega
  have I1 : Inv X pins σ H s1 := I.call' (ch := []) o1 (Un.kept k1) (I.hok.kept k1) (by rw [g1]; exact I.bare) (fun _ z => nomatch z)
  refine wpAny_bind (wpAny_newList ?_ (by rw [sizeLine_eq]; omega))
  obtain ⟨h', gg, dd, tk, os⟩ := s1
  have hoL : (h'.push (seqObj "list" us.toArray 0)).get? h'.objs.size = some (seqObj "list" us.toArray 0) := Heap.get?_push_size _ rfl
  refine wpAny_bind (wpAny_holding (wpAny_call_entry PyProof.Rows.slot_list_sort ⟨_, hoL, rfl⟩ PyProof.Rows.entry_list_sort
    (list_sort_treeK strKind_oneLt hoL hS.keysOf (fun v₁ v₂ rest e => keyKind_strs (by rw [← e]; exact hS)) hlen fun st' hp hs => ⟨_, rfl, ?_⟩) (PyProof.Rows.args_list_sort _)))
  obtain ⟨ys, y1, y2, y3⟩ := sorted_out_str hS hp hs
  obtain ⟨e', he'⟩ := PyProof.Rows.sortedHeap_at (vs := us) (out := (arrOf st').map (·.2)) hoL
  have hz2 : (ys.map V.str).length ≤ sizeLine := by
    rw [List.length_map, y2.length_eq, List.length_map, sizeLine_eq]
    omega
  refine wpAny_pure ⟨_, rfl, .ref h'.objs.size, upd H h'.objs.size (.lst (ys.map V.str)), I1.laid (t' := tk) (fun b u e => ?_) (Nat.le_refl _)
    (show ObjOk X.prog X.w _ _ _ (.lst (ys.map V.str)) from ⟨hz2, ((arrOf st').map (·.2)).toList, e', vals_of_strs y1, by rw [Array.toArray_toList]; exact he'⟩), rfl, q ys _ (y2.trans pk) y3 (I1.hok.fresh (Nat.le_refl _))⟩
  have hb : b < h'.objs.size := Heap.lt_size e
  rw [PyProof.Rows.sortedHeap_old (Nat.ne_of_lt hb) (by rw [size_push']; exact Nat.lt_succ_of_lt hb)]
  exact Heap.get?_push_of_some _ e
end G39

namespace G39
open PySem PySem.Spec PyProof.Rows L2
/-! whole numbers of many bits -/
theorem bits_of_lt {x : Int} {n : Nat} (h : x.natAbs < 2 ^ n) : Builtin.Int.intBits x ≤ n := by
  unfold Builtin.Int.intBits
  split
  · exact Nat.zero_le _
  · rename_i hx
    have h0 : x.natAbs ≠ 0 := by
      intro e
      apply hx
      have : x = 0 := by omega
      subst this
      rfl
    have := (Nat.log2_lt h0).mpr h
    omega
theorem lt_of_bits {x : Int} {n : Nat} (h : Builtin.Int.intBits x ≤ n) : x.natAbs < 2 ^ n := by
  unfold Builtin.Int.intBits at h
  split at h
  · rename_i hx
    have : x = 0 := by simpa using hx
    subst this
    exact Nat.two_pow_pos n
  · rename_i hx
    have h0 : x.natAbs ≠ 0 := by
      intro e
      apply hx
      have : x = 0 := by omega
      subst this
      rfl
    exact (Nat.log2_lt h0).mp (by omega)
/-- a * cell + a few bits more -/
theorem bits_lin {c m k : Int} (hc : Builtin.Int.intBits c ≤ 1048576) (hm : m.natAbs ≤ 65536) (hk : k.natAbs ≤ 2 ^ 80) : Builtin.Int.intBits (c * m + k) ≤ 1048600 := by
  refine bits_of_lt ?_
  have h1 := lt_of_bits hc
  have h2 : (c * m + k).natAbs ≤ c.natAbs * m.natAbs + k.natAbs := by
    have := Int.natAbs_add_le (c * m) k
    rw [Int.natAbs_mul] at this
    exact this
  have h3 : c.natAbs * m.natAbs ≤ 2 ^ 1048576 * 65536 := Nat.mul_le_mul (Nat.le_of_lt h1) hm
  have e : (2 : Nat) ^ 1048600 = 2 ^ 1048576 * 16777216 := by
    rw [show (1048600 : Nat) = 1048576 + 24 from rfl, Nat.pow_add]
  have h4 : (2 : Nat) ^ 80 ≤ 2 ^ 1048576 := Nat.pow_le_pow_right (by decide) (by decide)
  rw [e]
  generalize (2 : Nat) ^ 1048576 = z at *
  omega
def CPowW (i j : Int) : Prop := 0 ≤ j ∧ (Builtin.Int.intBits i : Int) * j ≤ 2 ^ 27
theorem op_powW {X : Cx} : OpR X (binaryOp .Pow) (rI CPowW fun i j => .int (i ^ j.toNat)) := opI fun _ _ _ _ _ _ _ hc q => PyProof.Rows.pow_int hc.1 hc.2 q
theorem cpow3 {c m k : Int} (hc : Builtin.Int.intBits c ≤ 1048576) (hm : m.natAbs ≤ 65536) (hk : k.natAbs ≤ 2 ^ 80) : CPowW (c * m + k) 3 := by
  refine ⟨by decide, ?_⟩
  have := bits_lin hc hm hk
  generalize Builtin.Int.intBits (c * m + k) = z at *
  omega
end G39

/-! the rules by a written part that is named, so that they stand within comprehensions, too; what is evaluated, by what is told of it -/
namespace G39
open PySem PySem.Spec PyProof.Rows L2 Evl
section
variable {X : Cx} {K : PySem.W.Frag} {w : World} {tg l : Expr} {tl : TE}
theorem call_len_seqK (h : X.K = K) : CallR X (.builtin "len") (rLenS K) := by subst h; exact call_len_seq
theorem call_isiK' (h : X.K = K) : CallR X (.builtin "isinstance") (rIsi K) := by subst h; exact call_isi
theorem cr_allK (h : X.K = K) (hc : X.calm = true) : CallR X (.builtin "all") (rAll K) := by subst h; exact cr_all hc
theorem call_list_ofK (h : X.K = K) : CallR X (.type "list") (rListS K) := by subst h; exact call_list_of
def rTupS (K : PySem.W.Frag) : List V → Hp → VK → Prop := fun xs H Q => ∃ p ys, xs = [.ref p] ∧ ((SqL K H p ys ∧ ∀ l, H l = none → Q (.ref l) (upd H l (.tup ys))) ∨ (SqT K H p ys ∧ Q (.ref p) H))
theorem call_tuple_ofK (h : X.K = K) : CallR X (.type "tuple") (rTupS K) := by subst h; exact call_tuple_of
theorem cr_sortTxK (hw : X.w = w) (hc : X.calm = true) : CallR X (.builtin "sorted") (rSortTx w) := by subst hw; exact cr_sortTx hc
theorem cr_sortedSK (h : X.K = K) : CallR X (.builtin "sorted") (rSortedS K) := by subst h; exact cr_sortedS
def rJoin (K : PySem.W.Frag) : V → List V → Hp → VK → Prop := fun x xs H Q => ∃ a p, ∃ ys : List Str, x = .str a ∧ xs = [.ref p] ∧ (SqL K H p (ys.map V.str) ∨ SqT K H p (ys.map V.str)) ∧ (ys.map (·.length)).sum + ys.length * a.length ≤ 16777216 ∧ Q (.str (Txt.join a ys)) H
theorem mt_joinK (h : X.K = K) : MtR X "str.join" (rJoin K) := by subst h; exact mt_join
theorem op_catAK (h : X.K = K) : OpR X (binaryOp .Add) (rCatA K) := by subst h; exact op_catA
theorem op_eqDK (h : X.K = K) (hu : X.A.units + 64 < cLine) : OpR X (compareOp .Eq) (rEqD K) := by subst h; exact op_eqD hu
theorem op_neDK (h : X.K = K) (hu : X.A.units + 64 < cLine) : OpR X (compareOp .NotEq) (rNeD K) := by subst h; exact op_neD hu
theorem op_in_seqK (h : X.K = K) : OpR X (compareOp .In) (rIn K false) := by subst h; exact op_in_seq
theorem op_notIn_seqK (h : X.K = K) : OpR X (compareOp .NotIn) (rIn K true) := by subst h; exact op_notIn_seq
theorem bagTxK (hw : X.w = w) : Bag X (fun D => SetTx w D []) (addTx w) := by subst hw; exact bagTx
theorem pi_listK (h : X.K = K) (hl : PE X l tl) : PI X tg l (iList K tl) := by subst h; exact pi_list hl
theorem pi_tupK (h : X.K = K) (hl : PE X l tl) : PI X tg l (iTup K tl) := by subst h; exact pi_tup hl
theorem ix_listK (h : X.K = K) : IxR X (rIxL K) := by subst h; exact ix_list
theorem ix_tupK (h : X.K = K) : IxR X (rIxT K) := by subst h; exact ix_tup
theorem sl_listK (h : X.K = K) : SlR X (rSlL K) := by subst h; exact sl_list
theorem sl_tupAK (h : X.K = K) : SlR X (rSlA K) := by subst h; exact sl_tupA
end
/-! texts -/
theorem str_ext {x y : Str} (h : x.cps.toList = y.cps.toList) : x = y := by
  cases x with
  | mk a =>
    cases y with
    | mk b =>
      have e : a = b := by
        cases a
        cases b
        simpa using h
      rw [e]
/-- the text of a list of codes -/
def ofC (l : List Nat) : Str := ⟨l.toArray⟩
theorem ofC_cps (l : List Nat) : (ofC l).cps.toList = l := by simp [ofC]
theorem ofC_of (x : Str) : ofC x.cps.toList = x := str_ext (ofC_cps _)
theorem len_ofC (l : List Nat) : (ofC l).length = l.length := by simp [ofC, Str.length]
theorem len_cps (x : Str) : x.cps.toList.length = x.length := by simp [Str.length]
/-! what is evaluated -/
/-- it gives a value of which Pv holds, leaving what is known -/
def EvP (te : TE) (σ : L2.St) (H : Hp) (Pv : V → Hp → Prop) : Prop := ∀ H1, Ex H H1 → ∀ Q : VK, (∀ v H2, Ex H1 H2 → Pv v H2 → Q v H2) → te σ H1 Q
/- data: plain values, tracked lists and tuples; of a dict its kind alone -/
mutual
inductive At (H : Hp) : V → PyData → Prop
  | non : At H .non .none
  | bl (b : Bool) : At H (.bl b) (.bool b)
  | int (i : Int) : At H (.int i) (.int i)
  | str (x : Str) : At H (.str x) (.str x)
  | lst {a : Addr} {xs : List V} {ds : List PyData} : H a = some (.lst xs) → AtAll H xs ds → At H (.ref a) (.list ds)
  | tup {a : Addr} {xs : List V} {ds : List PyData} : H a = some (.tup xs) → AtAll H xs ds → At H (.ref a) (.tuple ds)
  | dic {a : Addr} {kvs : List (Key × V)} : H a = some (.dK kvs) → At H (.ref a) (.dict [])
inductive AtAll (H : Hp) : List V → List PyData → Prop
  | nil : AtAll H [] []
  | cons {v : V} {vs : List V} {d : PyData} {ds : List PyData} : At H v d → AtAll H vs ds → AtAll H (v :: vs) (d :: ds)
end
/-- what stands apart from S stays -/
def ExS (S : Addr → Prop) (H H' : Hp) : Prop := ∀ a o, ¬ S a → H a = some o → H' a = some o
mutual
theorem At.mono {H H' : Hp} (e : Ex H H') : ∀ {v : V} {d : PyData}, At H v d → At H' v d
  | _, _, .non => .non
  | _, _, .bl b => .bl b
  | _, _, .int i => .int i
  | _, _, .str x => .str x
  | _, _, .lst h t => .lst (e _ _ h) (AtAll.mono e t)
  | _, _, .tup h t => .tup (e _ _ h) (AtAll.mono e t)
  | _, _, .dic h => .dic (e _ _ h)
theorem AtAll.mono {H H' : Hp} (e : Ex H H') : ∀ {vs : List V} {ds : List PyData}, AtAll H vs ds → AtAll H' vs ds
  | _, _, .nil => .nil
  | _, _, .cons h t => .cons (At.mono e h) (AtAll.mono e t)
end
theorem AtAll.len {H : Hp} : ∀ {vs : List V} {ds : List PyData}, AtAll H vs ds → vs.length = ds.length
  | _, _, .nil => rfl
  | _, _, .cons _ t => by rw [List.length_cons, List.length_cons, AtAll.len t]
theorem AtAll.append {H : Hp} : ∀ {vs us : List V} {ds es : List PyData}, AtAll H vs ds → AtAll H us es → AtAll H (vs ++ us) (ds ++ es)
  | _, _, _, _, .nil, s => s
  | _, _, _, _, .cons r t, s => .cons r (AtAll.append t s)
theorem AtAll.get {H : Hp} : ∀ {vs : List V} {ds : List PyData} {i : Nat} {v : V}, AtAll H vs ds → vs[i]? = some v → ∃ d, ds[i]? = some d ∧ At H v d
  | _, _, _, _, .nil, e => by simp at e
  | _, _, 0, _, .cons r _, e => by
    simp at e
    subst e
    exact ⟨_, rfl, r⟩
  | _, _, i + 1, v, .cons _ t, e => by
    obtain ⟨d, h1, h2⟩ := AtAll.get (i := i) (v := v) t (by simpa using e)
    exact ⟨d, by simpa using h1, h2⟩
theorem AtAll.drop {H : Hp} : ∀ {vs : List V} {ds : List PyData} (n : Nat), AtAll H vs ds → AtAll H (vs.drop n) (ds.drop n)
  | _, _, 0, r => r
  | _, _, _ + 1, .nil => .nil
  | _, _, n + 1, .cons _ t => AtAll.drop n t
theorem AtAll.take {H : Hp} : ∀ {vs : List V} {ds : List PyData} (n : Nat), AtAll H vs ds → AtAll H (vs.take n) (ds.take n)
  | _, _, 0, _ => .nil
  | _, _, _ + 1, .nil => .nil
  | _, _, n + 1, .cons r t => .cons r (AtAll.take n t)
theorem AtAll.strs {H : Hp} : ∀ (xs : List Str), AtAll H (xs.map V.str) (xs.map PyData.str)
  | [] => .nil
  | x :: xs => .cons (.str x) (AtAll.strs xs)
theorem AtAll.bls {H : Hp} : ∀ (xs : List Bool), AtAll H (xs.map V.bl) (xs.map PyData.bool)
  | [] => .nil
  | x :: xs => .cons (.bl x) (AtAll.bls xs)
mutual
/-- without a dict: as the library's rules for == want it -/
theorem At.dp {K : PySem.W.Frag} {H : Hp} : ∀ {v : V} {d : PyData}, At H v d → SeqAt.shaped d = true → Dp K H v d
  | _, _, .non, _ => .non
  | _, _, .bl b, _ => .bl b
  | _, _, .int i, _ => .int i
  | _, _, .str x, _ => .str x
  | _, _, .lst h t, s => .lst (sq_of h) (AtAll.dp t (by simp [SeqAt.shaped, PyData.canLay0] at s; exact s.1))
  | _, _, .tup h t, s => .tup (st_of h) (AtAll.dp t (by simp [SeqAt.shaped, PyData.canLay0] at s; exact s.1))
  | _, _, .dic h, s => by simp [SeqAt.shaped, PyData.canLay0] at s
theorem AtAll.dp {K : PySem.W.Frag} {H : Hp} : ∀ {vs : List V} {ds : List PyData}, AtAll H vs ds → PyData.canLayAll0 ds = true → DpAll K H vs ds
  | _, _, .nil, _ => .nil
  | _, _, .cons h t, s => by
    simp [PyData.canLayAll0] at s
    exact .cons (At.dp' h s.1) (AtAll.dp t s.2)
theorem At.dp' {K : PySem.W.Frag} {H : Hp} : ∀ {v : V} {d : PyData}, At H v d → PyData.canLay0 d = true → Dp K H v d
  | _, _, .non, _ => .non
  | _, _, .bl b, _ => .bl b
  | _, _, .int i, _ => .int i
  | _, _, .str x, _ => .str x
  | _, _, .lst h t, s => .lst (sq_of h) (AtAll.dp t (by simpa [PyData.canLay0] using s))
  | _, _, .tup h t, s => .tup (st_of h) (AtAll.dp t (by simpa [PyData.canLay0] using s))
  | _, _, .dic h, s => by simp [PyData.canLay0] at s
end
/-- its type -/
def tyOf : PyData → String
  | .none => "NoneType"
  | .bool _ => "bool"
  | .int _ => "int"
  | .str _ => "str"
  | .list _ => "list"
  | .tuple _ => "tuple"
  | .dict _ => "dict"
theorem At.ty {K : PySem.W.Frag} {H : Hp} {v : V} {d : PyData} (h : At H v d) : TyX K H v (.type (tyOf d)) := by
  cases h with
  | non => exact .base .non
  | bl b => exact .base (.bl b)
  | int i => exact .base (.int i)
  | str x => exact .base (.str x)
  | lst h t => exact .base (.lst h)
  | tup h t => exact .base (.tup h)
  | dic h => exact .base (.dK h)
/-- isinstance(x, str), isinstance(x, tuple) -/
def tys : List String := ["NoneType", "bool", "int", "str", "list", "tuple", "dict"]
theorem ty_in (d : PyData) : tyOf d ∈ tys := by cases d <;> simp [tyOf, tys]
theorem kitB_str : ∀ t ∈ tys, kitB t "str" = some (decide (t = "str")) := by decide +kernel
theorem kitB_tup : ∀ t ∈ tys, kitB t "tuple" = some (decide (t = "tuple")) := by decide +kernel
theorem kit_str (K : PySem.W.Frag) (d : PyData) : PySem.W.kitOne K (.type (tyOf d)) (.type "str") = some (decide (tyOf d = "str")) := kit_ty (kitB_str _ (ty_in d))
theorem kit_tup (K : PySem.W.Frag) (d : PyData) : PySem.W.kitOne K (.type (tyOf d)) (.type "tuple") = some (decide (tyOf d = "tuple")) := kit_ty (kitB_tup _ (ty_in d))
theorem ev_isi {K : PySem.W.Frag} {σ : L2.St} {H : Hp} {te : TE} {v : V} {d : PyData} {T : String} {b : Bool} (hk : PySem.W.kitOne K (.type (tyOf d)) (.type T) = some b) (h : Ev te σ H v) (hv : At H v d) :
    Ev (tCB (rIsi K) (tCons te (tCons (tC (.ty T)) tNil))) σ H (.bl b) := fun H1 e Q q =>
  h H1 e _ fun H2 e2 => ⟨v, .ty T, _, _, b, rfl, .ty T, (hv.mono (e.trans e2)).ty, hk, q H2 e2⟩
end G39

/-! comprehensions by what they walk over: a list xs of anything, val its values; what stays is told by f, what comes of it by R -/
namespace G39
open PySem PySem.Spec PyProof.Rows L2 Evl
theorem paired_snoc {α β : Type} {F : α → β → Prop} : ∀ {l₁ : List α} {l₂ : List β} {a : α} {b : β}, Paired F l₁ l₂ → F a b → Paired F (l₁ ++ [a]) (l₂ ++ [b])
  | _, _, _, _, .nil, h => .cons h .nil
  | _, _, _, _, .cons r t, h => .cons r (paired_snoc t h)
section
variable {α : Type} {xs : List α} {val : α → V} {f : α → Bool} {R : α → V → Hp → Prop} {J : It} {G : Hp → Prop} {σ : L2.St} {H1 : Hp} {D : Addr} {Qd : Hp → Prop} {t : TT} {te : TE} {j : Nat} {vs : List Nat}
/-- what the walk gives: the values of xs, the heap as it was -/
abbrev YOf (xs : List α) (val : α → V) : Nat → Hp → V → Hp → Prop := fun i H v H' => H' = H ∧ ∃ a, xs[i]? = some a ∧ v = val a
theorem lcW (wk : Walk J xs.length G (YOf xs val)) (hG : ∀ H', Ex H1 H' → G H') (hz : xs.length ≤ 40000) (hw : ∀ x, wipe ((wipe σ vs).set j (some x)) vs = wipe σ vs)
    (mono : ∀ a y H H', Ex H H' → R a y H → R a y H') (stab : ∀ a y H ys zs, H D = some (.lst ys) → R a y H → R a y (upd H D (.lst zs)))
    (ht : ∀ a ∈ xs, EvT t ((wipe σ vs).set j (some (val a))) H1 (f a))
    (he : ∀ a ∈ xs, f a = true → ∀ H3 ys, Ex H1 H3 → H3 D = some (.lst ys) → ∀ Q : VK, (∀ y H4, Ex H3 H4 → R a y H4 → Q y H4) → te ((wipe σ vs).set j (some (val a))) H3 Q)
    (hD : H1 D = none) (q : ∀ H' ys, Ex H1 H' → H' D = some (.lst ys) → Paired (fun a y => R a y H') (xs.filter f) ys → Qd H') :
    ∃ W : Nat → Nat → Hp → Prop, (∃ m, W 0 m (upd H1 D (.lst []))) ∧ ∀ i m H, W i m H →
      (J.stop i H ∧ Qd H) ∨ (J.go i H ∧ ∃ Nx : Hp → Prop, (∀ H', Nx H' → ∃ m', m' < m ∧ W (i + 1) m' H') ∧ ∀ x H', J.yld i H x H' → gName j x (wipe σ vs) H' fun σ2 H2 => wipe σ2 vs = wipe σ vs ∧ t σ2 H2 fun b H3 =>
        if b = true then te σ2 H3 fun y H4 => ∃ acc, H4 D = some (.lst acc) ∧ acc.length < sizeLine ∧ Nx (upd H4 D (.lst (acc ++ [y]))) else Nx H3) := by
  refine lc_it wk (fun i H' => Ex H1 H' ∧ ∃ ys, H' D = some (.lst ys) ∧ Paired (fun a y => R a y H') ((xs.take i).filter f) ys) ⟨Ex.new hD, [], upd_same, by rw [List.take_zero]; exact .nil⟩ (fun i H' _ p => hG H' p.1) ?_ (fun H' p => ?_)
  · rintro i x H' H'' hi ⟨e, ys, hd, hp⟩ ⟨rfl, a, ha, rfl⟩
    have hm := List.mem_of_getElem? ha
    refine ⟨hw _, ht a hm _ e _ fun H3 e3 => ?_⟩
    have hlen := Paired.length hp
    have hle : ((xs.take i).filter f).length ≤ i := Nat.le_trans (List.length_filter_le _ _) (by rw [List.length_take]; exact Nat.min_le_left _ _)
    have tk : xs.take (i + 1) = xs.take i ++ [a] := by
      rw [List.take_add_one, ha]
      rfl
    cases hf : f a with
    | true =>
      refine he a hm hf H3 ys (e.trans e3) (e3 _ _ hd) _ fun y H4 e4 hy => ⟨ys, e4 _ _ (e3 _ _ hd), by rw [sizeLine_eq]; omega, Ex.mut ((e.trans e3).trans e4) hD, ys ++ [y], upd_same, ?_⟩
      rw [tk, List.filter_append, List.filter_cons, if_pos hf, List.filter_nil]
      have hd4 := e4 _ _ (e3 _ _ hd)
      exact paired_snoc (L2.Paired.mapP hp fun a y z => stab a y H4 ys _ hd4 (mono a y _ _ (e3.trans e4) z)) (stab a y H4 ys _ hd4 hy)
    | false =>
      refine ⟨e.trans e3, ys, e3 _ _ hd, ?_⟩
      rw [tk, List.filter_append, List.filter_cons, if_neg (by rw [hf]; exact Bool.false_ne_true), List.filter_nil, List.append_nil]
      exact L2.Paired.mapP hp fun a y z => mono a y _ _ e3 z
  · obtain ⟨e, ys, hd, hp⟩ := p
    rw [List.take_length] at hp
    exact q H' ys e hd hp
/-- plain values: what comes is g a -/
theorem lcV {g : α → V} (wk : Walk J xs.length G (YOf xs val)) (hG : ∀ H', Ex H1 H' → G H') (hz : xs.length ≤ 40000) (hw : ∀ x, wipe ((wipe σ vs).set j (some x)) vs = wipe σ vs)
    (ht : ∀ a ∈ xs, EvT t ((wipe σ vs).set j (some (val a))) H1 (f a)) (he : ∀ a ∈ xs, f a = true → Ev te ((wipe σ vs).set j (some (val a))) H1 (g a))
    (hD : H1 D = none) (q : ∀ H', Ex H1 H' → H' D = some (.lst ((xs.filter f).map g)) → Qd H') :
    ∃ W : Nat → Nat → Hp → Prop, (∃ m, W 0 m (upd H1 D (.lst []))) ∧ ∀ i m H, W i m H →
      (J.stop i H ∧ Qd H) ∨ (J.go i H ∧ ∃ Nx : Hp → Prop, (∀ H', Nx H' → ∃ m', m' < m ∧ W (i + 1) m' H') ∧ ∀ x H', J.yld i H x H' → gName j x (wipe σ vs) H' fun σ2 H2 => wipe σ2 vs = wipe σ vs ∧ t σ2 H2 fun b H3 =>
        if b = true then te σ2 H3 fun y H4 => ∃ acc, H4 D = some (.lst acc) ∧ acc.length < sizeLine ∧ Nx (upd H4 D (.lst (acc ++ [y]))) else Nx H3) := by
  refine lcW (R := fun a y _ => y = g a) wk hG hz hw (fun _ _ _ _ _ h => h) (fun _ _ _ _ _ _ h => h) ht (fun a hm hf H3 ys e hd Q k => he a hm hf H3 e Q fun H4 e4 => k _ H4 e4 rfl) hD fun H' ys e hd hp => q H' e ?_
  have z : ys = (xs.filter f).map g := by
    clear hd
    generalize xs.filter f = l at hp
    induction hp with
    | nil => rfl
    | cons h t ih => rw [List.map_cons, h, ih]
  rw [← z]
  exact hd
end
section
variable {K : PySem.W.Frag} {σ : L2.St} {H : Hp} {t : TT} {te tl : TE} {j : Nat} {vs : List Nat}
/-- over a tuple (new or old) -/
theorem el_cT {xs : List V} {f : V → Bool} {g : V → V} (h : EvP tl σ H fun v H' => ∃ a, v = .ref a ∧ H' a = some (.tup xs)) (hz : xs.length ≤ 40000) (hw : ∀ x, wipe ((wipe σ vs).set j (some x)) vs = wipe σ vs)
    (ht : ∀ a ∈ xs, ∀ H1, Ex H H1 → EvT t ((wipe σ vs).set j (some a)) H1 (f a)) (he : ∀ a ∈ xs, f a = true → ∀ H1, Ex H H1 → Ev te ((wipe σ vs).set j (some a)) H1 (g a)) :
    EvL (tLc (iTup K tl) (gName j) t te vs) σ H ((xs.filter f).map g) := fun H0 e Q q => h H0 e _ fun v H1 e1 ⟨a, ev, ha⟩ => ⟨a, ev, ⟨xs, st_of ha⟩, fun D hD =>
  lcV (val := id) (walk_tup.mono (G' := fun H' => SqT K H' a xs) (fun _ z => z) fun i H x H' _ _ y => ⟨y.1, x, y.2, rfl⟩) (fun H' e' => st_of (e' _ _ ha)) hz hw (fun a hm => ht a hm H1 (e.trans e1)) (fun a hm hf => he a hm hf H1 (e.trans e1)) hD
    fun H' e' hd => q D H' (fresh_back e1 hD) (e1.trans e') hd⟩
/-- over a list (new or old) -/
theorem el_cL {xs : List V} {f : V → Bool} {g : V → V} (h : EvP tl σ H fun v H' => ∃ a, v = .ref a ∧ H' a = some (.lst xs)) (hz : xs.length ≤ 40000) (hw : ∀ x, wipe ((wipe σ vs).set j (some x)) vs = wipe σ vs)
    (ht : ∀ a ∈ xs, ∀ H1, Ex H H1 → EvT t ((wipe σ vs).set j (some a)) H1 (f a)) (he : ∀ a ∈ xs, f a = true → ∀ H1, Ex H H1 → Ev te ((wipe σ vs).set j (some a)) H1 (g a)) :
    EvL (tLc (iList K tl) (gName j) t te vs) σ H ((xs.filter f).map g) := fun H0 e Q q => h H0 e _ fun v H1 e1 ⟨a, ev, ha⟩ => ⟨a, ev, ⟨xs, sq_of ha⟩, fun D hD =>
  lcV (val := id) (walk_list.mono (G' := fun H' => SqL K H' a xs) (fun _ z => z) fun i H x H' _ _ y => ⟨y.1, x, y.2, rfl⟩) (fun H' e' => sq_of (e' _ _ ha)) hz hw (fun a hm => ht a hm H1 (e.trans e1)) (fun a hm hf => he a hm hf H1 (e.trans e1)) hD
    fun H' e' hd => q D H' (fresh_back e1 hD) (e1.trans e') hd⟩
/-- over a text -/
theorem el_cS {z : Str} {f : Nat → Bool} {g : Nat → V} (h : Ev tl σ H (.str z)) (hz : z.length ≤ 40000) (hw : ∀ x, wipe ((wipe σ vs).set j (some x)) vs = wipe σ vs)
    (ht : ∀ c ∈ z.cps.toList, ∀ H1, Ex H H1 → EvT t ((wipe σ vs).set j (some (.str ⟨#[c]⟩))) H1 (f c)) (he : ∀ c ∈ z.cps.toList, f c = true → ∀ H1, Ex H H1 → Ev te ((wipe σ vs).set j (some (.str ⟨#[c]⟩))) H1 (g c)) :
    EvL (tLc (iStr tl) (gName j) t te vs) σ H ((z.cps.toList.filter f).map g) := fun H0 e Q q => h H0 e _ fun H1 e1 => ⟨z, rfl, fun D hD => by
  have wk : Walk (Its z) z.cps.toList.length (fun _ => True) (YOf z.cps.toList fun c => V.str ⟨#[c]⟩) := by
    rw [Array.length_toList]
    exact walk_str.mono (fun _ z => z) fun i H x H' _ _ y => ⟨y.1, by obtain ⟨c, h1, h2⟩ := y.2; exact ⟨c, by rw [Array.getElem?_toList]; exact h1, h2⟩⟩
  exact lcV wk (fun _ _ => trivial) (by rw [len_cps]; exact hz) hw (fun a hm => ht a hm H1 (e.trans e1)) (fun a hm hf => he a hm hf H1 (e.trans e1)) hD
    fun H' e' hd => q D H' (fresh_back e1 hD) (e1.trans e') hd⟩
end
end G39

/-! names, variables, patterns: what they are -/
namespace G39
open PySem PySem.Spec PyProof.Rows L2 Evl
/-- a def of the text as callers see it -/
structure DefAt (K : PySem.W.Frag) (mg : Str → Option Value) (x : Str) (st : Stmt) (ps : List Str) (f : Addr) (fd : FuncData) : Prop where
  g : mg x = some (.ref f)
  F : Fun K x x st f fd
  b : Binds K fd ps []
def letters : Str := "abcdefghijklmnopqrstuvwxyz"
def digits : Str := "0123456789"
def isLet (c : Nat) : Bool := decide (c ∈ letters.cps.toList)
def isSgn (c : Nat) : Bool := decide (c ∈ (letters ++ digits).cps.toList)
/-- a name, by its signs -/
def nameC (l : List Nat) : Bool := match l with
  | [] => false
  | c :: r => decide (r.length ≤ 11) && (isLet c && (c :: r).all isSgn)
/-- a variable -/
def varC (l : List Nat) : Bool := match l with
  | [] => false
  | c :: r => decide (c = 63) && nameC r
def nameS (x : Str) : Bool := nameC x.cps.toList
def varS (x : Str) : Bool := varC x.cps.toList
def nameD : PyData → Bool
  | .str x => nameS x
  | _ => false
def varD : PyData → Bool
  | .str x => varS x
  | _ => false
def patD : PyData → Bool
  | .tuple (t :: r) => decide (r.length ≤ 3) && (nameD t && r.all fun d => nameD d || varD d)
  | _ => false
def factD : PyData → Bool
  | .tuple (t :: r) => patD (.tuple (t :: r)) && (t :: r).all nameD
  | _ => false
theorem len_add (x y : Str) : (x ++ y).length = x.length + y.length := by
  show (x.cps ++ y.cps).size = _
  rw [Array.size_append]
  rfl
theorem cps_add (x y : Str) : (x ++ y).cps.toList = x.cps.toList ++ y.cps.toList := by
  show (x.cps ++ y.cps).toList = _
  rw [Array.toList_append]
/-! readings of texts -/
section
variable {K : PySem.W.Frag} {σ : L2.St} {H : Hp} {ta tb tc te : TE}
theorem ev_chainI {i j k : Int} (ha : Ev ta σ H (.int i)) (hb : Ev tb σ H (.int j)) (hc : Ev tc σ H (.int k)) : Ev (tChain (rI0 fun i j => .bl (decide (i ≤ j))) (rI0 fun i j => .bl (decide (i ≤ j))) ta tb tc) σ H (.bl (decide (i ≤ j) && decide (j ≤ k))) := fun H1 e Q q =>
  ha H1 e _ fun H2 e2 => hb H2 (e.trans e2) _ fun H3 e3 => ⟨i, j, rfl, rfl, _, rfl, by
    by_cases c : i ≤ j
    · rw [decide_eq_true c, if_pos rfl]
      exact hc H3 (e.trans (e2.trans e3)) _ fun H4 e4 => ⟨j, k, rfl, rfl, by rw [decide_eq_true c] at q; exact q H4 (e2.trans (e3.trans e4))⟩
    · rw [decide_eq_false c, if_neg Bool.false_ne_true]
      rw [decide_eq_false c] at q
      exact q H3 (e2.trans e3)⟩
theorem ev_lenS {z : Str} (h : Ev te σ H (.str z)) (hz : z.length ≤ 100000) : Ev (tCB (fun xs H Q => ∃ z, xs = [.str z] ∧ z.length ≤ sizeLine ∧ Q (.int z.length) H) (tCons te tNil)) σ H (.int (z.length : Int)) := fun H1 e Q q =>
  h H1 e _ fun H2 e2 => ⟨z, rfl, sz_of hz, q H2 e2⟩
theorem rv_sign {c : Nat} {z : Str} : RV (fun x y H Q => ∃ (c : Nat) (z : Str), x = .str ⟨#[c]⟩ ∧ y = .str z ∧ Q (.bl (decide (c ∈ z.cps.toList))) H) (.str ⟨#[c]⟩) (.str z) H (.bl (decide (c ∈ z.cps.toList))) := rv_val fun H1 _ Q q => ⟨c, z, rfl, rfl, q⟩
theorem rv_addS {x y : Str} (h : x.length + y.length ≤ 100000) : RV (fun x y H Q => ∃ i j, x = .str i ∧ y = .str j ∧ i.length + j.length ≤ sizeLine ∧ Q (.str (i ++ j)) H) (.str x) (.str y) H (.str (x ++ y)) := rv_val fun H1 _ Q q => ⟨x, y, rfl, rfl, sz_of h, q⟩
theorem ev_slS {tl th : TO} {z : Str} {lo hi : Option Int} (h : Ev te σ H (.str z)) (h1 : EvO tl σ H lo) (h2 : EvO th σ H hi) (hz : z.length ≤ 100000) : Ev (tSl rSlS te tl th) σ H (.str (cutS z lo hi)) := fun H1 e Q q =>
  h H1 e _ fun H2 e2 => h1 H2 (e.trans e2) _ fun H3 e3 => h2 H3 (e.trans (e2.trans e3)) _ fun H4 e4 => ⟨z, rfl, sz_of hz, q H4 (e2.trans (e3.trans e4))⟩
theorem ev_allN {bs : List Bool} (h : EvL te σ H (bs.map V.bl)) : Ev (tCB (rAll K) (tCons te tNil)) σ H (.bl (bs.all id)) := fun H1 e Q q =>
  h H1 e _ fun p H2 hp e2 h2 => ⟨p, bs, rfl, sq_of h2, q H2 e2⟩
end
/-- z[1:] -/
theorem cut_tail (z : Str) : (cutS z (some 1) none).cps.toList = z.cps.toList.drop 1 := by
  have e : HT.sIx z.length 0 (some 1) = min 1 z.length := by
    have := HT.sIx_nat z.length 0 1
    exact this
  show ((z.cps.toList.drop (HT.sIx z.length 0 (some 1))).take (HT.sIx z.length z.length none - HT.sIx z.length 0 (some 1))).toArray.toList = _
  rw [e, HT.sIx_none, ← len_cps]
  simp only [List.toList_toArray]
  cases z.cps.toList with
  | nil => rfl
  | cons c r =>
    have m : min 1 (c :: r).length = 1 := by simp
    rw [m, List.drop_succ_cons, List.drop_zero, List.take_of_length_le (by simp)]
/-- z[:1] -/
theorem cut_head (z : Str) : (cutS z none (some 1)).cps.toList = z.cps.toList.take 1 := by
  have e : HT.sIx z.length z.length (some 1) = min 1 z.length := HT.sIx_nat z.length z.length 1
  show ((z.cps.toList.drop (HT.sIx z.length 0 none)).take (HT.sIx z.length z.length (some 1) - HT.sIx z.length 0 none)).toArray.toList = _
  rw [e, HT.sIx_none, ← len_cps]
  simp only [List.toList_toArray, List.drop_zero, Nat.sub_zero]
  cases z.cps.toList with
  | nil => rfl
  | cons c r =>
    have m : min 1 (c :: r).length = 1 := by simp
    rw [m]
theorem varS_eq (z : Str) : varS z = (decide (V.str (cutS z none (some 1)) = V.str "?") && nameS (cutS z (some 1) none)) := by
  unfold varS nameS varC
  rw [cut_tail]
  have h1 : (cutS z none (some 1) = "?") ↔ z.cps.toList.take 1 = [63] := by
    constructor
    · intro e
      rw [← cut_head, e]
      rfl
    · intro e
      exact str_ext (by rw [cut_head, e]; rfl)
  have h2 : decide (V.str (cutS z none (some 1)) = V.str "?") = decide (z.cps.toList.take 1 = [63]) := by
    by_cases c : z.cps.toList.take 1 = [63]
    · rw [decide_eq_true c, decide_eq_true (by rw [h1.mpr c])]
    · rw [decide_eq_false c, decide_eq_false fun e => c (h1.mp (V.str.inj e))]
  rw [h2]
  cases z.cps.toList with
  | nil => rfl
  | cons c r => simp
end G39

namespace G39
open PySem PySem.Spec PyProof.Rows L2 Evl
def topS (i : Nat) : Stmt := PySem.Challenge.pw_fullestrows_k01_names_and_patterns.main.body.getD i (.Pass ⟨0, 0, 0, 0⟩)
abbrev s_is_name : Stmt := topS 5
abbrev n_is_name : List Str := ["value", "sign"]
theorem sc_is_name : FnScope n_is_name ["value"] (defScope s_is_name) := ⟨rfl, rfl, rfl, by decide +kernel, rfl, by decide +kernel, by decide +kernel⟩
abbrev s_is_variable : Stmt := topS 6
abbrev n_is_variable : List Str := ["value"]
theorem sc_is_variable : FnScope n_is_variable ["value"] (defScope s_is_variable) := ⟨rfl, rfl, rfl, by decide +kernel, rfl, by decide +kernel, by decide +kernel⟩
abbrev s_is_pattern : Stmt := topS 7
abbrev n_is_pattern : List Str := ["value", "term"]
theorem sc_is_pattern : FnScope n_is_pattern ["value"] (defScope s_is_pattern) := ⟨rfl, rfl, rfl, by decide +kernel, rfl, by decide +kernel, by decide +kernel⟩
abbrev s_is_fact : Stmt := topS 8
abbrev n_is_fact : List Str := ["value", "term"]
theorem sc_is_fact : FnScope n_is_fact ["value"] (defScope s_is_fact) := ⟨rfl, rfl, rfl, by decide +kernel, rfl, by decide +kernel, by decide +kernel⟩
abbrev v_LETTERS : V := .str "abcdefghijklmnopqrstuvwxyz"
abbrev v_DIGITS : V := .str "0123456789"
abbrev v_MOST_SIGNS : V := .int 12
abbrev v_MOST_TERMS : V := .int 3
/-- any value: data of a bounded size -/
def Any (H : Hp) (v : V) (d : PyData) : Prop := At H v d ∧ ∀ x, d = .str x → x.length ≤ 10000
/-- any value, of a tuple its items too -/
def AnyT (H : Hp) (v : V) (d : PyData) : Prop := Any H v d ∧ ∀ xs, d = .tuple xs → xs.length ≤ 10000 ∧ ∀ x, .str x ∈ xs → x.length ≤ 10000
theorem AnyT.mono {H H' : Hp} {v : V} {d : PyData} (e : Ex H H') (h : AnyT H v d) : AnyT H' v d := ⟨⟨h.1.1.mono e, h.1.2⟩, h.2⟩
theorem Any.mono {H H' : Hp} {v : V} {d : PyData} (e : Ex H H') (h : Any H v d) : Any H' v d := ⟨h.1.mono e, h.2⟩
/-- tells a truth of any value -/
def spB (f : PyData → Bool) : Sp := fun vs H Q _ => ∃ (v : V) (d : PyData), vs = [v] ∧ Any H v d ∧ ∀ H', Ex H H' → Q (.bl (f d)) H'
def spBT (f : PyData → Bool) : Sp := fun vs H Q _ => ∃ (v : V) (d : PyData), vs = [v] ∧ AnyT H v d ∧ ∀ H', Ex H H' → Q (.bl (f d)) H'
/-- f(e) of such a def -/
theorem ev_B {f : PyData → Bool} {te : TE} {σ : L2.St} {H : Hp} {v : V} {d : PyData} (h : Ev te σ H v) (hv : Any H v d) : Ev (tCall (spB f) [] E0 (tCons te tNil)) σ H (.bl (f d)) := fun H1 e Q q =>
  h H1 e _ fun H2 e2 => ⟨v, d, rfl, hv.mono (e.trans e2), fun H3 e3 => q H3 (e2.trans e3)⟩
theorem ev_BT {f : PyData → Bool} {te : TE} {σ : L2.St} {H : Hp} {v : V} {d : PyData} (h : Ev te σ H v) (hv : AnyT H v d) : Ev (tCall (spBT f) [] E0 (tCons te tNil)) σ H (.bl (f d)) := fun H1 e Q q =>
  h H1 e _ fun H2 e2 => ⟨v, d, rfl, hv.mono (e.trans e2), fun H3 e3 => q H3 (e2.trans e3)⟩
/-- t[1:] -/
theorem ep_tailT {K : PySem.W.Frag} {te : TE} {σ : L2.St} {H : Hp} {a : Addr} {xs : List V} (h : Ev te σ H (.ref a)) (ha : H a = some (.tup xs)) : EvP (tSl (rSlA K) te (tPart (tC (.int 1))) tNoPart) σ H fun v H' => ∃ b, v = .ref b ∧ H' b = some (.tup (xs.drop 1)) := fun H1 e Q q =>
  h H1 e _ fun H2 e2 => ⟨1, rfl, a, xs, rfl, st_of ((e.trans e2) _ _ ha), fun hw => by
      have e0 : HT.sIx xs.length 0 (some 1) = min 1 xs.length := HT.sIx_nat xs.length 0 1
      rw [e0] at hw
      have z : xs = [] := by
        cases xs with
        | nil => rfl
        | cons x r =>
          have := hw.1
          simp at this
      have ha' : H2 a = some (.tup (xs.drop 1)) := by
        rw [z, List.drop_nil, ← z]
        exact (e.trans e2) _ _ ha
      exact q (.ref a) H2 e2 ⟨a, rfl, ha'⟩, fun hw p hp => by
      have z : cutV xs (some 1) none = xs.drop 1 := by
        have e0 : HT.sIx xs.length 0 (some 1) = min 1 xs.length := HT.sIx_nat xs.length 0 1
        unfold cutV
        rw [e0, HT.sIx_none]
        cases xs with
        | nil => rfl
        | cons x r =>
          have m : min 1 (x :: r).length = 1 := by simp
          rw [m, List.drop_succ_cons, List.drop_zero, List.take_of_length_le (by simp)]
      rw [z]
      exact q (.ref p) _ (e2.trans (Ex.new hp)) ⟨p, rfl, upd_same⟩⟩
/-- [f(x) for x in t], t a tuple of data -/
theorem comp_any {K : PySem.W.Frag} {tl te : TE} {σ : L2.St} {H : Hp} {xs : List V} {ds : List PyData} {j : Nat} {vs : List Nat} {f : PyData → Bool} (h : EvP tl σ H fun v H' => ∃ a, v = .ref a ∧ H' a = some (.tup xs)) (hd : AtAll H xs ds) (hz : xs.length ≤ 40000) (hw : ∀ x, wipe ((wipe σ vs).set j (some x)) vs = wipe σ vs)
    (he : ∀ y d, d ∈ ds → At H y d → ∀ H1, Ex H H1 → Ev te ((wipe σ vs).set j (some y)) H1 (.bl (f d))) : EvL (tLc (iTup K tl) (gName j) tYes te vs) σ H ((ds.map f).map V.bl) := by
  intro H0 e Q q
  refine h H0 e _ fun v H1 e1 ⟨a, ev, ha⟩ => ⟨a, ev, ⟨xs, st_of ha⟩, fun D hD => ?_⟩
  have hlen := hd.len
  have wk : Walk (Itt K a) (xs.zip ds).length (fun H' => SqT K H' a xs) (YOf (xs.zip ds) Prod.fst) := by
    have e2 : (xs.zip ds).length = xs.length := by rw [List.length_zip, hlen, Nat.min_self]
    rw [e2]
    refine walk_tup.mono (fun _ z => z) fun i H x H' hi _ y => ⟨y.1, ?_⟩
    have hi2 : i < ds.length := by omega
    exact ⟨(x, ds[i]), by rw [List.getElem?_zip_eq_some]; exact ⟨y.2, List.getElem?_eq_getElem hi2⟩, rfl⟩
  refine lcV (f := fun _ => true) (g := fun p => V.bl (f p.2)) wk (fun H' e' => st_of (e' _ _ ha)) (by rw [List.length_zip]; omega) hw (fun p _ => fun H2 e2 Q q => q H2 (Ex.refl _)) (fun p hp _ => ?_) hD fun H' e' hd' => ?_
  · obtain ⟨i, hi⟩ := List.mem_iff_getElem?.mp hp
    rw [List.getElem?_zip_eq_some] at hi
    obtain ⟨d, h1, h2⟩ := hd.get hi.1
    rw [hi.2] at h1
    have h3 := Option.some.inj h1
    exact he p.1 p.2 (List.mem_of_getElem? hi.2) (by rw [h3]; exact h2) H1 (e.trans e1)
  · rw [List.filter_eq_self.mpr (fun _ _ => rfl)] at hd'
    have z : (xs.zip ds).map (fun p => V.bl (f p.2)) = (ds.map f).map V.bl := by
      have e3 : (xs.zip ds).map Prod.snd = ds := List.map_snd_zip (by omega)
      have e4 : (xs.zip ds).map (fun p => V.bl (f p.2)) = (((xs.zip ds).map Prod.snd).map f).map V.bl := by
        rw [List.map_map, List.map_map]
        rfl
      rw [e4, e3]
    rw [z] at hd'
    exact q D H' (fresh_back e1 hD) (e1.trans e') hd'
/-- what the top has written of names -/
structure TN (K : PySem.W.Frag) (mg : Str → Option Value) : Prop where
  m_isinstance : mg "isinstance" = none
  m_str : mg "str" = none
  m_tuple : mg "tuple" = none
  m_len : mg "len" = none
  m_all : mg "all" = none
  c_LETTERS : ∃ t, mg "LETTERS" = some (.str "abcdefghijklmnopqrstuvwxyz" t)
  c_DIGITS : ∃ t, mg "DIGITS" = some (.str "0123456789" t)
  c_MOST_SIGNS : ∃ t, mg "MOST_SIGNS" = some (.int 12 t)
  c_MOST_TERMS : ∃ t, mg "MOST_TERMS" = some (.int 3 t)
  is_name : ∃ f fd, DefAt K mg "is_name" s_is_name ["value"] f fd
  is_variable : ∃ f fd, DefAt K mg "is_variable" s_is_variable ["value"] f fd
  is_pattern : ∃ f fd, DefAt K mg "is_pattern" s_is_pattern ["value"] f fd
section
variable {P : Program} {w : World} {K : PySem.W.Frag} {mg : Str → Option Value} {base : Heap}
theorem ok_is_name {f : Addr} {fd : FuncData} (T : TN K mg) (F : Fun K "is_name" "is_name" s_is_name f fd) : FnOk P w K mg base CX0 1 f fd ["value"] (spB nameD) := by
  have m_isinstance := T.m_isinstance
  have m_str := T.m_str
  have m_len := T.m_len
  have m_all := T.m_all
  obtain ⟨_, c_LETTERS⟩ := T.c_LETTERS
  obtain ⟨_, c_DIGITS⟩ := T.c_DIGITS
  obtain ⟨_, c_MOST_SIGNS⟩ := T.c_MOST_SIGNS
  refine F.ok sc_is_name (fun vs H Q E h => ?_) (fun cdv A outer s H vs Q E hr h => ?_)
  · obtain ⟨v, d, rfl, _⟩ := h
    rfl
  · obtain ⟨v, d, rfl, hv, k⟩ := h
    refine ⟨_, (pss_cons (ps_if (PW.pt (pw_or (pt_not (pt_val (pe_callB (call_isiK' (K := K) rfl) (by rfl) m_isinstance PyProof.Rows.boot_isinstance (pa_cons (pv 0) (pa_cons (pe_bltn (v := .ty "str") (by rfl) m_str (by decide +kernel) rfl) pa_nil))))) (pw_or1 (pt_not (pt_chain op_le op_le pe_int (pe_callB call_len_str (by rfl) m_len PySem.boot_len (pa_cons (pv 0) pa_nil)) (pe_glob (v := v_MOST_SIGNS) rfl c_MOST_SIGNS ⟨_, rfl⟩)))))) (pss_one (ps_ret pe_bl)) pss_nil)
      (pss_one (ps_ret (pe_and (pe_cmpR op_in_sign (pe_ix ix_str (pv 0) pe_int (fun _ _ => rfl)) (pe_glob (v := v_LETTERS) rfl c_LETTERS ⟨_, rfl⟩) (by rfl)) (pe_one (pe_callB (cr_allK (K := K) rfl rfl) (by rfl) m_all (by decide +kernel) (pa_cons (pe_lc (own := [("sign", 1)]) (g := gName 1) (tt := tYes) rfl sc_is_name.nd (pi_str (pv 0)) (blkOk_by (N := n_is_name) (sc := defScope s_is_name) (by decide +kernel)) (fun _ _ _ _ _ => pg_name (i := 1) sc_is_name.nd rfl (Or.inl rfl)) (fun _ _ _ _ _ => pts_nil) (fun _ _ _ _ _ => (pe_cmpR op_in_sign (pv 1) (pe_op op_add_str (pe_glob (v := v_LETTERS) rfl c_LETTERS ⟨_, rfl⟩) (pe_glob (v := v_DIGITS) rfl c_DIGITS ⟨_, rfl⟩)) (by rfl)))) pa_nil))))))), ?_⟩
    by_cases hs : tyOf d = "str"
    · -- a text
      obtain ⟨x, rfl⟩ : ∃ x, d = .str x := by
        cases d <;> simp [tyOf] at hs
        exact ⟨_, rfl⟩
      obtain ⟨hat, hlx⟩ := hv
      have hx := hlx x rfl
      cases hat
      have is1 : Ev (tCB (rIsi K) (tCons (tVar 0) (tCons (tC (.ty "str")) tNil))) [some (.str x), none] H (.bl true) := ev_isi (kit_str K (.str x)) (ev_var rfl) (.str x)
      refine q_when (et_or (et_not (et_B is1)) (fun _ => et_not (et_test (ev_chainI ev_c (ev_lenS (ev_var rfl) (Nat.le_trans hx (by decide))) ev_c)))) (fun hb H1 e1 => ?_) (fun hb H1 e1 => ?_)
      · -- too short or too long
        have z : nameD (.str x) = false := by
          show nameC x.cps.toList = false
          have hn : ¬ (1 ≤ x.length ∧ x.length ≤ 12) := by
            intro c
            have a1 : decide ((1 : Int) ≤ (x.length : Int)) = true := decide_eq_true (by omega)
            have a2 : decide ((x.length : Int) ≤ 12) = true := decide_eq_true (by omega)
            rw [a1, a2] at hb
            exact absurd hb (by decide)
          rw [← len_cps] at hn
          cases hc : x.cps.toList with
          | nil => rfl
          | cons c r =>
            rw [hc] at hn
            have : ¬ r.length ≤ 11 := fun z => hn ⟨by simp, by simp; omega⟩
            simp [nameC, this]
        refine s_ret ev_c fun H2 e2 => ?_
        have q := k H2 (e1.trans e2)
        rw [z] at q
        exact q
      · have hn : 1 ≤ x.length ∧ x.length ≤ 12 := by
          by_cases a1 : (1 : Int) ≤ (x.length : Int)
          · by_cases a2 : (x.length : Int) ≤ 12
            · omega
            · rw [decide_eq_true a1, decide_eq_false a2] at hb
              exact absurd hb (by decide)
          · rw [decide_eq_false a1] at hb
            simp at hb
        have hlen := hn
        rw [← len_cps] at hn
        obtain ⟨c, r, hc⟩ : ∃ c r, x.cps.toList = c :: r := by
          cases h0 : x.cps.toList with
          | nil =>
            rw [h0] at hn
            exact absurd hn.1 (by decide)
          | cons c r => exact ⟨c, r, rfl⟩
        have at0 : atI x.cps.toList (0 : Int) = some c := by
          rw [hc]
          exact atI_nat (j := 0) rfl
        have allE := ev_allN (K := K) (bs := x.cps.toList.map isSgn) (te := tLc (iStr (tVar 0)) (gName 1) tYes (tOp (fun x y H Q => ∃ (c : Nat) (z : Str), x = .str ⟨#[c]⟩ ∧ y = .str z ∧ Q (.bl (decide (c ∈ z.cps.toList))) H) (tVar 1) (tOp (fun x y H Q => ∃ i j, x = .str i ∧ y = .str j ∧ i.length + j.length ≤ sizeLine ∧ Q (.str (i ++ j)) H) (tC (.str "abcdefghijklmnopqrstuvwxyz")) (tC (.str "0123456789")))) [1]) (σ := [some (.str x), none]) (H := H1) (by
          have z := el_cS (σ := [some (.str x), none]) (H := H1) (tl := tVar 0) (z := x) (t := tYes) (te := tOp (fun x y H Q => ∃ (c : Nat) (z : Str), x = .str ⟨#[c]⟩ ∧ y = .str z ∧ Q (.bl (decide (c ∈ z.cps.toList))) H) (tVar 1) (tOp (fun x y H Q => ∃ i j, x = .str i ∧ y = .str j ∧ i.length + j.length ≤ sizeLine ∧ Q (.str (i ++ j)) H) (tC (.str "abcdefghijklmnopqrstuvwxyz")) (tC (.str "0123456789")))) (j := 1) (vs := [1])
            (f := fun _ => true) (g := fun c => .bl (isSgn c)) (ev_var rfl) (by omega) (fun _ => rfl) (fun c _ H2 e2 => fun H3 e3 Q q => q H3 (Ex.refl _))
            (fun c _ _ H2 e2 => ev_op (ev_var rfl) (ev_op ev_c ev_c (rv_addS (by decide))) rv_sign)
          rw [List.filter_eq_self.mpr (fun _ _ => rfl)] at z
          rw [List.map_map]
          exact z)
        refine s_ret (ev_andV (ev_op (ev_op (ev_var rfl) ev_c (rv_ixS (Nat.le_trans hx (by decide)) at0)) ev_c rv_sign) (fun _ => allE)) fun H2 e2 => ?_
        have q := k H2 (e1.trans e2)
        have z : nameD (.str x) = (decide (c ∈ (Str.ofString "abcdefghijklmnopqrstuvwxyz").cps.toList) && (x.cps.toList.map isSgn).all id) := by
          show nameC x.cps.toList = _
          rw [hc] at hn ⊢
          have h11 : r.length ≤ 11 := by
            have := hn.2
            simp at this
            omega
          simp only [nameC, h11, decide_true, Bool.true_and, isLet, letters, List.all_map]
          rfl
        rw [z] at q
        exact q
    · have z : nameD d = false := by
        cases d <;> first | rfl | (simp [tyOf] at hs)
      have is1 : Ev (tCB (rIsi K) (tCons (tVar 0) (tCons (tC (.ty "str")) tNil))) [some v, none] H (.bl false) := by
        have q := ev_isi (K := K) (σ := [some v, none]) (kit_str K d) (ev_var (i := 0) rfl) hv.1
        rw [decide_eq_false hs] at q
        exact q
      refine q_when (b := true) ?_ (fun hb H1 e1 => ?_) (fun hb => absurd hb (by decide))
      · intro H1 e1 Q1 q1
        refine is1 H1 e1 _ fun H2 e2 => ?_
        exact ⟨false, rfl, q1 H2 e2⟩
      · refine s_ret ev_c fun H2 e2 => ?_
        have q := k H2 (e1.trans e2)
        rw [z] at q
        exact q
theorem ok_is_variable {f : Addr} {fd : FuncData} (T : TN K mg) (F : Fun K "is_variable" "is_variable" s_is_variable f fd) : FnOk P w K mg base CX0 2 f fd ["value"] (spB varD) := by
  have m_isinstance := T.m_isinstance
  have m_str := T.m_str
  obtain ⟨fN, dN, Dis_name⟩ := T.is_name
  have Gis_name : FnOk P w K mg base CX0 1 fN dN _ (spB nameD) := ok_is_name T Dis_name.F
  refine F.ok sc_is_variable (fun vs H Q E h => ?_) (fun cdv A outer s H vs Q E hr h => ?_)
  · obtain ⟨v, d, rfl, _⟩ := h
    rfl
  · obtain ⟨v, d, rfl, hv, k⟩ := h
    refine ⟨_, (pss_one (ps_ret (pe_and (pe_callB (call_isiK' (K := K) rfl) (by rfl) m_isinstance PyProof.Rows.boot_isinstance (pa_cons (pv 0) (pa_cons (pe_bltn (v := .ty "str") (by rfl) m_str (by decide +kernel) rfl) pa_nil))) (pe_and (pe_cmpR op_eq (pe_slice sl_str (pv 0) po_none (po_some pe_int)) pe_str (nomark _)) (pe_one (pe_call Gis_name (hr.mono (by decide)) (by rfl) Dis_name.g Dis_name.F.kp Dis_name.b .nil pass0 (pa_cons (pe_slice sl_str (pv 0) (po_some pe_int) po_none) pa_nil))))))), ?_⟩
    by_cases hs : tyOf d = "str"
    · obtain ⟨x, rfl⟩ : ∃ x, d = .str x := by
        cases d <;> simp [tyOf] at hs
        exact ⟨_, rfl⟩
      obtain ⟨hat, hlx⟩ := hv
      have hx := hlx x rfl
      cases hat
      have is1 : Ev (tCB (rIsi K) (tCons (tVar 0) (tCons (tC (.ty "str")) tNil))) [some (.str x)] H (.bl true) := ev_isi (kit_str K (.str x)) (ev_var rfl) (.str x)
      have tail : Ev (tCall (spB nameD) [] E0 (tCons (tSl rSlS (tVar 0) (tPart (tC (.int 1))) tNoPart) tNil)) [some (.str x)] H (.bl (nameS (cutS x (some 1) none))) := fun H1 e1 Q1 q1 =>
        ev_slS (ev_var rfl) (eo_some ev_c) eo_none (Nat.le_trans hx (by decide)) H1 e1 _ fun H2 e2 => ⟨_, .str (cutS x (some 1) none), rfl, ⟨.str _, fun y e => ?_⟩, fun H3 e3 => q1 H3 (e2.trans e3)⟩
      · refine s_ret (ev_andV is1 fun _ => ev_andV (ev_op (ev_slS (ev_var rfl) eo_none (eo_some ev_c) (Nat.le_trans hx (by decide))) ev_c (rv_eq rfl)) fun _ => tail) fun H1 e1 => ?_
        have q := k H1 e1
        have z : varD (.str x) = (true && (decide (V.str (cutS x none (some 1)) = V.str "?") && nameS (cutS x (some 1) none))) := varS_eq x
        rw [z] at q
        exact q
      · cases e
        rw [← len_cps, cut_tail, List.length_drop, len_cps]
        omega
    · have z : varD d = false := by
        cases d <;> first | rfl | (simp [tyOf] at hs)
      have is1 : Ev (tCB (rIsi K) (tCons (tVar 0) (tCons (tC (.ty "str")) tNil))) [some v] H (.bl false) := by
        have q := ev_isi (K := K) (σ := [some v]) (kit_str K d) (ev_var (i := 0) rfl) hv.1
        rw [decide_eq_false hs] at q
        exact q
      refine is1 H (Ex.refl _) _ fun H1 e1 => ⟨false, rfl, ?_⟩
      have q := k H1 e1
      rw [z] at q
      exact q
theorem ok_is_pattern {f : Addr} {fd : FuncData} (T : TN K mg) (F : Fun K "is_pattern" "is_pattern" s_is_pattern f fd) : FnOk P w K mg base CX0 3 f fd ["value"] (spBT patD) := by
  have m_isinstance := T.m_isinstance
  have m_tuple := T.m_tuple
  have m_len := T.m_len
  have m_all := T.m_all
  obtain ⟨_, c_MOST_TERMS⟩ := T.c_MOST_TERMS
  obtain ⟨fN, dN, Dis_name⟩ := T.is_name
  obtain ⟨fV, dV, Dis_variable⟩ := T.is_variable
  have Gis_name : FnOk P w K mg base CX0 1 fN dN _ (spB nameD) := ok_is_name T Dis_name.F
  have Gis_variable : FnOk P w K mg base CX0 2 fV dV _ (spB varD) := ok_is_variable T Dis_variable.F
  refine F.ok sc_is_pattern (fun vs H Q E h => ?_) (fun cdv A outer s H vs Q E hr h => ?_)
  · obtain ⟨v, d, rfl, _⟩ := h
    rfl
  · obtain ⟨v, d, rfl, hv, k⟩ := h
    refine ⟨_, (pss_cons (ps_if (PW.pt (pw_or (pt_not (pt_val (pe_callB (call_isiK' (K := K) rfl) (by rfl) m_isinstance PyProof.Rows.boot_isinstance (pa_cons (pv 0) (pa_cons (pe_bltn (v := .ty "tuple") (by rfl) m_tuple (by decide +kernel) rfl) pa_nil))))) (pw_or (pt_not (pt_chain op_le op_le pe_int (pe_callB (call_len_seqK (K := K) rfl) (by rfl) m_len PySem.boot_len (pa_cons (pv 0) pa_nil)) (pe_op op_add (pe_glob (v := v_MOST_TERMS) rfl c_MOST_TERMS ⟨_, rfl⟩) pe_int))) (pw_or1 (pt_not (pt_val (pe_call Gis_name (hr.mono (by decide)) (by rfl) Dis_name.g Dis_name.F.kp Dis_name.b .nil pass0 (pa_cons (pe_ix (ix_tupK (K := K) rfl) (pv 0) pe_int (fun _ _ => rfl)) pa_nil)))))))) (pss_one (ps_ret pe_bl)) pss_nil)
      (pss_one (ps_ret (pe_callB (cr_allK (K := K) rfl rfl) (by rfl) m_all (by decide +kernel) (pa_cons (pe_lc (own := [("term", 1)]) (g := gName 1) (tt := tYes) rfl sc_is_pattern.nd (pi_tupK (K := K) rfl (pe_slice (sl_tupAK (K := K) rfl) (pv 0) (po_some pe_int) po_none)) (blkOk_by (N := n_is_pattern) (sc := defScope s_is_pattern) (by decide +kernel)) (fun _ _ _ _ _ => pg_name (i := 1) sc_is_pattern.nd rfl (Or.inl rfl)) (fun _ _ _ _ _ => pts_nil) (fun _ _ _ _ _ => (pe_or (pe_call Gis_name (hr.mono (by decide)) (by rfl) Dis_name.g Dis_name.F.kp Dis_name.b .nil pass0 (pa_cons (pv 1) pa_nil)) (pe_one (pe_call Gis_variable (hr.mono (by decide)) (by rfl) Dis_variable.g Dis_variable.F.kp Dis_variable.b .nil pass0 (pa_cons (pv 1) pa_nil)))))) pa_nil))))), ?_⟩
    by_cases hs : tyOf d = "tuple"
    · obtain ⟨ds, rfl⟩ : ∃ ds, d = .tuple ds := by
        cases d <;> simp [tyOf] at hs
        exact ⟨_, rfl⟩
      obtain ⟨⟨hat, _⟩, hlx⟩ := hv
      obtain ⟨hl, hst⟩ := hlx ds rfl
      have is1 : Ev (tCB (rIsi K) (tCons (tVar 0) (tCons (tC (.ty "tuple")) tNil))) [some v, none] H (.bl true) := ev_isi (kit_tup K (.tuple ds)) (ev_var rfl) hat
      cases hat with
      | @tup a xs _ ha hds =>
        have hlen := hds.len
        have len1 : Ev (tCB (rLenS K) (tCons (tVar 0) tNil)) [some (V.ref a), none] H (.int (ds.length : Int)) := fun H1 e Q q => ⟨_, rfl, a, xs, rfl, .inr (st_of (e _ _ ha)), by rw [hlen]; exact q H1 (Ex.refl _)⟩
        cases ds with
        | nil =>
          refine q_when (b := true) (et_is (et_or (b := true) (et_not (et_B is1)) (fun _ => et_is (et_or (b := true) (et_not (et_test (ev_chainI ev_c len1 (ev_op ev_c ev_c rv_I0)))) (fun z => absurd z (by decide))) rfl)) rfl) (fun hb H1 e1 => ?_) (fun hb => absurd hb (by decide))
          exact s_ret ev_c fun H2 e2 => k H2 (e1.trans e2)
        | cons d0 dr =>
          cases hds with
          | @cons v0 vr _ _ h0 hr0 =>
            have any0 : Any H v0 d0 := ⟨h0, fun x e => hst x (by rw [e]; exact List.mem_cons_self ..)⟩
            have nm : Ev (tCall (spB nameD) [] E0 (tCons (tOp (rIxT K) (tVar 0) (tC (.int 0))) tNil)) [some (V.ref a), none] H (.bl (nameD d0)) := ev_B (ev_op (ev_var rfl) ev_c (rv_ixT (st_of ha) (atI_nat (j := 0) rfl))) any0
            have cond := et_or (et_not (et_B is1)) (fun _ => et_or (et_not (et_test (ev_chainI (ev_c (v := .int 1)) len1 (ev_op (ev_c (v := .int 3)) (ev_c (v := .int 1)) (rv_I0 (g := fun i j => .int (i + j))))))) (fun _ => et_not (et_B nm)))
            refine q_when cond (fun hb H1 e1 => ?_) (fun hb H1 e1 => ?_)
            · have z : patD (.tuple (d0 :: dr)) = false := by
                by_cases c : dr.length ≤ 3
                · have a1 : decide ((1 : Int) ≤ ((d0 :: dr).length : Int)) = true := decide_eq_true (by simp only [List.length_cons]; omega)
                  have a2 : decide (((d0 :: dr).length : Int) ≤ 3 + 1) = true := decide_eq_true (by simp only [List.length_cons]; omega)
                  rw [a1, a2] at hb
                  have hn : nameD d0 = false := by
                    cases q : nameD d0 with
                    | false => rfl
                    | true =>
                      rw [q] at hb
                      exact absurd hb (by decide)
                  simp [patD, hn]
                · simp [patD, c]
              refine s_ret ev_c fun H2 e2 => ?_
              have q := k H2 (e1.trans e2)
              rw [z] at q
              exact q
            · have hc : dr.length ≤ 3 ∧ nameD d0 = true := by
                have a1 : decide ((1 : Int) ≤ ((d0 :: dr).length : Int)) = true := decide_eq_true (by simp only [List.length_cons]; omega)
                rw [a1] at hb
                by_cases c : dr.length ≤ 3
                · refine ⟨c, ?_⟩
                  cases q : nameD d0 with
                  | true => rfl
                  | false =>
                    rw [q] at hb
                    simp at hb
                · have a2 : decide (((d0 :: dr).length : Int) ≤ 3 + 1) = false := decide_eq_false (by simp only [List.length_cons]; omega)
                  rw [a2] at hb
                  simp at hb
              have hr1 := hr0.mono e1
              -- the terms
              have each : ∀ y ∈ vr, ∃ d ∈ dr, Any H1 y d := fun y hy => by
                obtain ⟨i, hi⟩ := List.mem_iff_getElem?.mp hy
                obtain ⟨d, hd, hat⟩ := hr1.get hi
                have hm := List.mem_of_getElem? hd
                exact ⟨d, hm, hat, fun x e => hst x (by rw [← e]; exact List.mem_cons_of_mem _ hm)⟩
              have lst := comp_any (K := K) (σ := [some (V.ref a), none]) (H := H1) (j := 1) (vs := [1]) (tl := tSl (rSlA K) (tVar 0) (tPart (tC (.int 1))) tNoPart) (te := tOrV (tCall (spB nameD) [] E0 (tCons (tVar 1) tNil)) (tCall (spB varD) [] E0 (tCons (tVar 1) tNil))) (f := fun d => nameD d || varD d)
                (ep_tailT (ev_var rfl) (e1 _ _ ha)) hr1 (by have := hr1.len; show vr.length ≤ 40000; omega) (fun _ => rfl) (fun y d hm hat H2 e2 => by
                  have an : Any H2 y d := ⟨hat.mono e2, fun x e => hst x (by rw [← e]; exact List.mem_cons_of_mem _ hm)⟩
                  exact ev_orV (ev_B (ev_var rfl) an) fun _ => ev_B (ev_var rfl) an)
              refine s_ret (ev_allN lst) fun H2 e2 => ?_
              have q := k H2 (e1.trans e2)
              have z : patD (.tuple (d0 :: dr)) = (dr.map fun d => nameD d || varD d).all id := by
                simp [patD, hc.1, hc.2, List.all_map]
              rw [z] at q
              exact q
    · have z : patD d = false := by
        cases d <;> first | rfl | (simp [tyOf] at hs)
      have is1 : Ev (tCB (rIsi K) (tCons (tVar 0) (tCons (tC (.ty "tuple")) tNil))) [some v, none] H (.bl false) := by
        have q := ev_isi (K := K) (σ := [some v, none]) (kit_tup K d) (ev_var (i := 0) rfl) hv.1.1
        rw [decide_eq_false hs] at q
        exact q
      refine q_when (b := true) ?_ (fun hb H1 e1 => ?_) (fun hb => absurd hb (by decide))
      · intro H1 e1 Q1 q1
        refine is1 H1 e1 _ fun H2 e2 => ?_
        exact ⟨false, rfl, q1 H2 e2⟩
      · refine s_ret ev_c fun H2 e2 => ?_
        have q := k H2 (e1.trans e2)
        rw [z] at q
        exact q
theorem ok_is_fact {f : Addr} {fd : FuncData} (T : TN K mg) (F : Fun K "is_fact" "is_fact" s_is_fact f fd) : FnOk P w K mg base CX0 4 f fd ["value"] (spBT factD) := by
  have m_all := T.m_all
  obtain ⟨fN, dN, Dis_name⟩ := T.is_name
  obtain ⟨fP, dP, Dis_pattern⟩ := T.is_pattern
  have Gis_name : FnOk P w K mg base CX0 1 fN dN _ (spB nameD) := ok_is_name T Dis_name.F
  have Gis_pattern : FnOk P w K mg base CX0 3 fP dP _ (spBT patD) := ok_is_pattern T Dis_pattern.F
  refine F.ok sc_is_fact (fun vs H Q E h => ?_) (fun cdv A outer s H vs Q E hr h => ?_)
  · obtain ⟨v, d, rfl, _⟩ := h
    rfl
  · obtain ⟨v, d, rfl, hv, k⟩ := h
    refine ⟨_, (pss_one (ps_ret (pe_and (pe_call Gis_pattern (hr.mono (by decide)) (by rfl) Dis_pattern.g Dis_pattern.F.kp Dis_pattern.b .nil pass0 (pa_cons (pv 0) pa_nil)) (pe_one (pe_callB (cr_allK (K := K) rfl rfl) (by rfl) m_all (by decide +kernel) (pa_cons (pe_lc (own := [("term", 1)]) (g := gName 1) (tt := tYes) rfl sc_is_fact.nd (pi_tupK (K := K) rfl (pv 0)) (blkOk_by (N := n_is_fact) (sc := defScope s_is_fact) (by decide +kernel)) (fun _ _ _ _ _ => pg_name (i := 1) sc_is_fact.nd rfl (Or.inl rfl)) (fun _ _ _ _ _ => pts_nil) (fun _ _ _ _ _ => (pe_call Gis_name (hr.mono (by decide)) (by rfl) Dis_name.g Dis_name.F.kp Dis_name.b .nil pass0 (pa_cons (pv 1) pa_nil)))) pa_nil)))))), ?_⟩
    have pt : Ev (tCall (spBT patD) [] E0 (tCons (tVar 0) tNil)) [some v, none] H (.bl (patD d)) := ev_BT (ev_var rfl) hv
    by_cases hp : patD d = true
    · obtain ⟨d0, dr, rfl⟩ : ∃ d0 dr, d = .tuple (d0 :: dr) := by
        cases d with
        | tuple ds =>
          cases ds with
          | nil => simp [patD] at hp
          | cons d0 dr => exact ⟨d0, dr, rfl⟩
        | _ => simp [patD] at hp
      obtain ⟨⟨hat, _⟩, hlx⟩ := hv
      obtain ⟨hl, hst⟩ := hlx _ rfl
      cases hat with
      | @tup a xs _ ha hds =>
        have lst : ∀ {H1 : Hp}, Ex H H1 → EvL (tLc (iTup K (tVar 0)) (gName 1) tYes (tCall (spB nameD) [] E0 (tCons (tVar 1) tNil)) [1]) [some (V.ref a), none] H1 (((d0 :: dr).map nameD).map V.bl) := fun {H1} e1 =>
          comp_any (K := K) (σ := [some (V.ref a), none]) (H := H1) (j := 1) (vs := [1]) (tl := tVar 0) (te := tCall (spB nameD) [] E0 (tCons (tVar 1) tNil)) (f := nameD)
            (fun H2 e2 Q q => ⟨_, rfl, q _ H2 (Ex.refl _) ⟨a, rfl, (e1.trans e2) _ _ ha⟩⟩) (hds.mono e1) (by have := hds.len; omega) (fun _ => rfl) (fun y d hm hat H2 e2 => ev_B (ev_var rfl) ⟨hat.mono e2, fun x e => hst x (by rw [← e]; exact hm)⟩)
        refine s_ret (ev_andV pt fun _ => ev_allN (lst (Ex.refl _))) fun H1 e1 => ?_
        have q := k H1 e1
        have z : factD (.tuple (d0 :: dr)) = (patD (.tuple (d0 :: dr)) && ((d0 :: dr).map nameD).all id) := by
          simp only [factD, List.all_map]
          rfl
        rw [z] at q
        exact q
    · have hp : patD d = false := by simpa using hp
      have z : factD d = false := by
        cases d with
        | tuple ds =>
          cases ds with
          | nil => rfl
          | cons d0 dr => simp [factD, hp]
        | _ => rfl
      rw [hp] at pt
      refine pt H (Ex.refl _) _ fun H1 e1 => ⟨false, rfl, ?_⟩
      have q := k H1 e1
      rw [z] at q
      exact q
end
end G39

namespace G39
open PySem PySem.Spec PyProof.Rows L2 Evl
section
variable {K : PySem.W.Frag} {σ : L2.St} {H : Hp} {te tl tl1 : TE} {j k : Nat} {vs vs1 : List Nat} {wi : TI}
theorem yes_go {σ : L2.St} {H : Hp} {Q : Bool → Hp → Prop} (h : Q true H) : tYes σ H Q := h
/-- what a walk over xs is, once it begins -/
def Src1 (wi : TI) (σ : L2.St) (H : Hp) (xs : List V) : Prop := ∀ H0, Ex H H0 → ∀ R : It → Hp → Prop, (∀ J H1 G, Ex H0 H1 → Walk J xs.length G (YOf xs id) → (∀ H', Ex H1 H' → G H') → R J H1) → wi σ H0 R
theorem src_list {xs : List V} (h : EvP tl σ H fun v H' => ∃ a, v = .ref a ∧ H' a = some (.lst xs)) : Src1 (iList K tl) σ H xs := fun H0 e R q =>
  h H0 e _ fun v H1 e1 ⟨a, ev, ha⟩ => ⟨a, ev, ⟨xs, sq_of ha⟩, q _ H1 (fun H' => SqL K H' a xs) e1 (walk_list.mono (fun _ z => z) fun i H x H' _ _ y => ⟨y.1, x, y.2, rfl⟩) fun H' e' => sq_of (e' _ _ ha)⟩
theorem src_tup {xs : List V} (h : EvP tl σ H fun v H' => ∃ a, v = .ref a ∧ H' a = some (.tup xs)) : Src1 (iTup K tl) σ H xs := fun H0 e R q =>
  h H0 e _ fun v H1 e1 ⟨a, ev, ha⟩ => ⟨a, ev, ⟨xs, st_of ha⟩, q _ H1 (fun H' => SqT K H' a xs) e1 (walk_tup.mono (fun _ z => z) fun i H x H' _ _ y => ⟨y.1, x, y.2, rfl⟩) fun H' e' => st_of (e' _ _ ha)⟩
/-- [g(y) for x in xs for y in inn(x)] -/
theorem el_c2 {xs : List V} {inn : V → List V} {g : V → V} (h : Src1 wi σ H xs) (hz : (xs.flatMap inn).length ≤ 40000) (hw : ∀ x, wipe ((wipe σ vs).set j (some x)) vs = wipe σ vs)
    (hw1 : ∀ x y, wipe ((wipe ((wipe σ vs).set j (some x)) vs1).set k (some y)) vs1 = wipe ((wipe σ vs).set j (some x)) vs1)
    (hi : ∀ x ∈ xs, ∀ H1, Ex H H1 → EvP tl1 ((wipe σ vs).set j (some x)) H1 fun v H' => ∃ a, v = .ref a ∧ H' a = some (.tup (inn x)))
    (he : ∀ x ∈ xs, ∀ y ∈ inn x, ∀ H1, Ex H H1 → Ev te ((wipe ((wipe σ vs).set j (some x)) vs1).set k (some y)) H1 (g y)) :
    EvL (tLc2 wi (gName j) tYes (iTup K tl1) (gName k) tYes te vs vs1) σ H (xs.flatMap fun x => (inn x).map g) := fun H0 e Q q => h H0 e _ fun J H1 G e1 wk hG D hD => by
  have lens : ∀ ys : List V, (ys.flatMap fun x => (inn x).map g).length = (ys.flatMap inn).length := fun ys => by
    induction ys with
    | nil => rfl
    | cons y ys ih => rw [List.flatMap_cons, List.flatMap_cons, List.length_append, List.length_append, ih, List.length_map]
  have pre : ∀ i, ((xs.take i).flatMap inn).length ≤ (xs.flatMap inn).length := fun i => by
    have z : xs.flatMap inn = (xs.take i).flatMap inn ++ (xs.drop i).flatMap inn := by
      rw [← List.flatMap_append, List.take_append_drop]
    rw [z, List.length_append]
    omega
  refine ⟨fun i m H' => m = xs.length - i ∧ i ≤ xs.length ∧ Ex H1 H' ∧ H' D = some (.lst ((xs.take i).flatMap fun x => (inn x).map g)), ⟨xs.length, by simp, Nat.zero_le _, Ex.new hD, upd_same⟩, ?_⟩
  rintro i m H' ⟨rfl, hle, e2, hd⟩
  by_cases hlt : i < xs.length
  · refine .inr ⟨wk.goes i H' hlt (hG H' e2), fun H'' => Ex H1 H'' ∧ H'' D = some (.lst ((xs.take (i + 1)).flatMap fun x => (inn x).map g)), fun H'' p => ⟨xs.length - (i + 1), by omega, rfl, hlt, p.1, p.2⟩, fun x H'' y => ?_⟩
    obtain ⟨hH, a, ha, hxa⟩ := wk.yields i H' x H'' hlt (hG H' e2) y
    have hxa : x = a := hxa
    subst hxa
    subst hH
    have hm := List.mem_of_getElem? ha
    have tk : (xs.take (i + 1)).flatMap (fun x => (inn x).map g) = (xs.take i).flatMap (fun x => (inn x).map g) ++ (inn x).map g := by
      rw [List.take_add_one, ha, List.flatMap_append]
      simp
    have tkl : ((xs.take (i + 1)).flatMap inn).length = ((xs.take i).flatMap inn).length + (inn x).length := by
      rw [List.take_add_one, ha, List.flatMap_append, List.length_append]
      simp
    have hpre := pre (i + 1)
    refine ⟨hw _, ?_⟩
    refine yes_go (iteT ?_)
    refine hi x hm _ (e.trans (e1.trans e2)) _ (Ex.refl _) _ fun v H3 e3 ⟨b, ev, hb⟩ => ⟨b, ev, ⟨_, st_of hb⟩, ?_⟩
    have hd3 := e3 _ _ hd
    have hbD : b ≠ D := fun z => by
      rw [z, hd3] at hb
      cases hb
    refine ⟨fun u n H4 => n = (inn x).length - u ∧ u ≤ (inn x).length ∧ (∀ c o, c ≠ D → H3 c = some o → H4 c = some o) ∧ H4 D = some (.lst (((xs.take i).flatMap fun x => (inn x).map g) ++ ((inn x).take u).map g)),
      ⟨(inn x).length, by simp, Nat.zero_le _, fun _ _ _ z => z, by simpa using hd3⟩, ?_⟩
    rintro u n H4 ⟨rfl, hu, kp, hd4⟩
    have hb4 := kp _ _ hbD hb
    have ex4 : Ex H1 H4 := fun c o z => kp c o (ne_of_none z hD) ((e2.trans e3) c o z)
    by_cases hul : u < (inn x).length
    · have wk1 := walk_tup (K := K) (a := b) (xs := inn x)
      refine .inr ⟨wk1.goes u H4 hul (st_of hb4), fun H5 => (∀ c o, c ≠ D → H3 c = some o → H5 c = some o) ∧ H5 D = some (.lst (((xs.take i).flatMap fun x => (inn x).map g) ++ ((inn x).take (u + 1)).map g)),
        fun H5 p => ⟨(inn x).length - (u + 1), by omega, rfl, hul, p.1, p.2⟩, fun y' H5 yy => ?_⟩
      obtain ⟨hH5, hy⟩ := wk1.yields u H4 y' H5 hul (st_of hb4) yy
      subst hH5
      have hym := List.mem_of_getElem? hy
      refine ⟨hw1 _ _, ?_⟩
      refine yes_go (iteT ?_)
      refine he x hm y' hym H5 (e.trans (e1.trans ex4)) H5 (Ex.refl _) _ fun H6 e6 => ⟨_, e6 _ _ hd4, ?_, fun c o hc z => ?_, ?_⟩
      · rw [List.length_append, lens, List.length_map, List.length_take, sizeLine_eq]
        omega
      · rw [upd_ne hc]
        exact e6 _ _ (kp c o hc z)
      · rw [upd_same, List.append_assoc, List.take_add_one, hy]
        simp
    · have eu : u = (inn x).length := by omega
      subst eu
      refine .inl ⟨(walk_tup (K := K) (a := b) (xs := inn x)).stops H4 (st_of hb4), ex4, ?_⟩
      rw [tk, hd4, List.take_length]
  · have ei : i = xs.length := by omega
    subst ei
    rw [List.take_length] at hd
    exact .inl ⟨wk.stops H' (hG H' e2), q D H' (fresh_back e1 hD) (e1.trans e2) hd⟩
end
/-! ascending texts -/
def leS (a b : Str) : Prop := a.cps.toList ≤ b.cps.toList
theorem leS_of {a b : Str} (h : ltCps b.cps.toList a.cps.toList = false) : leS a b := by
  rw [ltCps_eq] at h
  exact of_decide_eq_false h
theorem rising_all : ∀ (l : List Str) (p : Str), risingS p l = true → (∀ x ∈ l, leS p x) ∧ l.Pairwise leS
  | [], _, _ => ⟨fun _ h => (nomatch h), .nil⟩
  | x :: r, p, h => by
    have h' : ltCps x.cps.toList p.cps.toList = false ∧ risingS x r = true := by simpa [risingS] using h
    obtain ⟨h1, h2⟩ := rising_all r x h'.2
    have px : leS p x := leS_of h'.1
    refine ⟨fun y hy => ?_, List.pairwise_cons.mpr ⟨h1, h2⟩⟩
    rcases List.mem_cons.mp hy with rfl | hy
    · exact px
    · exact List.le_trans px (h1 y hy)
theorem sorted_pw {l : List Str} (h : sortedS l = true) : l.Pairwise leS := by
  cases l with
  | nil => exact .nil
  | cons x r =>
    obtain ⟨h1, h2⟩ := rising_all r x h
    exact List.pairwise_cons.mpr ⟨h1, h2⟩
theorem sorted_one {l m : List Str} (hl : sortedS l = true) (hm : sortedS m = true) (p : l.Perm m) : l = m :=
  List.Perm.eq_of_pairwise (fun a b _ _ h1 h2 => str_ext (List.le_antisymm h1 h2)) (sorted_pw hl) (sorted_pw hm) p
/-! a set of texts, made by a comprehension and sorted -/
section
variable {w : World} {K : PySem.W.Frag} {σ : L2.St} {H : Hp} {te : TE} {t : TT} {j : Nat} {vs : List Nat} {wi : TI}
theorem plus_len (L : List Str) (k : Str) : (plus L k).length ≤ L.length + 1 := by
  unfold plus
  split
  · omega
  · simp
theorem fold_len : ∀ (xs : List Str) (L : List Str), (xs.foldl plus L).length ≤ L.length + xs.length
  | [], L => by simp
  | x :: xs, L => by
    have h1 := fold_len xs (plus L x)
    have h2 := plus_len L x
    rw [List.foldl_cons, List.length_cons]
    omega
theorem ep_sg {xs : List Str} {f : Str → Bool} (h : Src1 wi σ H (xs.map V.str)) (hz : xs.length ≤ 900) (hw : ∀ x, wipe ((wipe σ vs).set j (some x)) vs = wipe σ vs)
    (ht : ∀ x ∈ xs, ∀ H1, Ex H H1 → EvT t ((wipe σ vs).set j (some (.str x))) H1 (f x)) (he : ∀ x ∈ xs, f x = true → ∀ H1, Ex H H1 → Ev te ((wipe σ vs).set j (some (.str x))) H1 (.str x)) :
    EvP (tSg (fun D => SetTx w D []) (addTx w) wi (gName j) t te vs) σ H fun v H' => ∃ a, v = .ref a ∧ H' a = some (SetTx w a ((xs.filter f).foldl plus [])) := fun H0 e Q q => h H0 e _ fun J H1 G e1 wk hG D hD => by
  rw [List.length_map] at wk
  refine ⟨fun i m H' => m = xs.length - i ∧ i ≤ xs.length ∧ Ex H1 H' ∧ H' D = some (SetTx w D (((xs.take i).filter f).foldl plus [])), ⟨xs.length, by simp, Nat.zero_le _, Ex.new hD, upd_same⟩, ?_⟩
  rintro i m H' ⟨rfl, hle, e2, hd⟩
  by_cases hlt : i < xs.length
  · refine .inr ⟨wk.goes i H' hlt (hG H' e2), fun H'' => Ex H1 H'' ∧ H'' D = some (SetTx w D (((xs.take (i + 1)).filter f).foldl plus [])), fun H'' p => ⟨xs.length - (i + 1), by omega, rfl, hlt, p.1, p.2⟩, fun x H'' y => ?_⟩
    obtain ⟨hH, a, ha, hxa⟩ := wk.yields i H' x H'' hlt (hG H' e2) y
    have hxa : x = a := hxa
    subst hxa
    subst hH
    rw [List.getElem?_map] at ha
    obtain ⟨k, hk, rfl⟩ := Option.map_eq_some_iff.mp ha
    have hm := List.mem_of_getElem? hk
    have tk : xs.take (i + 1) = xs.take i ++ [k] := by
      rw [List.take_add_one, hk]
      rfl
    refine ⟨hw _, ht k hm _ (e.trans (e1.trans e2)) _ (Ex.refl _) _ fun H3 e3 => ?_⟩
    cases hf : f k with
    | true =>
      refine iteT (he k hm hf _ (e.trans (e1.trans (e2.trans e3))) _ (Ex.refl _) _ fun H4 e4 => ⟨k, _, rfl, e4 _ _ (e3 _ _ hd), ?_, Ex.mut (e2.trans (e3.trans e4)) hD, ?_⟩)
      · have z := fold_len ((xs.take i).filter f) []
        have z2 : ((xs.take i).filter f).length ≤ xs.length := Nat.le_trans (List.length_filter_le _ _) (by rw [List.length_take]; exact Nat.min_le_right _ _)
        simp only [List.length_nil, Nat.zero_add] at z
        omega
      · rw [tk, List.filter_append, List.filter_cons, if_pos hf, List.filter_nil, List.foldl_append]
        exact upd_same
    | false =>
      refine iteF ⟨e2.trans e3, ?_⟩
      rw [tk, List.filter_append, List.filter_cons, if_neg (by rw [hf]; exact Bool.false_ne_true), List.filter_nil, List.append_nil]
      exact e3 _ _ hd
  · have ei : i = xs.length := by omega
    subst ei
    rw [List.take_length] at hd
    refine .inl ⟨wk.stops H' (hG H' e2), q (.ref D) H' (e1.trans e2) ⟨D, rfl, hd⟩⟩
/-- sorted({..}) -/
theorem el_sorted {L : List Str} (h : EvP te σ H fun v H' => ∃ a, v = .ref a ∧ H' a = some (SetTx w a L)) (h64 : L.length < 64) :
    EvP (tCB (rSortTx w) (tCons te tNil)) σ H fun v H' => ∃ p ys, v = .ref p ∧ H' p = some (.lst (ys.map V.str)) ∧ ys.Perm L ∧ sortedS ys = true := fun H1 e Q q =>
  h H1 e _ fun v H2 e2 ⟨a, ev, ha⟩ => ⟨a, L, by rw [ev], ha, h64, fun ys p hp hs hn => q (.ref p) _ (e2.trans (Ex.new hn)) ⟨p, ys, rfl, upd_same, hp, hs⟩⟩
end
end G39

namespace G39
open PySem PySem.Spec PyProof.Rows L2 Evl
abbrev s_terms_of : Stmt := topS 9
abbrev n_terms_of : List Str := ["lot", "pattern", "term"]
theorem sc_terms_of : FnScope n_terms_of ["lot"] (defScope s_terms_of) := ⟨rfl, rfl, rfl, by decide +kernel, rfl, by decide +kernel, by decide +kernel⟩
abbrev s_variables_of : Stmt := topS 10
abbrev n_variables_of : List Str := ["lot", "term"]
theorem sc_variables_of : FnScope n_variables_of ["lot"] (defScope s_variables_of) := ⟨rfl, rfl, rfl, by decide +kernel, rfl, by decide +kernel, by decide +kernel⟩
/-- a pattern, by its texts -/
def Pt (H : Hp) (v : V) (p : List Str) : Prop := ∃ a, v = .ref a ∧ H a = some (.tup (p.map V.str))
theorem Pt.mono {H H' : Hp} {v : V} {p : List Str} (e : Ex H H') (h : Pt H v p) : Pt H' v p := by
  obtain ⟨a, rfl, ha⟩ := h
  exact ⟨a, rfl, e _ _ ha⟩
abbrev Pts (H : Hp) (vs : List V) (ps : List (List Str)) : Prop := Paired (Pt H) vs ps
theorem Pts.mono {H H' : Hp} {vs : List V} {ps : List (List Str)} (e : Ex H H') (h : Pts H vs ps) : Pts H' vs ps := L2.Paired.mapP h fun _ _ z => z.mono e
/-- a lot: a list or a tuple of patterns -/
def Lot (H : Hp) (v : V) (ps : List (List Str)) : Prop := ∃ a vs, v = .ref a ∧ (H a = some (.lst vs) ∨ H a = some (.tup vs)) ∧ Pts H vs ps
theorem Lot.mono {H H' : Hp} {v : V} {ps : List (List Str)} (e : Ex H H') (h : Lot H v ps) : Lot H' v ps := by
  obtain ⟨a, vs, rfl, h1, h2⟩ := h
  exact ⟨a, vs, rfl, h1.imp (e _ _) (e _ _), h2.mono e⟩
/-- of a bounded size -/
def PB (p : List Str) : Prop := 1 ≤ p.length ∧ p.length ≤ 4 ∧ ∀ x ∈ p, x.length ≤ 20
def LB (ps : List (List Str)) : Prop := ps.length ≤ 15 ∧ ∀ p ∈ ps, PB p
def terms (ps : List (List Str)) : List Str := ps.flatMap (·.drop 1)
theorem terms_len : ∀ {ps : List (List Str)}, (∀ p ∈ ps, PB p) → (terms ps).length ≤ 3 * ps.length
  | [], _ => by simp [terms]
  | p :: ps, h => by
    have ih := terms_len (ps := ps) fun q hq => h q (List.mem_cons_of_mem _ hq)
    have hp := (h p (List.mem_cons_self ..)).2.1
    unfold terms at ih ⊢
    rw [List.flatMap_cons, List.length_append, List.length_drop, List.length_cons]
    omega
theorem terms_in {ps : List (List Str)} (h : ∀ p ∈ ps, PB p) {x : Str} (hx : x ∈ terms ps) : x.length ≤ 20 := by
  obtain ⟨p, hp, hx⟩ := List.mem_flatMap.mp hx
  exact (h p hp).2.2 x (List.mem_of_mem_drop hx)
/-- the variables of a lot, as they come -/
def varsOf (ps : List (List Str)) : List Str := ((terms ps).filter varS).foldl plus []
theorem vars_len {ps : List (List Str)} (h : LB ps) : (varsOf ps).length ≤ 45 := by
  have h1 := fold_len ((terms ps).filter varS) []
  have h2 := List.length_filter_le varS (terms ps)
  have h3 := terms_len h.2
  have h4 := h.1
  simp only [List.length_nil, Nat.zero_add] at h1
  unfold varsOf
  omega
def spTerms : Sp := fun vs H Q _ => ∃ (v : V) (ps : List (List Str)), vs = [v] ∧ Lot H v ps ∧ LB ps ∧ ∀ p H', H p = none → Ex H H' → H' p = some (.lst ((terms ps).map V.str)) → Q (.ref p) H'
def spVars : Sp := fun vs H Q _ => ∃ (v : V) (ps : List (List Str)), vs = [v] ∧ Lot H v ps ∧ LB ps ∧ ∀ p ys H', Ex H H' → H' p = some (.lst (ys.map V.str)) → ys.Perm (varsOf ps) → sortedS ys = true → Q (.ref p) H'
/-- the items of a tuple behind the first -/
def innT (H : Hp) (v : V) : List V := match v with
  | .ref a => (match H a with | some (.tup xs) => xs.drop 1 | _ => [])
  | _ => []
theorem innT_of {H : Hp} {v : V} {p : List Str} (h : Pt H v p) : innT H v = (p.drop 1).map V.str := by
  obtain ⟨a, rfl, ha⟩ := h
  simp [innT, ha, List.map_drop]
theorem flat_inn {H : Hp} : ∀ {vs : List V} {ps : List (List Str)}, Pts H vs ps → vs.flatMap (fun x => (innT H x).map id) = (terms ps).map V.str
  | _, _, .nil => rfl
  | _, _, .cons h t => by
    have ih := flat_inn t
    unfold terms at ih ⊢
    rw [List.flatMap_cons, ih, innT_of h, List.flatMap_cons, List.map_append, List.map_id]
theorem Pts.mem {H : Hp} : ∀ {vs : List V} {ps : List (List Str)} {v : V}, Pts H vs ps → v ∈ vs → ∃ p ∈ ps, Pt H v p
  | _, _, _, .nil, h => (nomatch h)
  | _, _, v, .cons h t, hm => by
    rcases List.mem_cons.mp hm with rfl | hm
    · exact ⟨_, List.mem_cons_self .., h⟩
    · obtain ⟨p, h1, h2⟩ := Pts.mem t hm
      exact ⟨p, List.mem_cons_of_mem _ h1, h2⟩
section
variable {P : Program} {w : World} {K : PySem.W.Frag} {mg : Str → Option Value} {base : Heap}
theorem ok_terms_of {f : Addr} {fd : FuncData} (F : Fun K "terms_of" "terms_of" s_terms_of f fd) : FnOk P w K mg base CX0 1 f fd ["lot"] spTerms := by
  refine F.ok sc_terms_of (fun vs H Q E h => ?_) (fun cdv A outer s H vs Q E hr h => ?_)
  · obtain ⟨v, ps, rfl, _⟩ := h
    rfl
  · obtain ⟨v, ps, rfl, ⟨a, xs, rfl, ha, hp⟩, hb, k⟩ := h
    have core : ∀ {wi : TI}, Src1 wi [some (V.ref a), none, none] H xs → EvL (tLc2 wi (gName 1) tYes (iTup K (tSl (rSlA K) (tVar 1) (tPart (tC (.int 1))) tNoPart)) (gName 2) tYes (tVar 2) [1, 2] [2]) [some (V.ref a), none, none] H ((terms ps).map V.str) := fun {wi} hsrc => by
      have z := el_c2 (K := K) (σ := [some (V.ref a), none, none]) (H := H) (te := tVar 2) (tl1 := tSl (rSlA K) (tVar 1) (tPart (tC (.int 1))) tNoPart) (j := 1) (k := 2) (vs := [1, 2]) (vs1 := [2]) (wi := wi) (xs := xs) (inn := innT H) (g := id) hsrc ?_ (fun _ => rfl) (fun _ _ => rfl) (fun x hx H1 e1 => ?_) (fun x hx y hy H1 e1 => ev_var rfl)
      · rw [flat_inn hp] at z
        exact z
      · have z2 : (xs.flatMap (innT H)).length = ((terms ps).map V.str).length := by
          rw [← flat_inn hp]
          congr 1
          congr 1
          funext x
          rw [List.map_id]
        rw [z2, List.length_map]
        have := terms_len hb.2
        have := hb.1
        omega
      · obtain ⟨p, hpm, hpt⟩ := hp.mem hx
        obtain ⟨b, rfl, hb2⟩ := id hpt
        rw [innT_of hpt]
        have q := ep_tailT (K := K) (te := tVar 1) (σ := List.set (wipe [some (V.ref a), none, none] [1, 2]) 1 (some (V.ref b))) (H := H1) (ev_var rfl) (e1 _ _ hb2)
        rw [← List.map_drop] at q
        exact q
    rcases ha with ha | ha
    · refine ⟨_, (pss_one (ps_ret (pe_lc2 (own := [("pattern", 1), ("term", 2)]) (vs1 := [2]) (g := gName 1) (g1 := gName 2) (tt := tYes) (tt1 := tYes) rfl sc_terms_of.nd (pi_listK (K := K) rfl (pv 0)) (blkOk_by (N := n_terms_of) (sc := defScope s_terms_of) (by decide +kernel)) (by decide) (fun _ _ _ _ _ => pg_name (i := 1) sc_terms_of.nd rfl (Or.inl rfl)) (fun _ _ _ _ _ => pts_nil) (fun _ _ _ _ _ => (pi_tupK (K := K) rfl (pe_slice (sl_tupAK (K := K) rfl) (pv 1) (po_some pe_int) po_none))) (fun _ _ _ _ _ => pg_name (i := 2) sc_terms_of.nd rfl (Or.inl rfl)) (fun _ _ _ _ _ => pts_nil) (fun _ _ _ _ _ => (pv 2))))), ?_⟩
      exact core (src_list (fun H1 e1 Q q => ⟨_, rfl, q _ H1 (Ex.refl _) ⟨a, rfl, e1 _ _ ha⟩⟩)) H (Ex.refl _) _ fun p H1 hn e1 h1 => k p H1 hn e1 h1
    · refine ⟨_, (pss_one (ps_ret (pe_lc2 (own := [("pattern", 1), ("term", 2)]) (vs1 := [2]) (g := gName 1) (g1 := gName 2) (tt := tYes) (tt1 := tYes) rfl sc_terms_of.nd (pi_tupK (K := K) rfl (pv 0)) (blkOk_by (N := n_terms_of) (sc := defScope s_terms_of) (by decide +kernel)) (by decide) (fun _ _ _ _ _ => pg_name (i := 1) sc_terms_of.nd rfl (Or.inl rfl)) (fun _ _ _ _ _ => pts_nil) (fun _ _ _ _ _ => (pi_tupK (K := K) rfl (pe_slice (sl_tupAK (K := K) rfl) (pv 1) (po_some pe_int) po_none))) (fun _ _ _ _ _ => pg_name (i := 2) sc_terms_of.nd rfl (Or.inl rfl)) (fun _ _ _ _ _ => pts_nil) (fun _ _ _ _ _ => (pv 2))))), ?_⟩
      exact core (src_tup (fun H1 e1 Q q => ⟨_, rfl, q _ H1 (Ex.refl _) ⟨a, rfl, e1 _ _ ha⟩⟩)) H (Ex.refl _) _ fun p H1 hn e1 h1 => k p H1 hn e1 h1
/-- what the top has written of lots -/
structure TV (K : PySem.W.Frag) (mg : Str → Option Value) : Prop where
  n : TN K mg
  m_sorted : mg "sorted" = none
  terms_of : ∃ f fd, DefAt K mg "terms_of" s_terms_of ["lot"] f fd
theorem ok_variables_of {f : Addr} {fd : FuncData} (T : TV K mg) (F : Fun K "variables_of" "variables_of" s_variables_of f fd) : FnOk P w K mg base CX0 3 f fd ["lot"] spVars := by
  have m_sorted := T.m_sorted
  have m_str := T.n.m_str
  obtain ⟨fT, dT, Dterms_of⟩ := T.terms_of
  obtain ⟨fV, dV, Dis_variable⟩ := T.n.is_variable
  have Gterms_of : FnOk P w K mg base CX0 1 fT dT _ spTerms := ok_terms_of Dterms_of.F
  have Gis_variable : FnOk P w K mg base CX0 2 fV dV _ (spB varD) := ok_is_variable T.n Dis_variable.F
  refine F.ok sc_variables_of (fun vs H Q E h => ?_) (fun cdv A outer s H vs Q E hr h => ?_)
  · obtain ⟨v, ps, rfl, _⟩ := h
    rfl
  · obtain ⟨v, ps, rfl, hl, hb, k⟩ := h
    refine ⟨_, (pss_one (ps_ret (pe_callB (cr_sortTxK (w := w) rfl rfl) (by rfl) m_sorted (by decide +kernel) (pa_cons (pe_sg (bagTxK (w := w) rfl) (own := [("term", 1)]) (g := gName 1) rfl sc_variables_of.nd (pi_listK (K := K) rfl (pe_call Gterms_of (hr.mono (by decide)) (by rfl) Dterms_of.g Dterms_of.F.kp Dterms_of.b .nil pass0 (pa_cons (pv 0) pa_nil))) (blkOk_by (N := n_variables_of) (sc := defScope s_variables_of) (by decide +kernel)) (fun _ _ _ _ _ => pg_name (i := 1) sc_variables_of.nd rfl (Or.inl rfl)) (fun _ _ _ _ _ => pts_one (pt_val (pe_call Gis_variable (hr.mono (by decide)) (by rfl) Dis_variable.g Dis_variable.F.kp Dis_variable.b .nil pass0 (pa_cons (pv 1) pa_nil)))) (fun _ _ _ _ _ => (pe_callTy SkE.call_str_str (by rfl) m_str (by decide +kernel) (pa_cons (pv 1) pa_nil)))) pa_nil)))), ?_⟩
    have src : Src1 (iList K (tCall spTerms [] E0 (tCons (tVar 0) tNil))) [some v, none] H ((terms ps).map V.str) := src_list fun H1 e1 Q q =>
      ⟨_, rfl, v, ps, rfl, hl.mono e1, hb, fun p H2 hn e2 h2 => q _ H2 e2 ⟨p, rfl, h2⟩⟩
    have st := el_sorted (w := w) (ep_sg (w := w) (σ := [some v, none]) (H := H) (wi := iList K (tCall spTerms [] E0 (tCons (tVar 0) tNil))) (j := 1) (vs := [1]) (f := varS) (t := tB (tCall (spB varD) [] E0 (tCons (tVar 1) tNil))) (te := tCB (fun xs H Q => ∃ a, xs = [.str a] ∧ Q (.str a) H) (tCons (tVar 1) tNil)) src
      (by have := terms_len hb.2; have := hb.1; omega) (fun _ => rfl)
      (fun x hx H1 e1 => et_B (ev_B (d := .str x) (ev_var rfl) ⟨.str x, fun y e => by cases e; exact Nat.le_trans (terms_in hb.2 hx) (by decide)⟩))
      (fun x hx _ H1 e1 => fun H2 e2 Q q => ⟨_, rfl, x, rfl, q H2 (Ex.refl _)⟩)) (Nat.lt_of_le_of_lt (vars_len hb) (by decide))
    exact st H (Ex.refl _) _ fun v H1 e1 ⟨p, ys, ev, hp, h1, h2⟩ => by
      rw [ev]
      exact k p ys H1 e1 hp h1 h2
end
end G39

/-! texts cut at a sign -/
namespace G39
open PySem PySem.Spec PyProof.Rows L2 Evl PySem.Builtin PySem.Builtin.Str
/-- what stands before the first c, and behind it -/
def cutAt (c : Nat) : List Nat → Option (List Nat × List Nat)
  | [] => none
  | x :: r => if x = c then some ([], r) else (cutAt c r).map fun p => (x :: p.1, p.2)
theorem cutAt_none {c : Nat} : ∀ {l : List Nat}, cutAt c l = none → c ∉ l
  | [], _ => by simp
  | x :: r, h => by
    unfold cutAt at h
    by_cases e : x = c
    · rw [if_pos e] at h
      cases h
    · rw [if_neg e] at h
      have := cutAt_none (l := r) (by simpa using h)
      simp [this, Ne.symm e]
theorem cutAt_some {c : Nat} : ∀ {l a b : List Nat}, cutAt c l = some (a, b) → l = a ++ c :: b ∧ c ∉ a
  | [], _, _, h => by cases h
  | x :: r, a, b, h => by
    unfold cutAt at h
    by_cases e : x = c
    · rw [if_pos e] at h
      cases h
      simp [e]
    · rw [if_neg e] at h
      cases q : cutAt c r with
      | none =>
        rw [q] at h
        cases h
      | some p =>
        rw [q] at h
        cases h
        obtain ⟨h1, h2⟩ := cutAt_some (l := r) (a := p.1) (b := p.2) q
        refine ⟨by rw [List.cons_append, ← h1], ?_⟩
        simp [h2, Ne.symm e]
theorem cutAt_of {c : Nat} : ∀ {a b : List Nat}, c ∉ a → cutAt c (a ++ c :: b) = some (a, b)
  | [], b, _ => by simp [cutAt]
  | x :: r, b, h => by
    have hx : ¬ x = c := fun e => h (by rw [e]; exact List.mem_cons_self ..)
    have := cutAt_of (a := r) (b := b) fun z => h (List.mem_cons_of_mem _ z)
    rw [List.cons_append]
    unfold cutAt
    rw [if_neg hx, this]
    rfl
theorem sign_at (x : Str) (c i : Nat) : StrLaws.At x ⟨#[c]⟩ x.length i ↔ x.cps.toList[i]? = some c := StrLaws.subAt_one x c i
theorem first_at {c : Nat} {a b : List Nat} (h : c ∉ a) {i : Nat} (hi : (a ++ c :: b)[i]? = some c) (hn : ∀ k, k < i → ¬ (a ++ c :: b)[k]? = some c) : i = a.length := by
  rcases Nat.lt_trichotomy i a.length with z | z | z
  · rw [List.getElem?_append_left z] at hi
    exact absurd (List.mem_of_getElem? hi) h
  · exact z
  · exact absurd (by rw [List.getElem?_append_right (Nat.le_refl _)]; simp) (hn a.length z)
theorem part_none {x : Str} {c : Nat} (h : c ∉ x.cps.toList) : Txt.partition x ⟨#[c]⟩ = (x, Str.empty, Str.empty) := by
  rcases partition_whole x ⟨#[c]⟩ with ⟨h1, _⟩ | ⟨i, _, hi, _⟩
  · exact h1
  · exact absurd (List.mem_of_getElem? ((sign_at x c i).mp hi)) h
theorem part_some {x : Str} {c : Nat} {a b : List Nat} (e : x.cps.toList = a ++ c :: b) (h : c ∉ a) : Txt.partition x ⟨#[c]⟩ = (ofC a, ⟨#[c]⟩, ofC b) := by
  rcases partition_whole x ⟨#[c]⟩ with ⟨_, hn⟩ | ⟨i, hp, hi, hn⟩
  · exact absurd ((sign_at x c a.length).mpr (by rw [e, List.getElem?_append_right (Nat.le_refl _)]; simp)) (hn a.length)
  · have hi' := (sign_at x c i).mp hi
    rw [e] at hi'
    have ei := first_at h hi' fun k hk z => hn k hk ((sign_at x c k).mpr (by rw [e]; exact z))
    subst ei
    rw [hp]
    refine Prod.ext (str_ext ?_) (Prod.ext rfl (str_ext ?_))
    · show (strSub x 0 a.length).cps.toList = _
      rw [StrLaws.strSub_toList, e, ofC_cps]
      simp
    · show (strSub x (a.length + 1) x.length).cps.toList = _
      rw [StrLaws.strSub_toList, ofC_cps]
      have e1 : x.length = (a ++ c :: b).length := by rw [← e, len_cps]
      have e2 : x.cps.toList.drop (a.length + 1) = b := by
        rw [e, List.drop_append, List.drop_of_length_le (by omega)]
        simp
      rw [e2]
      exact List.take_of_length_le (by rw [e1]; simp; omega)
theorem find_none {x : Str} {c : Nat} (h : c ∉ x.cps.toList) : Txt.find x ⟨#[c]⟩ = -1 := by
  rcases find_whole x ⟨#[c]⟩ with ⟨h1, _⟩ | ⟨i, _, hi, _⟩
  · exact h1
  · exact absurd (List.mem_of_getElem? ((sign_at x c i).mp hi)) h
theorem find_some {x : Str} {c : Nat} {a b : List Nat} (e : x.cps.toList = a ++ c :: b) (h : c ∉ a) : Txt.find x ⟨#[c]⟩ = (a.length : Int) := by
  rcases find_whole x ⟨#[c]⟩ with ⟨_, hn⟩ | ⟨i, hp, hi, hn⟩
  · exact absurd ((sign_at x c a.length).mpr (by rw [e, List.getElem?_append_right (Nat.le_refl _)]; simp)) (hn a.length)
  · have hi' := (sign_at x c i).mp hi
    rw [e] at hi'
    have ei := first_at h hi' fun k hk z => hn k hk ((sign_at x c k).mpr (by rw [e]; exact z))
    rw [hp, ei]
/-! texts joined by a sign, and split again -/
theorem join_cps (c : Nat) (x : Str) (y : Str) (r : List Str) : (Str.join ⟨#[c]⟩ (x :: y :: r)).cps.toList = x.cps.toList ++ c :: (Str.join ⟨#[c]⟩ (y :: r)).cps.toList := by
  show ((x ++ ⟨#[c]⟩) ++ Str.join ⟨#[c]⟩ (y :: r)).cps.toList = _
  rw [cps_add, cps_add]
  simp
theorem join_inj (c : Nat) : ∀ (ys zs : List Str), ys ≠ [] → zs ≠ [] → (∀ y ∈ ys, c ∉ y.cps.toList) → (∀ y ∈ zs, c ∉ y.cps.toList) → (Str.join ⟨#[c]⟩ ys).cps.toList = (Str.join ⟨#[c]⟩ zs).cps.toList → ys = zs
  | [], _, h, _, _, _, _ => absurd rfl h
  | _, [], _, h, _, _, _ => absurd rfl h
  | [y], [z], _, _, _, _, e => by rw [str_ext (x := y) (y := z) e]
  | [y], z :: z2 :: r, _, _, h1, _, e => by
    rw [join_cps] at e
    have e : y.cps.toList = _ := e
    exact absurd (by rw [e]; simp) (h1 y (List.mem_cons_self ..))
  | y :: y2 :: r, [z], _, _, _, h2, e => by
    rw [join_cps] at e
    have e : _ = z.cps.toList := e
    exact absurd (by rw [← e]; simp) (h2 z (List.mem_cons_self ..))
  | y :: y2 :: r, z :: z2 :: q, _, _, h1, h2, e => by
    rw [join_cps, join_cps] at e
    have a1 := cutAt_of (b := (Str.join ⟨#[c]⟩ (y2 :: r)).cps.toList) (h1 y (List.mem_cons_self ..))
    have a2 := cutAt_of (b := (Str.join ⟨#[c]⟩ (z2 :: q)).cps.toList) (h2 z (List.mem_cons_self ..))
    rw [e, a2] at a1
    cases Option.some.inj a1 ▸ (rfl : (z.cps.toList, (Str.join ⟨#[c]⟩ (z2 :: q)).cps.toList) = _) with
    | refl =>
      have b1 : z.cps.toList = y.cps.toList := congrArg Prod.fst (Option.some.inj a1)
      have b2 : (Str.join ⟨#[c]⟩ (z2 :: q)).cps.toList = (Str.join ⟨#[c]⟩ (y2 :: r)).cps.toList := congrArg Prod.snd (Option.some.inj a1)
      rw [str_ext b1, join_inj c (y2 :: r) (z2 :: q) (by simp) (by simp) (fun w hw => h1 w (List.mem_cons_of_mem _ hw)) (fun w hw => h2 w (List.mem_cons_of_mem _ hw)) b2.symm]
theorem split_join {c : Nat} {ys : List Str} (h0 : ys ≠ []) (h : ∀ y ∈ ys, c ∉ y.cps.toList) : Txt.split (Str.join ⟨#[c]⟩ ys) ⟨#[c]⟩ = ys := by
  refine join_inj c _ ys (fun z => ?_) h0 (StrLaws.split_free _ c) h (by rw [StrLaws.join_split])
  have := split_pos (Str.join ⟨#[c]⟩ ys) ⟨#[c]⟩
  rw [z] at this
  cases this
/-- a part of a text split is no longer than it -/
theorem split_each {x : Str} {c : Nat} {y : Str} (h : y ∈ Txt.split x ⟨#[c]⟩) : y.length ≤ x.length := by
  have w := split_weight x ⟨#[c]⟩ (Nat.le_refl 1)
  have : y.length ≤ ((Txt.split x ⟨#[c]⟩).map (·.length)).sum := by
    generalize Txt.split x ⟨#[c]⟩ = l at h
    clear w
    induction l with
    | nil => cases h
    | cons a l ih =>
      rw [List.map_cons, List.sum_cons]
      rcases List.mem_cons.mp h with rfl | h
      · omega
      · have := ih h
        omega
  have p := split_pos x ⟨#[c]⟩
  omega
theorem split_len (x : Str) (c : Nat) : (Txt.split x ⟨#[c]⟩).length ≤ x.length + 1 := by
  have w := split_weight x ⟨#[c]⟩ (Nat.le_refl 1)
  omega
/-! cuts of a text -/
/-- x[-1:] -/
theorem cut_last (z : Str) : (cutS z (some (-1)) none).cps.toList = z.cps.toList.drop (z.cps.toList.length - 1) := by
  have e : HT.sIx z.length 0 (some (-1)) = z.length - 1 := by
    unfold HT.sIx
    simp
    try omega
  show ((z.cps.toList.drop (HT.sIx z.length 0 (some (-1)))).take (HT.sIx z.length z.length none - HT.sIx z.length 0 (some (-1)))).toArray.toList = _
  rw [e, HT.sIx_none, ← len_cps]
  simp only [List.toList_toArray]
  exact List.take_of_length_le (by simp)
/-- x[:-1] -/
theorem cut_init (z : Str) : (cutS z none (some (-1))).cps.toList = z.cps.toList.dropLast := by
  have e : HT.sIx z.length z.length (some (-1)) = z.length - 1 := by
    unfold HT.sIx
    simp
    try omega
  show ((z.cps.toList.drop (HT.sIx z.length 0 none)).take (HT.sIx z.length z.length (some (-1)) - HT.sIx z.length 0 none)).toArray.toList = _
  rw [e, HT.sIx_none, ← len_cps]
  simp only [List.toList_toArray, List.drop_zero, Nat.sub_zero]
  rw [List.dropLast_eq_take]
/-- x[:n] -/
theorem cut_to (z : Str) {n : Nat} (h : n ≤ z.length) : (cutS z none (some (n : Int))).cps.toList = z.cps.toList.take n := by
  have e : HT.sIx z.length z.length (some (n : Int)) = min n z.length := HT.sIx_nat z.length z.length n
  show ((z.cps.toList.drop (HT.sIx z.length 0 none)).take (HT.sIx z.length z.length (some (n : Int)) - HT.sIx z.length 0 none)).toArray.toList = _
  rw [e, HT.sIx_none]
  simp only [List.toList_toArray, List.drop_zero, Nat.sub_zero]
  rw [Nat.min_eq_left h]
/-- x[n:] -/
theorem cut_from (z : Str) (n : Nat) : (cutS z (some (n : Int)) none).cps.toList = z.cps.toList.drop n := by
  have e : HT.sIx z.length 0 (some (n : Int)) = min n z.length := HT.sIx_nat z.length 0 n
  show ((z.cps.toList.drop (HT.sIx z.length 0 (some (n : Int)))).take (HT.sIx z.length z.length none - HT.sIx z.length 0 (some (n : Int)))).toArray.toList = _
  rw [e, HT.sIx_none, ← len_cps]
  simp only [List.toList_toArray]
  rcases Nat.le_total n z.cps.toList.length with h | h
  · rw [Nat.min_eq_left h]
    exact List.take_of_length_le (by simp)
  · rw [Nat.min_eq_right h, List.drop_of_length_le h, List.drop_of_length_le (Nat.le_refl _)]
    simp
/-- x[n:-1] -/
theorem cut_mid (z : Str) (n : Nat) : (cutS z (some (n : Int)) (some (-1))).cps.toList = (z.cps.toList.drop n).dropLast := by
  have e : HT.sIx z.length 0 (some (n : Int)) = min n z.length := HT.sIx_nat z.length 0 n
  have e2 : HT.sIx z.length z.length (some (-1)) = z.length - 1 := by
    unfold HT.sIx
    simp
    try omega
  show ((z.cps.toList.drop (HT.sIx z.length 0 (some (n : Int)))).take (HT.sIx z.length z.length (some (-1)) - HT.sIx z.length 0 (some (n : Int)))).toArray.toList = _
  rw [e, e2, ← len_cps]
  simp only [List.toList_toArray]
  rw [List.dropLast_eq_take, List.length_drop]
  rcases Nat.le_total n z.cps.toList.length with h | h
  · rw [Nat.min_eq_left h]
    congr 1
    omega
  · rw [Nat.min_eq_right h, List.drop_of_length_le h, List.drop_of_length_le (Nat.le_refl _)]
    simp
end G39
namespace G39
open PySem PySem.Spec PyProof.Rows L2 Evl PySem.Builtin PySem.Builtin.Str
theorem join_mem (c : Nat) : ∀ (l : List Str) (y : Str), y ∈ l → ∀ d ∈ y.cps.toList, d ∈ (Str.join ⟨#[c]⟩ l).cps.toList
  | [], _, h, _, _ => (nomatch h)
  | [x], y, h, d, hd => by
    rw [List.mem_singleton.mp h] at hd
    exact hd
  | x :: z :: r, y, h, d, hd => by
    rw [join_cps]
    rcases List.mem_cons.mp h with rfl | h
    · exact List.mem_append_left _ hd
    · exact List.mem_append_right _ (List.mem_cons_of_mem _ (join_mem c (z :: r) y h d hd))
theorem split_mem {x : Str} {c : Nat} {y : Str} (h : y ∈ Txt.split x ⟨#[c]⟩) {d : Nat} (hd : d ∈ y.cps.toList) : d ∈ x.cps.toList := by
  have := join_mem c _ y h d hd
  rwa [StrLaws.join_split] at this
end G39

namespace G39
open PySem PySem.Spec PyProof.Rows L2 Evl
abbrev s_filled : Stmt := topS 11
abbrev n_filled : List Str := ["pattern", "known", "term"]
theorem sc_filled : FnScope n_filled ["pattern", "known"] (defScope s_filled) := ⟨rfl, rfl, rfl, by decide +kernel, rfl, by decide +kernel, by decide +kernel⟩
abbrev s_pattern_text : Stmt := topS 12
abbrev n_pattern_text : List Str := ["pattern"]
theorem sc_pattern_text : FnScope n_pattern_text ["pattern"] (defScope s_pattern_text) := ⟨rfl, rfl, rfl, by decide +kernel, rfl, by decide +kernel, by decide +kernel⟩
abbrev s_read_pattern : Stmt := topS 13
abbrev n_read_pattern : List Str := ["text", "table", "bracket", "rest", "terms", "pattern"]
theorem sc_read_pattern : FnScope n_read_pattern ["text"] (defScope s_read_pattern) := ⟨rfl, rfl, rfl, by decide +kernel, rfl, by decide +kernel, by decide +kernel⟩
theorem pa_starK {X : Cx} {K : PySem.W.Frag} {e : Expr} {p : Pos} {es : List Expr} {te : TE} {t : TA} (h : X.K = K) (he : PE X e te) (hr : PA X es t) (hs : starEach (.Starred e p :: es) X.env = (true, eval e X.env) :: starEach es X.env := by rfl) : PA X (.Starred e p :: es) (StX.tStar K te t) := by
  subst h
  exact StX.pa_star he hr hs
/-! filled -/
/-- a dict of texts by texts -/
def AllS (kvs : List (Key × V)) : Prop := ∀ kv ∈ kvs, ∃ y : Str, kv.2 = .str y
def getV (kvs : List (Key × V)) (x : Str) : V := (valV kvs (.inr x)).getD (.str x)
def getS (kvs : List (Key × V)) (x : Str) : Str := match getV kvs x with
  | .str y => y
  | _ => x
theorem valV_mem {kvs : List (Key × V)} {k : Key} {v : V} (h : valV kvs k = some v) : ∃ kv ∈ kvs, kv.2 = v := by
  unfold valV at h
  cases q : kvs.find? (fun kv => decide (kv.1 = k)) with
  | none =>
    rw [q] at h
    cases h
  | some kv =>
    rw [q] at h
    exact ⟨kv, List.mem_of_find?_eq_some q, by simpa using h⟩
theorem getV_eq {kvs : List (Key × V)} (h : AllS kvs) (x : Str) : getV kvs x = .str (getS kvs x) := by
  unfold getS getV
  cases q : valV kvs (.inr x) with
  | none => rfl
  | some v =>
    obtain ⟨kv, hm, e⟩ := valV_mem q
    obtain ⟨y, hy⟩ := h kv hm
    rw [← e, hy]
    rfl
def fillS (kvs : List (Key × V)) : List Str → List Str
  | [] => []
  | t :: r => t :: r.map (getS kvs)
def spFilled : Sp := fun vs H Q _ => ∃ (v : V) (d : Addr) (p : List Str) (kvs : List (Key × V)), vs = [v, .ref d] ∧ Pt H v p ∧ PB p ∧ H d = some (.dK kvs) ∧ AllS kvs ∧ ∀ a H', H a = none → Ex H H' → H' a = some (.tup ((fillS kvs p).map V.str)) → Q (.ref a) H'
section
variable {P : Program} {w : World} {K : PySem.W.Frag} {mg : Str → Option Value} {base : Heap}
/-- d.get(x, x) -/
theorem ev_get2 {σ : L2.St} {H : Hp} {td ty tx : TE} {d : Addr} {kvs : List (Key × V)} {x : Str} (hd : Ev td σ H (.ref d)) (hy : Ev ty σ H (.str x)) (hx : Ev tx σ H (.str x)) (h : H d = some (.dK kvs)) (hk : AllS kvs) : Ev (tDGet2 td ty tx) σ H (.str (getS kvs x)) := fun H1 e Q q =>
  hd H1 e _ fun H2 e2 => ⟨d, rfl, .inl ⟨kvs, .inl ((e.trans e2) _ _ h)⟩, hy H2 (e.trans e2) _ fun H3 e3 => hx H3 (e.trans (e2.trans e3)) _ fun H4 e4 =>
    ⟨_, DGet.k (k := .inr x) ((e.trans (e2.trans (e3.trans e4))) _ _ h), by
      have z : (valV kvs (.inr x)).getD (.str x) = .str (getS kvs x) := getV_eq hk x
      rw [z]
      exact q H4 (e2.trans (e3.trans e4))⟩⟩
/-- [g(x) for x in p[1:]] -/
theorem el_rest {σ : L2.St} {H : Hp} {te tv : TE} {j : Nat} {vs : List Nat} {a : Addr} {p : List Str} {g : Str → Str} (hv : Ev tv σ H (.ref a)) (ha : H a = some (.tup (p.map V.str))) (hl : p.length ≤ 40000) (hw : ∀ x, wipe ((wipe σ vs).set j (some x)) vs = wipe σ vs)
    (he : ∀ x ∈ p.drop 1, ∀ H1, Ex H H1 → Ev te ((wipe σ vs).set j (some (.str x))) H1 (.str (g x))) :
    EvL (tLc (iTup K (tSl (rSlA K) tv (tPart (tC (.int 1))) tNoPart)) (gName j) tYes te vs) σ H (((p.drop 1).map g).map V.str) := by
  have z := el_cT (K := K) (σ := σ) (H := H) (j := j) (vs := vs) (t := tYes) (te := te) (xs := (p.map V.str).drop 1) (f := fun _ => true) (g := fun v => match v with | .str x => .str (g x) | v => v) (ep_tailT (K := K) hv ha)
    (by rw [List.length_drop, List.length_map]; omega) hw (fun _ _ H1 _ => fun H2 _ Q q => q H2 (Ex.refl _)) (fun v hv _ H1 e1 => by
      rw [← List.map_drop] at hv
      obtain ⟨x, hx, rfl⟩ := List.mem_map.mp hv
      exact he x hx H1 e1)
  have e : ((p.map V.str).drop 1).filter (fun _ => true) = (p.map V.str).drop 1 := by simp
  rw [e, ← List.map_drop, List.map_map] at z
  rw [List.map_map]
  exact z
theorem ok_filled {f : Addr} {fd : FuncData} (F : Fun K "filled" "filled" s_filled f fd) : FnOk P w K mg base CX0 1 f fd ["pattern", "known"] spFilled := by
  refine F.ok sc_filled (fun vs H Q E h => ?_) (fun cdv A outer s H vs Q E hr h => ?_)
  · obtain ⟨v, d, p, kvs, rfl, _⟩ := h
    rfl
  · obtain ⟨v, d, p, kvs, rfl, ⟨a, rfl, ha⟩, hb, hd, hk, k⟩ := h
    refine ⟨_, (pss_one (ps_ret (pe_tup (pa_cons (pe_ix (ix_tupK (K := K) rfl) (pv 0) pe_int (fun _ _ => rfl)) (pa_starK (K := K) rfl (pe_lc (own := [("term", 2)]) (g := gName 2) (tt := tYes) rfl sc_filled.nd (pi_tupK (K := K) rfl (pe_slice (sl_tupAK (K := K) rfl) (pv 0) (po_some pe_int) po_none)) (blkOk_by (N := n_filled) (sc := defScope s_filled) (by decide +kernel)) (fun _ _ _ _ _ => pg_name (i := 2) sc_filled.nd rfl (Or.inl rfl)) (fun _ _ _ _ _ => pts_nil) (fun _ _ _ _ _ => (pe_dget2 (Nat.lt_of_le_of_lt (Nat.add_le_add_left (by decide) _) hr.units) (pv 1) (pv 2) (pv 2) ⟨rfl, rfl, rfl, rfl⟩))) pa_nil))))), ?_⟩
    cases p with
    | nil => exact absurd hb.1 (by simp)
    | cons t r =>
      refine ⟨_, rfl, a, _, _, _, rfl, rfl, st_of ha, atI_nat (j := 0) rfl, ?_⟩
      refine el_rest (p := t :: r) (g := getS kvs) (ev_var rfl) ha (by have := hb.2.1; omega) (fun _ => rfl) (fun x hx H1 e1 => ev_get2 (ev_var rfl) (ev_var rfl) (ev_var rfl) (e1 _ _ hd) hk) H (Ex.refl _) _ fun q H1 hq e1 h1 => ?_
      refine ⟨q, _, rfl, .inr (sq_of h1), ?_⟩
      refine ⟨?_, fun b hb2 => ?_⟩
      · have := hb.2.1
        simp only [List.length_cons, List.length_append, List.length_map, List.length_drop, List.length_nil] at this ⊢
        exact sz_of (by omega)
      · have z := k b _ (fresh_back e1 hb2) (e1.trans (Ex.new hb2)) (by rw [upd_same])
        simpa [fillS] using z
/-! the text of a pattern -/
def comma : Str := ⟨#[44]⟩
def textS : List Str → Str
  | [] => Str.empty
  | t :: r => ((t ++ "(") ++ Str.join comma r) ++ ")"
theorem join_len : ∀ (r : List Str), (∀ x ∈ r, x.length ≤ 20) → (Str.join comma r).length ≤ 21 * r.length
  | [], _ => by show (0:Nat) ≤ _; omega
  | [x], h => by
    have := h x (List.mem_cons_self ..)
    show x.length ≤ _
    simp
    omega
  | x :: y :: r, h => by
    have ih := join_len (y :: r) fun z hz => h z (List.mem_cons_of_mem _ hz)
    have hx := h x (List.mem_cons_self ..)
    show ((x ++ comma) ++ Str.join comma (y :: r)).length ≤ _
    rw [len_add, len_add]
    have : comma.length = 1 := rfl
    simp only [List.length_cons] at ih ⊢
    omega
theorem sum_len : ∀ (r : List Str), (∀ x ∈ r, x.length ≤ 20) → (r.map (·.length)).sum ≤ 20 * r.length
  | [], _ => by simp
  | x :: r, h => by
    have ih := sum_len r fun z hz => h z (List.mem_cons_of_mem _ hz)
    have hx := h x (List.mem_cons_self ..)
    simp only [List.map_cons, List.sum_cons, List.length_cons]
    omega
theorem tjoin_eq (a : Str) (ys : List Str) : Txt.join a ys = Str.join a ys := by
  unfold Txt.join
  first | exact StrLaws.glued_eq_join a ys | (split <;> first | rfl | exact StrLaws.glued_eq_join a ys)
theorem text_len {p : List Str} (h : PB p) : (textS p).length ≤ 200 := by
  cases p with
  | nil => decide
  | cons t r =>
    have h1 := h.2.2 t (List.mem_cons_self ..)
    have h2 := join_len r fun x hx => h.2.2 x (List.mem_cons_of_mem _ hx)
    have h3 := h.2.1
    show (((t ++ "(") ++ Str.join comma r) ++ ")").length ≤ 200
    rw [len_add, len_add, len_add]
    have e1 : ("(" : Str).length = 1 := rfl
    have e2 : (")" : Str).length = 1 := rfl
    simp only [List.length_cons] at h3
    omega
def spText : Sp := fun vs H Q _ => ∃ (v : V) (p : List Str), vs = [v] ∧ Pt H v p ∧ PB p ∧ ∀ H', Ex H H' → Q (.str (textS p)) H'
/-- ','.join(..) -/
theorem ev_join {σ : L2.St} {H : Hp} {te ts : TE} {s : Str} {ys : List Str} (hs : Ev ts σ H (.str s)) (h : EvP te σ H fun v H' => ∃ a, v = .ref a ∧ (H' a = some (.tup (ys.map V.str)) ∨ H' a = some (.lst (ys.map V.str)))) (hl : (ys.map (·.length)).sum + ys.length * s.length ≤ 16777216) :
    Ev (tBM K "str" (rJoin K) ts (tCons te tNil)) σ H (.str (Str.join s ys)) := fun H1 e Q q =>
  hs H1 e _ fun H2 e2 => ⟨rfl, h H2 (e.trans e2) _ fun v H3 e3 ⟨a, ev, ha⟩ => ⟨s, a, ys, rfl, by rw [ev], ha.elim (fun z => .inr (st_of z)) (fun z => .inl (sq_of z)), hl, by
    rw [tjoin_eq]
    exact q H3 (e2.trans e3)⟩⟩
theorem ok_pattern_text {f : Addr} {fd : FuncData} (F : Fun K "pattern_text" "pattern_text" s_pattern_text f fd) : FnOk P w K mg base CX0 1 f fd ["pattern"] spText := by
  refine F.ok sc_pattern_text (fun vs H Q E h => ?_) (fun cdv A outer s H vs Q E hr h => ?_)
  · obtain ⟨v, p, rfl, _⟩ := h
    rfl
  · obtain ⟨v, p, rfl, ⟨a, rfl, ha⟩, hb, k⟩ := h
    refine ⟨_, (pss_one (ps_ret (pe_joined (PJ.cons (pe_fmt (pe_ix (ix_tupK (K := K) rfl) (pv 0) pe_int (fun _ _ => rfl))) (PJ.cons pe_str (PJ.cons (pe_fmt (pe_bm PySem.F.plainAttrs_str PySem.F.slot_str_join PySem.F.type_str_join (mt_joinK (K := K) rfl) pe_str (pa_cons (pe_slice (sl_tupAK (K := K) rfl) (pv 0) (po_some pe_int) po_none) pa_nil))) (PJ.cons pe_str PJ.nil))))))), ?_⟩
    cases p with
    | nil => exact absurd hb.1 (by simp)
    | cons t r =>
      have h1 := hb.2.2 t (List.mem_cons_self ..)
      have h2 := join_len r fun x hx => hb.2.2 x (List.mem_cons_of_mem _ hx)
      have h4 := sum_len r fun x hx => hb.2.2 x (List.mem_cons_of_mem _ hx)
      have h3 := hb.2.1
      simp only [List.length_cons] at h3
      have e1 : ("(" : Str).length = 1 := rfl
      have e2 : (")" : Str).length = 1 := rfl
      have em : Str.empty ++ t = t := Str.empty_append t
      refine ⟨_, rfl, a, _, _, _, rfl, rfl, st_of ha, atI_nat (j := 0) rfl, .inl ⟨t, rfl, sz_of (by omega), t, rfl, ?_, ?_⟩⟩
      · rw [em]
        exact sz_of (by omega)
      · refine ⟨"(", rfl, ?_, ?_⟩
        · rw [em, len_add]
          exact sz_of (by omega)
        · have jn := ev_join (K := K) (σ := [some (V.ref a)]) (H := H) (ts := tC (.str ",")) (s := comma) (ys := r) (te := tSl (rSlA K) (tVar 0) (tPart (tC (.int 1))) tNoPart) ev_c (fun H1 e1 Q q => ep_tailT (ev_var rfl) ha H1 e1 _ fun v H2 e2 ⟨b, ev, hb⟩ => q v H2 e2 ⟨b, ev, .inl (by simpa using hb)⟩) (by
            have : comma.length = 1 := rfl
            rw [this]
            omega)
          refine jn H (Ex.refl _) _ fun H1 e3 => .inl ⟨_, rfl, sz_of (by omega), _, rfl, ?_, ")", rfl, ?_, ?_⟩
          · rw [em, len_add, len_add]
            exact sz_of (by omega)
          · rw [em, len_add, len_add, len_add]
            exact sz_of (by omega)
          · rw [em]
            exact k H1 e3
end
end G39

namespace G39
open PySem PySem.Spec PyProof.Rows L2 Evl
def partsC (a b : List Nat) : List Str := ofC a :: (if b.dropLast = [] then [] else Txt.split (ofC b.dropLast) comma)
/-- what a text is read as -/
def readS (x : Str) : Option (List Str) := match cutAt 40 x.cps.toList with
  | none => none
  | some (a, b) => if b.getLast? = some 41 then (if patD (.tuple ((partsC a b).map .str)) = true then some (partsC a b) else none) else none
def spRead : Sp := fun vs H Q _ => ∃ x : Str, vs = [.str x] ∧ x.length ≤ 5000 ∧ (readS x = none → ∀ H', Ex H H' → Q .non H') ∧ (∀ p, readS x = some p → ∀ a H', H a = none → Ex H H' → H' a = some (.tup (p.map V.str)) → Q (.ref a) H')
theorem last_of : ∀ (l : List Nat) (c : Nat), l.drop (l.length - 1) = [c] ↔ l.getLast? = some c
  | [], c => by simp
  | x :: r, c => by
    have e : x :: r = (x :: r).dropLast ++ [(x :: r).getLast (by simp)] := (List.dropLast_concat_getLast (by simp)).symm
    generalize (x :: r).dropLast = d at e
    generalize (x :: r).getLast (by simp) = y at e
    rw [e]
    simp
theorem parts_len {x : Str} {a b : List Nat} (h : cutAt 40 x.cps.toList = some (a, b)) (hx : x.length ≤ 5000) : (partsC a b).length ≤ 6000 ∧ ∀ y ∈ partsC a b, y.length ≤ 6000 := by
  obtain ⟨e, _⟩ := cutAt_some h
  have el : a.length + b.length + 1 = x.length := by
    rw [← len_cps x, e]
    simp
    omega
  have e2 := split_len (ofC b.dropLast) 44
  have e3 : (ofC b.dropLast).length ≤ b.length := by rw [len_ofC]; simp
  unfold partsC
  refine ⟨?_, fun y hy => ?_⟩
  · by_cases q : b.dropLast = []
    · rw [if_pos q]
      simp
    · rw [if_neg q, List.length_cons]
      show (Txt.split (ofC b.dropLast) ⟨#[44]⟩).length + 1 ≤ _
      omega
  · rcases List.mem_cons.mp hy with rfl | hy
    · rw [len_ofC]
      omega
    · by_cases q : b.dropLast = []
      · rw [if_pos q] at hy
        cases hy
      · rw [if_neg q] at hy
        have := split_each hy
        omega
section
variable {P : Program} {w : World} {K : PySem.W.Frag} {mg : Str → Option Value} {base : Heap}
theorem ev_neg1 {σ : L2.St} {H : Hp} : Ev (tUn (rU fun i => .int (-i)) (tC (.int 1))) σ H (.int (-1)) := ev_un ev_c ru_neg
/-- a text split into a new list -/
theorem el_split {σ : L2.St} {H : Hp} {to te : TE} {x y : Str} (ho : Ev to σ H (.str x)) (he : Ev te σ H (.str y)) (hy : (y.length == 0) = false) (hx : x.length ≤ 90000) :
    EvL (tBM K "str" (fun x xs H Q => ∃ a b, x = .str a ∧ xs = [.str b] ∧ (b.length == 0) = false ∧ a.length + 2 ≤ sizeLine ∧ rNewStrs (Txt.split a b) H Q) to (tCons te tNil)) σ H ((Txt.split x y).map V.str) := fun H1 e Q q =>
  ho H1 e _ fun H2 e2 => ⟨rfl, he H2 (e.trans e2) _ fun H3 e3 => ⟨x, y, rfl, rfl, hy, sz_of (by omega), fun p hp => q p _ (fresh_back (e2.trans e3) hp) ((e2.trans e3).trans (Ex.new hp)) upd_same⟩⟩
theorem el_if {σ : L2.St} {H : Hp} {t : TT} {ta tb : TE} {xs : List V} {b : Bool} (h : EvT t σ H b) (h1 : b = true → EvL ta σ H xs) (h2 : b = false → EvL tb σ H xs) : EvL (tIf t ta tb) σ H xs := fun H1 e Q q => h H1 e _ fun H2 e2 => by
  cases b with
  | true =>
    rw [if_pos rfl]
    exact h1 rfl H2 (e.trans e2) _ fun p H3 hp e3 h3 => q p H3 (fresh_back e2 hp) (e2.trans e3) h3
  | false =>
    rw [if_neg Bool.false_ne_true]
    exact h2 rfl H2 (e.trans e2) _ fun p H3 hp e3 h3 => q p H3 (fresh_back e2 hp) (e2.trans e3) h3
theorem eu_star1 {σ : L2.St} {H : Hp} {te tl : TE} {v : V} {l : Addr} {xs : List V} (h1 : Ev te σ H v) (h2 : Ev tl σ H (.ref l)) (hl : H l = some (.lst xs)) (hz : xs.length ≤ 90000) : EvU (tTup (tCons te (StX.tStar K tl tNil))) σ H (v :: xs) := fun H1 e Q q =>
  h1 H1 e _ fun H2 e2 => h2 H2 (e.trans e2) _ fun H3 e3 => ⟨l, xs, rfl, .inr (sq_of ((e.trans (e2.trans e3)) _ _ hl)), by
    show (v :: (xs ++ [])).length ≤ sizeLine ∧ ∀ p, H3 p = none → Q (V.ref p) (upd H3 p (.tup (v :: (xs ++ []))))
    rw [List.append_nil]
    exact ⟨sz_of (by rw [List.length_cons]; omega), fun p hp => q p _ (fresh_back (e2.trans e3) hp) ((e2.trans e3).trans (Ex.new hp)) upd_same⟩⟩
theorem AtS {H : Hp} {a : Addr} {p : List Str} (h : H a = some (.tup (p.map V.str))) : At H (.ref a) (.tuple (p.map .str)) := .tup h (AtAll.strs p)
theorem AnyS {H : Hp} {a : Addr} {p : List Str} (h : H a = some (.tup (p.map V.str))) (h1 : p.length ≤ 6000) (h2 : ∀ y ∈ p, y.length ≤ 6000) : AnyT H (.ref a) (.tuple (p.map .str)) :=
  ⟨⟨AtS h, fun x e => by cases e⟩, fun xs e => by
    cases e
    refine ⟨by rw [List.length_map]; omega, fun x hx => ?_⟩
    obtain ⟨y, hy, e⟩ := List.mem_map.mp hx
    have e : y = x := PyData.str.inj e
    rw [← e]
    have := h2 y hy
    omega⟩
theorem ok_read_pattern {f : Addr} {fd : FuncData} (T : TN K mg) (Dp : ∃ f fd, DefAt K mg "is_pattern" s_is_pattern ["value"] f fd) (F : Fun K "read_pattern" "read_pattern" s_read_pattern f fd) : FnOk P w K mg base CX0 4 f fd ["text"] spRead := by
  obtain ⟨fP, dP, Dis_pattern⟩ := Dp
  have Gis_pattern : FnOk P w K mg base CX0 3 fP dP _ (spBT patD) := ok_is_pattern T Dis_pattern.F
  refine F.ok sc_read_pattern (fun vs H Q E h => ?_) (fun cdv A outer s H vs Q E hr h => ?_)
  · obtain ⟨x, rfl, _⟩ := h
    rfl
  · obtain ⟨x, rfl, hx, kn, ks⟩ := h
    refine ⟨_, (pss_cons (ps_asg (pe_partition (pv 0) pe_str) (pg_tup (by rfl) (pgs_cons (pg_name (i := 1) sc_read_pattern.nd rfl (Or.inl rfl)) (pgs_cons (pg_name (i := 2) sc_read_pattern.nd rfl (Or.inl rfl)) (pgs_cons (pg_name (i := 3) sc_read_pattern.nd rfl (Or.inl rfl)) pgs_nil)))))
      (pss_cons (ps_if (PW.pt (pw_or (pt_cmpR op_eq (pv 2) pe_str (nomark _)) (pw_or1 (pt_cmpR op_ne (pe_slice sl_str (pv 3) (po_some (pe_un un_neg pe_int)) po_none) pe_str (nomark _))))) (pss_one (ps_ret pe_non)) pss_nil)
      (pss_cons (ps_set (i := 4) sc_read_pattern.nd rfl (Or.inl rfl) (pe_ifExp (pt_cmpR op_ne (pv 3) pe_str (nomark _)) (pe_bm PySem.F.plainAttrs_str PySem.F.slot_str_split PySem.F.type_str_split mt_split (pe_slice sl_str (pv 3) po_none (po_some (pe_un un_neg pe_int))) (pa_cons pe_str pa_nil)) (pe_lst pa_nil)))
      (pss_cons (ps_set (i := 5) sc_read_pattern.nd rfl (Or.inl rfl) (pe_tup (pa_cons (pv 1) (pa_starK (K := K) rfl (pv 4) pa_nil))))
      (pss_one (ps_ret (pe_ifExp (pt_val (pe_call Gis_pattern (hr.mono (by decide)) (by rfl) Dis_pattern.g Dis_pattern.F.kp Dis_pattern.b .nil pass0 (pa_cons (pv 5) pa_nil))) (pv 5) pe_non))))))), ?_⟩
    refine ⟨_, rfl, ⟨x, rfl⟩, x, _, rfl, rfl, rfl, sz_of (by omega), fun p0 hp0 => ?_⟩
    refine ⟨p0, _, rfl, st_of upd_same, rfl, ?_⟩
    refine ⟨_, _, rfl, _, _, rfl, _, _, rfl, rfl, ?_⟩
    generalize hH1 : upd H p0 _ = H1
    have e1 : Ex H H1 := by
      rw [← hH1]
      exact Ex.new hp0
    cases hc : cutAt 40 x.cps.toList with
    | none =>
      have hp : Txt.partition x (Str.ofString "(") = (x, Str.empty, Str.empty) := part_none (cutAt_none hc)
      rw [hp]
      refine q_when (b := true) (et_or (b := true) (a := true) (et_test (ev_is (ev_op (ev_var rfl) ev_c (rv_eq rfl)) rfl)) (fun z => by cases z)) (fun _ H2 e2 => ?_) (fun z => by cases z)
      exact s_ret ev_c fun H3 e3 => kn (by unfold readS; rw [hc]) H3 (e1.trans (e2.trans e3))
    | some ab =>
      obtain ⟨a, b⟩ := ab
      obtain ⟨ex, ha⟩ := cutAt_some hc
      have hp : Txt.partition x (Str.ofString "(") = (ofC a, ⟨#[40]⟩, ofC b) := part_some ex ha
      obtain ⟨pl1, pl2⟩ := parts_len hc hx
      have bl : b.length ≤ 5000 := by
        have : a.length + b.length + 1 = x.length := by
          rw [← len_cps x, ex]
          simp
          omega
        omega
      rw [hp]
      have hb : (ofC b).length ≤ 5000 := by rw [len_ofC]; exact bl
      have ls := ev_slS (σ := L2.start n_read_pattern [.str x] |>.set 1 (some (.str (ofC a))) |>.set 2 (some (.str ⟨#[40]⟩)) |>.set 3 (some (.str (ofC b)))) (H := H1) (te := tVar 3) (z := ofC b) (ev_var rfl) (eo_some ev_neg1) eo_none (by omega)
      have el : decide (V.str (cutS (ofC b) (some (-1)) none) = V.str ")") = decide (b.getLast? = some 41) := by
        have i : (V.str (cutS (ofC b) (some (-1)) none) = V.str ")") ↔ b.getLast? = some 41 := by
          rw [← last_of]
          constructor
          · intro z
            have := V.str.inj z
            rw [← ofC_cps b, ← cut_last, this]
            rfl
          · intro z
            congr 1
            refine str_ext ?_
            rw [cut_last, ofC_cps, z]
            rfl
        simp only [i]
      refine q_when (et_or (et_test (ev_op (ev_var rfl) ev_c (rv_eq rfl))) (fun _ => et_test (ev_op ls ev_c (rv_ne rfl)))) (fun hz H2 e2 => ?_) (fun hz H2 e2 => ?_)
      · refine s_ret ev_c fun H3 e3 => kn ?_ H3 (e1.trans (e2.trans e3))
        have hg : ¬ b.getLast? = some 41 := fun z => by
          have el := el.trans (decide_eq_true z)
          rw [el] at hz
          exact absurd hz (by decide)
        unfold readS
        rw [hc]
        exact if_neg hg
      · have hg : b.getLast? = some 41 := by
          by_cases z : b.getLast? = some 41
          · exact z
          · have el := el.trans (decide_eq_false z)
            rw [el] at hz
            exact absurd hz (by simp)
        -- the terms
        have ter : EvL (tIf (tTest (tOp rNe (tVar 3) (tC (.str ")")))) (tBM K "str" (fun x xs H Q => ∃ a b, x = .str a ∧ xs = [.str b] ∧ (b.length == 0) = false ∧ a.length + 2 ≤ sizeLine ∧ rNewStrs (Txt.split a b) H Q) (tSl rSlS (tVar 3) tNoPart (tPart (tUn (rU fun i => .int (-i)) (tC (.int 1))))) (tCons (tC (.str ",")) tNil)) (tLst tNil))
            (L2.start n_read_pattern [.str x] |>.set 1 (some (.str (ofC a))) |>.set 2 (some (.str ⟨#[40]⟩)) |>.set 3 (some (.str (ofC b)))) H2 ((if b.dropLast = [] then [] else Txt.split (ofC b.dropLast) comma).map V.str) := by
          have ci : cutS (ofC b) none (some (-1)) = ofC b.dropLast := str_ext (by rw [cut_init, ofC_cps, ofC_cps])
          refine el_if (et_test (ev_op (ev_var rfl) ev_c (rv_ne rfl))) (fun q => ?_) (fun q => ?_)
          · have nb : ¬ b.dropLast = [] := fun z => by
              have : b = [41] := by
                cases b with
                | nil => cases hg
                | cons c r =>
                  cases r with
                  | nil => simpa using hg
                  | cons d r => simp at z
              rw [this] at q
              exact absurd q (by decide)
            rw [if_neg nb]
            have sl := ev_slS (σ := L2.start n_read_pattern [.str x] |>.set 1 (some (.str (ofC a))) |>.set 2 (some (.str ⟨#[40]⟩)) |>.set 3 (some (.str (ofC b)))) (H := H2) (te := tVar 3) (z := ofC b) (lo := none) (hi := some (-1)) (ev_var rfl) eo_none (eo_some ev_neg1) (by omega)
            rw [ci] at sl
            refine el_split sl ev_c rfl ?_
            rw [len_ofC, List.length_dropLast]
            omega
          · have nb : b.dropLast = [] := by
              have : V.str (ofC b) = V.str ")" := by simpa using q
              have : (ofC b).cps.toList = [41] := by
                rw [V.str.inj this]
                rfl
              rw [ofC_cps] at this
              rw [this]
              rfl
            rw [if_pos nb]
            exact el_lst ea_nil (by decide)
        refine q_asgL ter fun pl H3 hpl e3 h3 => ?_
        refine q_asgU (xs := (partsC a b).map V.str) (eu_star1 (K := K) (xs := (if b.dropLast = [] then [] else Txt.split (ofC b.dropLast) comma).map V.str) (ev_var rfl) (ev_var rfl) h3 ?_) fun pt H4 hpt e4 h4 => ?_
        · have : (partsC a b).length = (if b.dropLast = [] then [] else Txt.split (ofC b.dropLast) comma).length + 1 := rfl
          rw [List.length_map]
          omega
        have any := AnyS h4 pl1 pl2
        have isp := et_B (ev_BT (f := patD) (te := tVar 5) (σ := ((L2.start n_read_pattern [.str x] |>.set 1 (some (.str (ofC a))) |>.set 2 (some (.str ⟨#[40]⟩)) |>.set 3 (some (.str (ofC b)))).set 4 (some (.ref pl))).set 5 (some (.ref pt))) (H := H4) (v := .ref pt) (ev_var rfl) any)
        refine isp H4 (Ex.refl _) _ fun H5 e5 => ?_
        have eA : Ex H H5 := e1.trans (e2.trans (e3.trans (e4.trans e5)))
        cases hq : patD (.tuple ((partsC a b).map .str)) with
        | true =>
          rw [if_pos rfl]
          refine ⟨_, rfl, ks (partsC a b) ?_ pt H5 (fresh_back (e1.trans (e2.trans e3)) hpt) eA (e5 _ _ h4)⟩
          unfold readS
          rw [hc]
          simp only [hg, hq, if_true]
        | false =>
          rw [if_neg Bool.false_ne_true]
          refine kn ?_ H5 eA
          unfold readS
          rw [hc]
          simp [hg, hq]
end
end G39

namespace G39
open PySem PySem.Spec PyProof.Rows L2 Evl
abbrev s__law_is_name : Stmt := topS 25
abbrev n__law_is_name : List Str := ["_law_value", "_law_sign"]
theorem sc__law_is_name : FnScope n__law_is_name ["_law_value"] (defScope s__law_is_name) := ⟨rfl, rfl, rfl, by decide +kernel, rfl, by decide +kernel, by decide +kernel⟩
abbrev s__law_is_term : Stmt := topS 26
abbrev n__law_is_term : List Str := ["_law_value", "_law_open_too"]
theorem sc__law_is_term : FnScope n__law_is_term ["_law_value", "_law_open_too"] (defScope s__law_is_term) := ⟨rfl, rfl, rfl, by decide +kernel, rfl, by decide +kernel, by decide +kernel⟩
abbrev s__law_is_pattern : Stmt := topS 27
abbrev n__law_is_pattern : List Str := ["_law_value", "_law_open_too", "_law_term_here"]
theorem sc__law_is_pattern : FnScope n__law_is_pattern ["_law_value", "_law_open_too"] (defScope s__law_is_pattern) := ⟨rfl, rfl, rfl, by decide +kernel, rfl, by decide +kernel, by decide +kernel⟩
abbrev s__law_told : Stmt := topS 29
abbrev n__law_told : List Str := ["_law_value"]
theorem sc__law_told : FnScope n__law_told ["_law_value"] (defScope s__law_told) := ⟨rfl, rfl, rfl, by decide +kernel, rfl, by decide +kernel, by decide +kernel⟩
abbrev s__law_due : Stmt := topS 30
abbrev n__law_due : List Str := ["_law_value", "_law_name_here", "_law_variable"]
theorem sc__law_due : FnScope n__law_due ["_law_value"] (defScope s__law_due) := ⟨rfl, rfl, rfl, by decide +kernel, rfl, by decide +kernel, by decide +kernel⟩
/-- can be told equal or not; or a dict -/
def Lay (d : PyData) : Prop := d = .dict [] ∨ (d.canLay0 = true ∧ d.depth ≤ 60)
theorem lay_all : ∀ {ds : List PyData}, PyData.canLayAll0 ds = true → ∀ d ∈ ds, d.canLay0 = true
  | [], _, _, h => (nomatch h)
  | x :: xs, h, d, hm => by
    simp only [PyData.canLayAll0, Bool.and_eq_true] at h
    rcases List.mem_cons.mp hm with rfl | hm
    · exact h.1
    · exact lay_all h.2 d hm
theorem all_lay : ∀ {ds : List PyData}, (∀ d ∈ ds, d.canLay0 = true) → PyData.canLayAll0 ds = true
  | [], _ => by simp [PyData.canLayAll0]
  | x :: xs, h => by
    simp only [PyData.canLayAll0, Bool.and_eq_true]
    exact ⟨h x (List.mem_cons_self ..), all_lay fun d hd => h d (List.mem_cons_of_mem _ hd)⟩
theorem depth_each : ∀ {ds : List PyData} {d : PyData}, d ∈ ds → d.depth ≤ PyData.depthAll ds
  | x :: xs, d, hm => by
    simp only [PyData.depthAll]
    rcases List.mem_cons.mp hm with rfl | hm
    · omega
    · have := depth_each hm
      omega
theorem depth_all {n : Nat} : ∀ {ds : List PyData}, (∀ d ∈ ds, d.depth ≤ n) → PyData.depthAll ds ≤ n
  | [], _ => by simp [PyData.depthAll]
  | x :: xs, h => by
    simp only [PyData.depthAll]
    have h1 := h x (List.mem_cons_self ..)
    have h2 := depth_all fun d hd => h d (List.mem_cons_of_mem _ hd)
    omega
theorem shaped_list {ds : List PyData} (h : ∀ d ∈ ds, d.canLay0 = true ∧ d.depth ≤ 60) : SeqAt.shaped (.list ds) = true := by
  have h1 := all_lay fun d hd => (h d hd).1
  have h2 := depth_all fun d hd => (h d hd).2
  simp only [SeqAt.shaped, PyData.canLay0, PyData.depth, h1, Bool.true_and]
  exact decide_eq_true (by omega)
theorem shaped_tup {ds : List PyData} (h : ∀ d ∈ ds, d.canLay0 = true ∧ d.depth ≤ 60) : SeqAt.shaped (.tuple ds) = true := by
  have h1 := all_lay fun d hd => (h d hd).1
  have h2 := depth_all fun d hd => (h d hd).2
  simp only [SeqAt.shaped, PyData.canLay0, PyData.depth, h1, Bool.true_and]
  exact decide_eq_true (by omega)
theorem eqv_nil (ds : List PyData) : PyData.eqv (.list ds) (.list []) = ds.isEmpty := by
  cases ds <;> simp [PyData.eqv, PyData.eqvAll]
theorem lay_items {ds : List PyData} (h : Lay (.tuple ds)) : ∀ d ∈ ds, d.canLay0 = true ∧ d.depth ≤ 60 := by
  rcases h with h | ⟨h1, h2⟩
  · cases h
  · intro d hd
    simp only [PyData.canLay0] at h1
    simp only [PyData.depth] at h2
    have := depth_each hd
    exact ⟨lay_all h1 d hd, by omega⟩
theorem lay_sign {x : Str} (h : (PyData.str x).canLay0 = true) {c : Nat} (hc : c ∈ x.cps.toList) : (PyData.str ⟨#[c]⟩).canLay0 = true := by
  simp only [PyData.canLay0, PyData.strOk] at h ⊢
  have := Array.all_eq_true'.mp h c (by simpa using hc)
  simpa using this
section
variable {K : PySem.W.Frag} {σ : L2.St} {H : Hp} {te : TE}
/-- xs == [] -/
theorem ev_eqNil {xs : List V} {ds : List PyData} (h : EvL te σ H xs) (hd : AtAll H xs ds) (hs : ∀ d ∈ ds, d.canLay0 = true ∧ d.depth ≤ 60) : Ev (tOp (rEqD K) te (tLst tNil)) σ H (.bl ds.isEmpty) := fun H1 e Q q =>
  h H1 e _ fun p H2 hp e2 h2 => ⟨Nat.zero_le _, fun l hl => ⟨.list ds, .list [], (At.lst (Ex.new hl _ _ h2) ((hd.mono (e.trans e2)).mono (Ex.new hl))).dp (shaped_list hs), (At.lst upd_same .nil).dp (by decide), shaped_list hs, by decide, by
    rw [eqv_nil]
    exact q _ (e2.trans (Ex.new hl))⟩⟩
theorem ev_neNil {xs : List V} {ds : List PyData} (h : EvL te σ H xs) (hd : AtAll H xs ds) (hs : ∀ d ∈ ds, d.canLay0 = true ∧ d.depth ≤ 60) : Ev (tOp (rNeD K) te (tLst tNil)) σ H (.bl (!ds.isEmpty)) := fun H1 e Q q =>
  h H1 e _ fun p H2 hp e2 h2 => ⟨Nat.zero_le _, fun l hl => ⟨.list ds, .list [], (At.lst (Ex.new hl _ _ h2) ((hd.mono (e.trans e2)).mono (Ex.new hl))).dp (shaped_list hs), (At.lst upd_same .nil).dp (by decide), shaped_list hs, by decide, by
    rw [eqv_nil]
    exact q _ (e2.trans (Ex.new hl))⟩⟩
theorem rv_nsign {c : Nat} {z : Str} : RV (fun x y H Q => ∃ (c : Nat) (z : Str), x = .str ⟨#[c]⟩ ∧ y = .str z ∧ Q (.bl (!decide (c ∈ z.cps.toList))) H) (.str ⟨#[c]⟩) (.str z) H (.bl (!decide (c ∈ z.cps.toList))) := rv_val fun H1 _ Q q => ⟨c, z, rfl, rfl, q⟩
end
/-- the law's own tellers -/
def spL (f : PyData → Bool) : Sp := fun vs H Q _ => ∃ (v : V) (d : PyData), vs = [v] ∧ Any H v d ∧ Lay d ∧ ∀ H', Ex H H' → Q (.bl (f d)) H'
def spL2 (f : PyData → Bool → Bool) : Sp := fun vs H Q _ => ∃ (v : V) (d : PyData) (b : Bool), vs = [v, .bl b] ∧ Any H v d ∧ Lay d ∧ ∀ H', Ex H H' → Q (.bl (f d b)) H'
def termD (d : PyData) (o : Bool) : Bool := nameD d || (o && varD d)
def patO (d : PyData) (o : Bool) : Bool := if o then patD d else factD d
theorem ev_L {f : PyData → Bool} {te : TE} {σ : L2.St} {H : Hp} {v : V} {d : PyData} (h : Ev te σ H v) (hv : Any H v d) (hl : Lay d) : Ev (tCall (spL f) [] E0 (tCons te tNil)) σ H (.bl (f d)) := fun H1 e Q q =>
  h H1 e _ fun H2 e2 => ⟨v, d, rfl, hv.mono (e.trans e2), hl, fun H3 e3 => q H3 (e2.trans e3)⟩
theorem ev_L2 {f : PyData → Bool → Bool} {te tb : TE} {σ : L2.St} {H : Hp} {v : V} {d : PyData} {b : Bool} (h : Ev te σ H v) (hb : Ev tb σ H (.bl b)) (hv : Any H v d) (hl : Lay d) : Ev (tCall (spL2 f) [] E0 (tCons te (tCons tb tNil))) σ H (.bl (f d b)) := fun H1 e Q q =>
  h H1 e _ fun H2 e2 => hb H2 (e.trans e2) _ fun H3 e3 => ⟨v, d, b, rfl, hv.mono (e.trans (e2.trans e3)), hl, fun H4 e4 => q H4 (e2.trans (e3.trans e4))⟩
theorem AnyStr {H : Hp} {x : Str} (h : x.length ≤ 10000) : Any H (.str x) (.str x) := ⟨.str x, fun y e => by cases e; exact h⟩
section
variable {P : Program} {w : World} {K : PySem.W.Frag} {mg : Str → Option Value} {base : Heap}
theorem ok_law_is_name {f : Addr} {fd : FuncData} (T : TN K mg) (F : Fun K "_law_is_name" "_law_is_name" s__law_is_name f fd) : FnOk P w K mg base CX0 1 f fd ["_law_value"] (spL nameD) := by
  have m_isinstance := T.m_isinstance
  have m_str := T.m_str
  have m_len := T.m_len
  refine F.ok sc__law_is_name (fun vs H Q E h => ?_) (fun cdv A outer s H vs Q E hr h => ?_)
  · obtain ⟨v, d, rfl, _⟩ := h
    rfl
  · obtain ⟨v, d, rfl, hv, hlay, k⟩ := h
    refine ⟨_, (pss_cons (ps_if (PW.pt (pw_or (pt_not (pt_val (pe_callB (call_isiK' (K := K) rfl) (by rfl) m_isinstance PyProof.Rows.boot_isinstance (pa_cons (pv 0) (pa_cons (pe_bltn (v := .ty "str") (by rfl) m_str (by decide +kernel) rfl) pa_nil))))) (pw_or (pt_not (pt_chain op_le op_le pe_int (pe_callB call_len_str (by rfl) m_len PySem.boot_len (pa_cons (pv 0) pa_nil)) pe_int)) (pw_or1 (pt_cmpR op_notIn_sign (pe_ix ix_str (pv 0) pe_int (fun _ _ => rfl)) pe_str (by rfl)))))) (pss_one (ps_ret pe_bl)) pss_nil)
      (pss_one (ps_ret (pe_cmpR (op_eqDK (K := K) rfl hr.units) (pe_lc (own := [("_law_sign", 1)]) (g := gName 1) rfl sc__law_is_name.nd (pi_str (pv 0)) (blkOk_by (N := n__law_is_name) (sc := defScope s__law_is_name) (by decide +kernel)) (fun _ _ _ _ _ => pg_name (i := 1) sc__law_is_name.nd rfl (Or.inl rfl)) (fun _ _ _ _ _ => pts_one (pt_cmpR op_notIn_sign (pv 1) pe_str (by rfl))) (fun _ _ _ _ _ => (pv 1))) (pe_lst pa_nil) (nomark _))))), ?_⟩
    by_cases hs : tyOf d = "str"
    · obtain ⟨x, rfl⟩ : ∃ x, d = .str x := by
        cases d <;> simp [tyOf] at hs
        exact ⟨_, rfl⟩
      obtain ⟨hat, hlx⟩ := hv
      have hx := hlx x rfl
      have hcl : (PyData.str x).canLay0 = true := by
        rcases hlay with h | h
        · cases h
        · exact h.1
      cases hat
      have is1 : Ev (tCB (rIsi K) (tCons (tVar 0) (tCons (tC (.ty "str")) tNil))) [some (.str x), none] H (.bl true) := ev_isi (kit_str K (.str x)) (ev_var rfl) (.str x)
      have len1 := et_not (et_test (ev_chainI (σ := [some (.str x), none]) (H := H) (ev_c (v := .int 1)) (ev_lenS (te := tVar 0) (ev_var rfl) (Nat.le_trans hx (by decide))) (ev_c (v := .int 12))))
      by_cases hn : 1 ≤ x.length ∧ x.length ≤ 12
      · have hlen := hn
        rw [← len_cps] at hn
        obtain ⟨c, r, hc⟩ : ∃ c r, x.cps.toList = c :: r := by
          cases h0 : x.cps.toList with
          | nil =>
            rw [h0] at hn
            exact absurd hn.1 (by decide)
          | cons c r => exact ⟨c, r, rfl⟩
        have at0 : atI x.cps.toList (0 : Int) = some c := by
          rw [hc]
          exact atI_nat (j := 0) rfl
        have h11 : r.length ≤ 11 := by
          have := hn.2
          rw [hc] at this
          simp at this
          omega
        have a1 : decide ((1 : Int) ≤ (x.length : Int)) = true := decide_eq_true (by omega)
        have a2 : decide ((x.length : Int) ≤ 12) = true := decide_eq_true (by omega)
        refine q_when (et_or (et_not (et_B is1)) (fun _ => et_or len1 (fun _ => et_test (ev_op (ev_op (ev_var rfl) ev_c (rv_ixS (Nat.le_trans hx (by decide)) at0)) ev_c rv_nsign)))) (fun hb H1 e1 => ?_) (fun hb H1 e1 => ?_)
        · rw [a1, a2] at hb
          have hl : isLet c = false := by
            show decide (c ∈ (Str.ofString "abcdefghijklmnopqrstuvwxyz").cps.toList) = false
            cases q : decide (c ∈ (Str.ofString "abcdefghijklmnopqrstuvwxyz").cps.toList) with
            | false => rfl
            | true =>
              rw [q] at hb
              exact absurd hb (by decide)
          have z : nameD (.str x) = false := by
            show nameC x.cps.toList = false
            rw [hc]
            simp [nameC, hl]
          refine s_ret ev_c fun H2 e2 => ?_
          have q := k H2 (e1.trans e2)
          rw [z] at q
          exact q
        · rw [a1, a2] at hb
          have hl : isLet c = true := by
            show decide (c ∈ (Str.ofString "abcdefghijklmnopqrstuvwxyz").cps.toList) = true
            cases q : decide (c ∈ (Str.ofString "abcdefghijklmnopqrstuvwxyz").cps.toList) with
            | true => rfl
            | false =>
              rw [q] at hb
              exact absurd hb (by decide)
          have cmp := el_cS (σ := [some (.str x), none]) (H := H1) (tl := tVar 0) (z := x) (t := tTest (tOp (fun x y H Q => ∃ (c : Nat) (z : Str), x = .str ⟨#[c]⟩ ∧ y = .str z ∧ Q (.bl (!decide (c ∈ z.cps.toList))) H) (tVar 1) (tC (.str "abcdefghijklmnopqrstuvwxyz0123456789")))) (te := tVar 1) (j := 1) (vs := [1])
            (f := fun c => !isSgn c) (g := fun c => .str ⟨#[c]⟩) (ev_var rfl) (by omega) (fun _ => rfl) (fun c _ H2 e2 => et_test (ev_op (ev_var rfl) ev_c rv_nsign)) (fun c _ _ H2 e2 => ev_var rfl)
          have hd : AtAll H1 ((x.cps.toList.filter fun c => !isSgn c).map fun c => V.str ⟨#[c]⟩) ((x.cps.toList.filter fun c => !isSgn c).map fun c => PyData.str ⟨#[c]⟩) := by
            have z := AtAll.strs (H := H1) ((x.cps.toList.filter fun c => !isSgn c).map fun c => (⟨#[c]⟩ : Str))
            rw [List.map_map, List.map_map] at z
            exact z
          refine s_ret (ev_eqNil cmp hd fun d hd => ?_) fun H2 e2 => ?_
          · obtain ⟨c, hc2, rfl⟩ := List.mem_map.mp hd
            exact ⟨lay_sign hcl (List.mem_filter.mp hc2).1, by simp [PyData.depth]⟩
          · have q := k H2 (e1.trans e2)
            have z : nameD (.str x) = ((x.cps.toList.filter fun c => !isSgn c).map fun c => PyData.str ⟨#[c]⟩).isEmpty := by
              show nameC x.cps.toList = _
              have e0 : nameC x.cps.toList = x.cps.toList.all isSgn := by
                rw [hc]
                simp [nameC, h11, hl]
              rw [e0, List.isEmpty_map]
              cases q2 : x.cps.toList.all isSgn with
              | true =>
                have : x.cps.toList.filter (fun c => !isSgn c) = [] := List.filter_eq_nil_iff.mpr fun c hc => by
                  rw [List.all_eq_true.mp q2 c hc]
                  decide
                rw [this]
                rfl
              | false =>
                obtain ⟨c, hc, hf⟩ := List.all_eq_false.mp q2
                have : c ∈ x.cps.toList.filter (fun c => !isSgn c) := List.mem_filter.mpr ⟨hc, by simpa using hf⟩
                cases q3 : x.cps.toList.filter (fun c => !isSgn c) with
                | nil =>
                  rw [q3] at this
                  cases this
                | cons _ _ => rfl
            rw [z] at q
            exact q
      · have z : nameD (.str x) = false := by
          show nameC x.cps.toList = false
          rw [← len_cps] at hn
          cases hc : x.cps.toList with
          | nil => rfl
          | cons c r =>
            rw [hc] at hn
            have : ¬ r.length ≤ 11 := fun z => hn ⟨by simp, by simp; omega⟩
            simp [nameC, this]
        refine q_when (et_or (a := false) (b := true) (et_not (et_B is1)) (fun _ => et_or (a := true) (b := true) (et_is len1 ?_) (fun z => by cases z))) (fun _ H1 e1 => ?_) (fun z => by cases z)
        · by_cases a1 : (1 : Int) ≤ (x.length : Int)
          · have a2 : ¬ (x.length : Int) ≤ 12 := fun q => hn (by omega)
            rw [decide_eq_true a1, decide_eq_false a2]
            rfl
          · rw [decide_eq_false a1]
            rfl
        · refine s_ret ev_c fun H2 e2 => ?_
          have q := k H2 (e1.trans e2)
          rw [z] at q
          exact q
    · have z : nameD d = false := by
        cases d <;> first | rfl | (simp [tyOf] at hs)
      have is1 : Ev (tCB (rIsi K) (tCons (tVar 0) (tCons (tC (.ty "str")) tNil))) [some v, none] H (.bl false) := by
        have q := ev_isi (K := K) (σ := [some v, none]) (kit_str K d) (ev_var (i := 0) rfl) hv.1
        rw [decide_eq_false hs] at q
        exact q
      refine q_when (b := true) ?_ (fun hb H1 e1 => ?_) (fun hb => absurd hb (by decide))
      · intro H1 e1 Q1 q1
        refine is1 H1 e1 _ fun H2 e2 => ?_
        exact ⟨false, rfl, q1 H2 e2⟩
      · refine s_ret ev_c fun H2 e2 => ?_
        have q := k H2 (e1.trans e2)
        rw [z] at q
        exact q
/-- what the top has written of the law's tellers -/
structure TL (K : PySem.W.Frag) (mg : Str → Option Value) : Prop where
  n : TN K mg
  is_fact : ∃ f fd, DefAt K mg "is_fact" s_is_fact ["value"] f fd
  _law_is_name : ∃ f fd, DefAt K mg "_law_is_name" s__law_is_name ["_law_value"] f fd
  _law_is_term : ∃ f fd, DefAt K mg "_law_is_term" s__law_is_term ["_law_value", "_law_open_too"] f fd
  _law_is_pattern : ∃ f fd, DefAt K mg "_law_is_pattern" s__law_is_pattern ["_law_value", "_law_open_too"] f fd
/-- x[:1] == '?' -/
theorem ev_open {σ : L2.St} {H : Hp} {te : TE} {x : Str} (h : Ev te σ H (.str x)) (hx : x.length ≤ 10000) : Ev (tOp rEq (tSl rSlS te tNoPart (tPart (tC (.int 1)))) (tC (.str "?"))) σ H (.bl (decide (V.str (cutS x none (some 1)) = V.str "?"))) :=
  ev_op (ev_slS h eo_none (eo_some ev_c) (Nat.le_trans hx (by decide))) ev_c (rv_eq rfl)
theorem tail_len (x : Str) : (cutS x (some 1) none).length ≤ x.length := by
  rw [← len_cps, cut_tail, ← len_cps x]
  simp
theorem lay_tail {x : Str} (h : Lay (.str x)) : Lay (.str (cutS x (some 1) none)) := by
  rcases h with h | ⟨h, _⟩
  · cases h
  · refine .inr ⟨?_, by simp [PyData.depth]⟩
    simp only [PyData.canLay0, PyData.strOk] at h ⊢
    rw [← Array.all_toList, cut_tail]
    rw [← Array.all_toList] at h
    exact List.all_eq_true.mpr fun c hc => List.all_eq_true.mp h c (List.mem_of_mem_drop hc)
/-- a text that begins with ? is no name -/
theorem name_open {x : Str} (h : decide (V.str (cutS x none (some 1)) = V.str "?") = true) : nameS x = false := by
  have h1 : cutS x none (some 1) = "?" := V.str.inj (of_decide_eq_true h)
  have h2 : x.cps.toList.take 1 = [63] := by
    rw [← cut_head, h1]
    rfl
  show nameC x.cps.toList = false
  cases hc : x.cps.toList with
  | nil => rfl
  | cons c r =>
    rw [hc] at h2
    have : c = 63 := by simpa using h2
    rw [this]
    have : isLet 63 = false := by decide
    simp [nameC, this]
theorem ok_law_is_term {f : Addr} {fd : FuncData} (T : TL K mg) (F : Fun K "_law_is_term" "_law_is_term" s__law_is_term f fd) : FnOk P w K mg base CX0 2 f fd ["_law_value", "_law_open_too"] (spL2 termD) := by
  have m_isinstance := T.n.m_isinstance
  have m_str := T.n.m_str
  obtain ⟨fN, dN, D_law_is_name⟩ := T._law_is_name
  have G_law_is_name : FnOk P w K mg base CX0 1 fN dN _ (spL nameD) := ok_law_is_name T.n D_law_is_name.F
  refine F.ok sc__law_is_term (fun vs H Q E h => ?_) (fun cdv A outer s H vs Q E hr h => ?_)
  · obtain ⟨v, d, b, rfl, _⟩ := h
    rfl
  · obtain ⟨v, d, b, rfl, hv, hlay, k⟩ := h
    refine ⟨_, (pss_cons (ps_if (PW.pt (pw_and (pt_val (pv 1)) (pw_and (pt_val (pe_callB (call_isiK' (K := K) rfl) (by rfl) m_isinstance PyProof.Rows.boot_isinstance (pa_cons (pv 0) (pa_cons (pe_bltn (v := .ty "str") (by rfl) m_str (by decide +kernel) rfl) pa_nil)))) (pw_and1 (pt_cmpR op_eq (pe_slice sl_str (pv 0) po_none (po_some pe_int)) pe_str (nomark _)))))) (pss_one (ps_ret (pe_call G_law_is_name (hr.mono (by decide)) (by rfl) D_law_is_name.g D_law_is_name.F.kp D_law_is_name.b .nil pass0 (pa_cons (pe_slice sl_str (pv 0) (po_some pe_int) po_none) pa_nil)))) pss_nil)
      (pss_one (ps_ret (pe_call G_law_is_name (hr.mono (by decide)) (by rfl) D_law_is_name.g D_law_is_name.F.kp D_law_is_name.b .nil pass0 (pa_cons (pv 0) pa_nil))))), ?_⟩
    by_cases hs : tyOf d = "str"
    · obtain ⟨x, rfl⟩ : ∃ x, d = .str x := by
        cases d <;> simp [tyOf] at hs
        exact ⟨_, rfl⟩
      obtain ⟨hat, hlx⟩ := hv
      have hx := hlx x rfl
      cases hat
      have is1 : Ev (tCB (rIsi K) (tCons (tVar 0) (tCons (tC (.ty "str")) tNil))) [some (.str x), some (.bl b)] H (.bl true) := ev_isi (kit_str K (.str x)) (ev_var rfl) (.str x)
      refine q_when (et_and (et_B (ev_var rfl)) (fun _ => et_and (et_B is1) (fun _ => et_test (ev_open (ev_var rfl) hx)))) (fun hb H1 e1 => ?_) (fun hb H1 e1 => ?_)
      · have hb1 : b = true ∧ decide (V.str (cutS x none (some 1)) = V.str "?") = true := by
          cases b <;> simp_all
        refine s_ret (ev_L (f := nameD) (d := .str (cutS x (some 1) none)) (ev_slS (ev_var rfl) (eo_some ev_c) eo_none (Nat.le_trans hx (by decide))) (AnyStr (Nat.le_trans (tail_len x) hx)) (lay_tail hlay)) fun H2 e2 => ?_
        have q := k H2 (e1.trans e2)
        have z : termD (.str x) b = nameD (.str (cutS x (some 1) none)) := by
          show (nameS x || (b && varS x)) = nameS _
          rw [varS_eq, name_open hb1.2, hb1.1, hb1.2]
          simp
        rw [z] at q
        exact q
      · refine s_ret (ev_L (f := nameD) (d := .str x) (ev_var rfl) (AnyStr hx) hlay) fun H2 e2 => ?_
        have q := k H2 (e1.trans e2)
        have z : termD (.str x) b = nameD (.str x) := by
          show (nameS x || (b && varS x)) = nameS _
          rw [varS_eq]
          cases b with
          | false => simp
          | true =>
            have : decide (V.str (cutS x none (some 1)) = V.str "?") = false := by simpa using hb
            rw [this]
            simp
        rw [z] at q
        exact q
    · have is1 : Ev (tCB (rIsi K) (tCons (tVar 0) (tCons (tC (.ty "str")) tNil))) [some v, some (.bl b)] H (.bl false) := by
        have q := ev_isi (K := K) (σ := [some v, some (.bl b)]) (kit_str K d) (ev_var (i := 0) rfl) hv.1
        rw [decide_eq_false hs] at q
        exact q
      have z : termD d b = nameD d := by
        have : varD d = false := by
          cases d <;> first | rfl | (simp [tyOf] at hs)
        simp [termD, this]
      refine q_when (b := false) ?_ (fun hb => by cases hb) (fun _ H1 e1 => ?_)
      · intro H1 e1 Q1 q1
        refine ⟨_, rfl, b, rfl, ?_⟩
        cases b with
        | false => exact q1 H1 (Ex.refl _)
        | true =>
          rw [if_pos rfl]
          refine is1 H1 e1 _ fun H2 e2 => ?_
          exact ⟨false, rfl, q1 H2 e2⟩
      · refine s_ret (ev_L (f := nameD) (d := d) (ev_var rfl) (hv.mono e1) hlay) fun H2 e2 => ?_
        have q := k H2 (e1.trans e2)
        rw [z] at q
        exact q
/-- a tuple's items that are kept -/
theorem comp_keep {tl : TE} {t : TT} {σ : L2.St} {H : Hp} {xs : List V} {ds : List PyData} {j : Nat} {vs : List Nat} {f : PyData → Bool} (h : EvP tl σ H fun v H' => ∃ a, v = .ref a ∧ H' a = some (.tup xs)) (hd : AtAll H xs ds) (hz : xs.length ≤ 40000) (hw : ∀ x, wipe ((wipe σ vs).set j (some x)) vs = wipe σ vs)
    (hj : ∀ y, ((wipe σ vs).set j (some y))[j]? = some (some y)) (ht : ∀ y d, d ∈ ds → At H y d → ∀ H1, Ex H H1 → EvT t ((wipe σ vs).set j (some y)) H1 (f d)) : ∃ ys, AtAll H ys (ds.filter f) ∧ EvL (tLc (iTup K tl) (gName j) t (tVar j) vs) σ H ys := by
  refine ⟨((xs.zip ds).filter fun p => f p.2).map Prod.fst, ?_, ?_⟩
  · clear h hz ht
    induction xs generalizing ds with
    | nil =>
      cases hd
      exact .nil
    | cons x xs ih =>
      cases hd with
      | @cons _ _ d ds h1 h2 =>
        have ih := ih h2
        rw [List.zip_cons_cons, List.filter_cons, List.filter_cons]
        cases hf : f d with
        | true =>
          rw [if_pos rfl, if_pos rfl, List.map_cons]
          exact .cons h1 ih
        | false =>
          rw [if_neg Bool.false_ne_true, if_neg Bool.false_ne_true]
          exact ih
  · intro H0 e Q q
    refine h H0 e _ fun v H1 e1 ⟨a, ev, ha⟩ => ⟨a, ev, ⟨xs, st_of ha⟩, fun D hD => ?_⟩
    have hlen := hd.len
    have wk : Walk (Itt K a) (xs.zip ds).length (fun H' => SqT K H' a xs) (YOf (xs.zip ds) Prod.fst) := by
      have e2 : (xs.zip ds).length = xs.length := by rw [List.length_zip, hlen, Nat.min_self]
      rw [e2]
      refine walk_tup.mono (fun _ z => z) fun i H x H' hi _ y => ⟨y.1, ?_⟩
      have hi2 : i < ds.length := by omega
      exact ⟨(x, ds[i]), by rw [List.getElem?_zip_eq_some]; exact ⟨y.2, List.getElem?_eq_getElem hi2⟩, rfl⟩
    refine lcV (f := fun p => f p.2) (g := fun p => p.1) wk (fun H' e' => st_of (e' _ _ ha)) (by rw [List.length_zip]; omega) hw (fun p hp => ?_) (fun p hp _ => ev_var (hj _)) hD fun H' e' hd' => ?_
    · obtain ⟨i, hi⟩ := List.mem_iff_getElem?.mp hp
      rw [List.getElem?_zip_eq_some] at hi
      obtain ⟨d, h1, h2⟩ := hd.get hi.1
      rw [hi.2] at h1
      have h3 := Option.some.inj h1
      exact ht p.1 p.2 (List.mem_of_getElem? hi.2) (by rw [h3]; exact h2) H1 (e.trans e1)
    · exact q D H' (fresh_back e1 hD) (e1.trans e') hd'
def spP (f : PyData → Bool → Bool) : Sp := fun vs H Q _ => ∃ (v : V) (d : PyData) (b : Bool), vs = [v, .bl b] ∧ AnyT H v d ∧ Lay d ∧ ∀ H', Ex H H' → Q (.bl (f d b)) H'
theorem ev_P {f : PyData → Bool → Bool} {te tb : TE} {σ : L2.St} {H : Hp} {v : V} {d : PyData} {b : Bool} (h : Ev te σ H v) (hb : Ev tb σ H (.bl b)) (hv : AnyT H v d) (hl : Lay d) : Ev (tCall (spP f) [] E0 (tCons te (tCons tb tNil))) σ H (.bl (f d b)) := fun H1 e Q q =>
  h H1 e _ fun H2 e2 => hb H2 (e.trans e2) _ fun H3 e3 => ⟨v, d, b, rfl, hv.mono (e.trans (e2.trans e3)), hl, fun H4 e4 => q H4 (e2.trans (e3.trans e4))⟩
theorem patO_eq (d0 : PyData) (dr : List PyData) (b : Bool) : patO (.tuple (d0 :: dr)) b = (decide (dr.length ≤ 3) && (nameD d0 && (dr.filter fun d => !termD d b).isEmpty)) := by
  have e : ∀ (f : PyData → Bool) (l : List PyData), (l.filter fun d => !f d).isEmpty = l.all f := fun f l => by
    induction l with
    | nil => rfl
    | cons x l ih =>
      rw [List.filter_cons, List.all_cons]
      cases f x with
      | true =>
        rw [if_neg (by decide), ih]
        rfl
      | false =>
        rw [if_pos (by decide)]
        rfl
  rw [e fun d => termD d b]
  cases b with
  | true => simp [patO, patD, termD]
  | false =>
    simp only [patO, Bool.false_eq_true, if_false, factD, patD, List.all_cons]
    cases nameD d0 <;> cases hq : dr.all nameD with
    | false => simp [termD, hq]
    | true =>
      have : (dr.all fun d => nameD d || varD d) = true := List.all_eq_true.mpr fun x hx => by
        rw [List.all_eq_true.mp hq x hx]
        rfl
      simp [termD, hq, this]
theorem ok_law_is_pattern {f : Addr} {fd : FuncData} (T : TL K mg) (F : Fun K "_law_is_pattern" "_law_is_pattern" s__law_is_pattern f fd) : FnOk P w K mg base CX0 3 f fd ["_law_value", "_law_open_too"] (spP patO) := by
  have m_isinstance := T.n.m_isinstance
  have m_tuple := T.n.m_tuple
  have m_len := T.n.m_len
  obtain ⟨fN, dN, D_law_is_name⟩ := T._law_is_name
  obtain ⟨fV, dV, D_law_is_term⟩ := T._law_is_term
  have G_law_is_name : FnOk P w K mg base CX0 1 fN dN _ (spL nameD) := ok_law_is_name T.n D_law_is_name.F
  have G_law_is_term : FnOk P w K mg base CX0 2 fV dV _ (spL2 termD) := ok_law_is_term T D_law_is_term.F
  refine F.ok sc__law_is_pattern (fun vs H Q E h => ?_) (fun cdv A outer s H vs Q E hr h => ?_)
  · obtain ⟨v, d, b, rfl, _⟩ := h
    rfl
  · obtain ⟨v, d, b, rfl, hv, hlay, k⟩ := h
    refine ⟨_, (pss_cons (ps_if (PW.pt (pw_or (pt_not (pt_val (pe_callB (call_isiK' (K := K) rfl) (by rfl) m_isinstance PyProof.Rows.boot_isinstance (pa_cons (pv 0) (pa_cons (pe_bltn (v := .ty "tuple") (by rfl) m_tuple (by decide +kernel) rfl) pa_nil))))) (pw_or (pt_not (pt_chain op_le op_le pe_int (pe_callB (call_len_seqK (K := K) rfl) (by rfl) m_len PySem.boot_len (pa_cons (pv 0) pa_nil)) pe_int)) (pw_or1 (pt_not (pt_val (pe_call G_law_is_name (hr.mono (by decide)) (by rfl) D_law_is_name.g D_law_is_name.F.kp D_law_is_name.b .nil pass0 (pa_cons (pe_ix (ix_tupK (K := K) rfl) (pv 0) pe_int (fun _ _ => rfl)) pa_nil)))))))) (pss_one (ps_ret pe_bl)) pss_nil)
      (pss_one (ps_ret (pe_cmpR (op_eqDK (K := K) rfl hr.units) (pe_lc (own := [("_law_term_here", 2)]) (g := gName 2) rfl sc__law_is_pattern.nd (pi_tupK (K := K) rfl (pe_slice (sl_tupAK (K := K) rfl) (pv 0) (po_some pe_int) po_none)) (blkOk_by (N := n__law_is_pattern) (sc := defScope s__law_is_pattern) (by decide +kernel)) (fun _ _ _ _ _ => pg_name (i := 2) sc__law_is_pattern.nd rfl (Or.inl rfl)) (fun _ _ _ _ _ => pts_one (pt_not (pt_val (pe_call G_law_is_term (hr.mono (by decide)) (by rfl) D_law_is_term.g D_law_is_term.F.kp D_law_is_term.b .nil pass0 (pa_cons (pv 2) (pa_cons (pv 1) pa_nil)))))) (fun _ _ _ _ _ => (pv 2))) (pe_lst pa_nil) (nomark _))))), ?_⟩
    by_cases hs : tyOf d = "tuple"
    · obtain ⟨ds, rfl⟩ : ∃ ds, d = .tuple ds := by
        cases d <;> simp [tyOf] at hs
        exact ⟨_, rfl⟩
      obtain ⟨⟨hat, _⟩, hlx⟩ := hv
      obtain ⟨hl, hst⟩ := hlx ds rfl
      have hli := lay_items hlay
      have is1 : Ev (tCB (rIsi K) (tCons (tVar 0) (tCons (tC (.ty "tuple")) tNil))) [some v, some (.bl b), none] H (.bl true) := ev_isi (kit_tup K (.tuple ds)) (ev_var rfl) hat
      cases hat with
      | @tup a xs _ ha hds =>
        have hlen := hds.len
        have len1 : Ev (tCB (rLenS K) (tCons (tVar 0) tNil)) [some (V.ref a), some (.bl b), none] H (.int (ds.length : Int)) := fun H1 e Q q => ⟨_, rfl, a, xs, rfl, .inr (st_of (e _ _ ha)), by rw [hlen]; exact q H1 (Ex.refl _)⟩
        have lench := et_not (et_test (ev_chainI (ev_c (v := .int 1)) len1 (ev_c (v := .int 4))))
        cases ds with
        | nil =>
          refine q_when (et_or (a := false) (b := true) (et_not (et_B is1)) (fun _ => et_or (a := true) (b := true) (et_is lench rfl) (fun z => by cases z))) (fun _ H1 e1 => ?_) (fun z => by cases z)
          have z : patO (.tuple []) b = false := by cases b <;> rfl
          refine s_ret ev_c fun H2 e2 => ?_
          have q := k H2 (e1.trans e2)
          rw [z] at q
          exact q
        | cons d0 dr =>
          cases hds with
          | @cons v0 vr _ _ h0 hr0 =>
            have any0 : Any H v0 d0 := ⟨h0, fun x e => hst x (by rw [e]; exact List.mem_cons_self ..)⟩
            have nm : Ev (tCall (spL nameD) [] E0 (tCons (tOp (rIxT K) (tVar 0) (tC (.int 0))) tNil)) [some (V.ref a), some (.bl b), none] H (.bl (nameD d0)) := ev_L (ev_op (ev_var rfl) ev_c (rv_ixT (st_of ha) (atI_nat (j := 0) rfl))) any0 (.inr (hli d0 (List.mem_cons_self ..)))
            have a1 : decide ((1 : Int) ≤ ((d0 :: dr).length : Int)) = true := decide_eq_true (by simp only [List.length_cons]; omega)
            refine q_when (et_or (et_not (et_B is1)) (fun _ => et_or lench (fun _ => et_not (et_B nm)))) (fun hb H1 e1 => ?_) (fun hb H1 e1 => ?_)
            · rw [a1] at hb
              have z : patO (.tuple (d0 :: dr)) b = false := by
                rw [patO_eq]
                by_cases c : dr.length ≤ 3
                · have a2 : decide (((d0 :: dr).length : Int) ≤ 4) = true := decide_eq_true (by simp only [List.length_cons]; omega)
                  rw [a2] at hb
                  have hn : nameD d0 = false := by
                    cases q : nameD d0 with
                    | false => rfl
                    | true =>
                      rw [q] at hb
                      exact absurd hb (by decide)
                  simp [hn]
                · simp [c]
              refine s_ret ev_c fun H2 e2 => ?_
              have q := k H2 (e1.trans e2)
              rw [z] at q
              exact q
            · rw [a1] at hb
              have hc : dr.length ≤ 3 ∧ nameD d0 = true := by
                by_cases c : dr.length ≤ 3
                · refine ⟨c, ?_⟩
                  cases q : nameD d0 with
                  | true => rfl
                  | false =>
                    rw [q] at hb
                    simp at hb
                · have a2 : decide (((d0 :: dr).length : Int) ≤ 4) = false := decide_eq_false (by simp only [List.length_cons]; omega)
                  rw [a2] at hb
                  simp at hb
              have hr1 := hr0.mono e1
              obtain ⟨ys, hys, lst⟩ := comp_keep (K := K) (σ := [some (V.ref a), some (.bl b), none]) (H := H1) (j := 2) (vs := [2]) (tl := tSl (rSlA K) (tVar 0) (tPart (tC (.int 1))) tNoPart) (t := tNot (tB (tCall (spL2 termD) [] E0 (tCons (tVar 2) (tCons (tVar 1) tNil))))) (f := fun d => !termD d b)
                (ep_tailT (ev_var rfl) (e1 _ _ ha)) hr1 (by have := hr1.len; show vr.length ≤ 40000; omega) (fun _ => rfl) (fun _ => rfl) (fun y d hm hat H2 e2 => by
                  have an : Any H2 y d := ⟨hat.mono e2, fun x e => hst x (by rw [← e]; exact List.mem_cons_of_mem _ hm)⟩
                  exact et_not (et_B (ev_L2 (ev_var rfl) (ev_var rfl) an (.inr (hli d (List.mem_cons_of_mem _ hm))))))
              refine s_ret (ev_eqNil lst hys fun d hd => hli d (List.mem_cons_of_mem _ (List.mem_filter.mp hd).1)) fun H2 e2 => ?_
              have q := k H2 (e1.trans e2)
              have z : patO (.tuple (d0 :: dr)) b = (dr.filter fun d => !termD d b).isEmpty := by
                rw [patO_eq]
                simp [hc.1, hc.2]
              rw [z] at q
              exact q
    · have z : patO d b = false := by
        cases d <;> cases b <;> first | rfl | (simp [tyOf] at hs)
      have is1 : Ev (tCB (rIsi K) (tCons (tVar 0) (tCons (tC (.ty "tuple")) tNil))) [some v, some (.bl b), none] H (.bl false) := by
        have q := ev_isi (K := K) (σ := [some v, some (.bl b), none]) (kit_tup K d) (ev_var (i := 0) rfl) hv.1.1
        rw [decide_eq_false hs] at q
        exact q
      refine q_when (b := true) ?_ (fun hb H1 e1 => ?_) (fun hb => absurd hb (by decide))
      · intro H1 e1 Q1 q1
        refine is1 H1 e1 _ fun H2 e2 => ?_
        exact ⟨false, rfl, q1 H2 e2⟩
      · refine s_ret ev_c fun H2 e2 => ?_
        have q := k H2 (e1.trans e2)
        rw [z] at q
        exact q
/-- what is told of a value -/
def tellD (d : PyData) : List Bool := [nameD d, varD d, patD d, factD d]
def spTell : Sp := fun vs H Q _ => ∃ (v : V) (d : PyData), vs = [v] ∧ AnyT H v d ∧ Lay d ∧ ∀ p H', H p = none → Ex H H' → H' p = some (.lst ((tellD d).map V.bl)) → Q (.ref p) H'
theorem ok_law_told {f : Addr} {fd : FuncData} (T : TL K mg) (F : Fun K "_law_told" "_law_told" s__law_told f fd) : FnOk P w K mg base CX0 5 f fd ["_law_value"] spTell := by
  obtain ⟨f1, d1, Dis_name⟩ := T.n.is_name
  obtain ⟨f2, d2, Dis_variable⟩ := T.n.is_variable
  obtain ⟨f3, d3, Dis_pattern⟩ := T.n.is_pattern
  obtain ⟨f4, d4, Dis_fact⟩ := T.is_fact
  have Gis_name : FnOk P w K mg base CX0 1 f1 d1 _ (spB nameD) := ok_is_name T.n Dis_name.F
  have Gis_variable : FnOk P w K mg base CX0 2 f2 d2 _ (spB varD) := ok_is_variable T.n Dis_variable.F
  have Gis_pattern : FnOk P w K mg base CX0 3 f3 d3 _ (spBT patD) := ok_is_pattern T.n Dis_pattern.F
  have Gis_fact : FnOk P w K mg base CX0 4 f4 d4 _ (spBT factD) := ok_is_fact T.n Dis_fact.F
  refine F.ok sc__law_told (fun vs H Q E h => ?_) (fun cdv A outer s H vs Q E hr h => ?_)
  · obtain ⟨v, d, rfl, _⟩ := h
    rfl
  · obtain ⟨v, d, rfl, hv, hlay, k⟩ := h
    refine ⟨_, (pss_one (ps_ret (pe_lst (pa_cons (pe_call Gis_name (hr.mono (by decide)) (by rfl) Dis_name.g Dis_name.F.kp Dis_name.b .nil pass0 (pa_cons (pv 0) pa_nil)) (pa_cons (pe_call Gis_variable (hr.mono (by decide)) (by rfl) Dis_variable.g Dis_variable.F.kp Dis_variable.b .nil pass0 (pa_cons (pv 0) pa_nil)) (pa_cons (pe_call Gis_pattern (hr.mono (by decide)) (by rfl) Dis_pattern.g Dis_pattern.F.kp Dis_pattern.b .nil pass0 (pa_cons (pv 0) pa_nil)) (pa_cons (pe_call Gis_fact (hr.mono (by decide)) (by rfl) Dis_fact.g Dis_fact.F.kp Dis_fact.b .nil pass0 (pa_cons (pv 0) pa_nil)) pa_nil))))))), ?_⟩
    exact s_retL (el_lst (ea_cons (ev_B (ev_var rfl) hv.1) (ea_cons (ev_B (ev_var rfl) hv.1) (ea_cons (ev_BT (ev_var rfl) hv) (ea_cons (ev_BT (ev_var rfl) hv) ea_nil)))) (by decide : (4 : Nat) ≤ 100000)) fun p H1 hp e1 h1 => k p H1 hp e1 h1
theorem ok_law_due {f : Addr} {fd : FuncData} (T : TL K mg) (F : Fun K "_law_due" "_law_due" s__law_due f fd) : FnOk P w K mg base CX0 5 f fd ["_law_value"] spTell := by
  have m_isinstance := T.n.m_isinstance
  have m_str := T.n.m_str
  obtain ⟨fN, dN, D_law_is_name⟩ := T._law_is_name
  obtain ⟨fP, dP, D_law_is_pattern⟩ := T._law_is_pattern
  have G_law_is_name : FnOk P w K mg base CX0 1 fN dN _ (spL nameD) := ok_law_is_name T.n D_law_is_name.F
  have G_law_is_pattern : FnOk P w K mg base CX0 3 fP dP _ (spP patO) := ok_law_is_pattern T D_law_is_pattern.F
  refine F.ok sc__law_due (fun vs H Q E h => ?_) (fun cdv A outer s H vs Q E hr h => ?_)
  · obtain ⟨v, d, rfl, _⟩ := h
    rfl
  · obtain ⟨v, d, rfl, hv, hlay, k⟩ := h
    refine ⟨_, (pss_cons (ps_set (i := 1) sc__law_due.nd rfl (Or.inl rfl) (pe_call G_law_is_name (hr.mono (by decide)) (by rfl) D_law_is_name.g D_law_is_name.F.kp D_law_is_name.b .nil pass0 (pa_cons (pv 0) pa_nil)))
      (pss_cons (ps_set (i := 2) sc__law_due.nd rfl (Or.inl rfl) (pe_and (pe_callB (call_isiK' (K := K) rfl) (by rfl) m_isinstance PyProof.Rows.boot_isinstance (pa_cons (pv 0) (pa_cons (pe_bltn (v := .ty "str") (by rfl) m_str (by decide +kernel) rfl) pa_nil))) (pe_and (pe_cmpR op_eq (pe_slice sl_str (pv 0) po_none (po_some pe_int)) pe_str (nomark _)) (pe_one (pe_call G_law_is_name (hr.mono (by decide)) (by rfl) D_law_is_name.g D_law_is_name.F.kp D_law_is_name.b .nil pass0 (pa_cons (pe_slice sl_str (pv 0) (po_some pe_int) po_none) pa_nil))))))
      (pss_one (ps_ret (pe_lst (pa_cons (pv 1) (pa_cons (pv 2) (pa_cons (pe_call G_law_is_pattern (hr.mono (by decide)) (by rfl) D_law_is_pattern.g D_law_is_pattern.F.kp D_law_is_pattern.b .nil pass0 (pa_cons (pv 0) (pa_cons pe_bl pa_nil))) (pa_cons (pe_call G_law_is_pattern (hr.mono (by decide)) (by rfl) D_law_is_pattern.g D_law_is_pattern.F.kp D_law_is_pattern.b .nil pass0 (pa_cons (pv 0) (pa_cons pe_bl pa_nil))) pa_nil))))))))), ?_⟩
    refine q_asg (ev_L (f := nameD) (ev_var rfl) hv.1 hlay) fun H1 e1 => ?_
    have hv1 := hv.mono e1
    refine q_asg (v := .bl (varD d)) ?_ fun H2 e2 => ?_
    · by_cases hs : tyOf d = "str"
      · obtain ⟨x, rfl⟩ : ∃ x, d = .str x := by
          cases d <;> simp [tyOf] at hs
          exact ⟨_, rfl⟩
        have hx := hv.1.2 x rfl
        obtain ⟨⟨hat, _⟩, _⟩ := hv1
        cases hat
        have e : varD (.str x) = (true && (decide (V.str (cutS x none (some 1)) = V.str "?") && nameD (.str (cutS x (some 1) none)))) := by
          rw [Bool.true_and]
          exact varS_eq x
        rw [e]
        exact ev_andV (ev_isi (kit_str K (.str x)) (ev_var rfl) (.str x)) fun _ => ev_andV (ev_open (ev_var rfl) hx) fun _ => ev_L (f := nameD) (d := .str (cutS x (some 1) none)) (ev_slS (ev_var rfl) (eo_some ev_c) eo_none (Nat.le_trans hx (by decide))) (AnyStr (Nat.le_trans (tail_len x) hx)) (lay_tail hlay)
      · have z : varD d = false := by
          cases d <;> first | rfl | (simp [tyOf] at hs)
        have is1 := ev_isi (K := K) (σ := [some v, some (.bl (nameD d)), none]) (kit_str K d) (ev_var (i := 0) rfl) hv1.1.1
        rw [decide_eq_false hs] at is1
        rw [z]
        intro H2 e2 Q2 q2
        exact is1 H2 e2 _ fun H3 e3 => ⟨false, rfl, q2 H3 e3⟩
    · have hv2 := hv1.mono e2
      exact s_retL (el_lst (ea_cons (ev_var rfl) (ea_cons (ev_var rfl) (ea_cons (ev_P (f := patO) (b := true) (ev_var rfl) ev_c hv2 hlay) (ea_cons (ev_P (f := patO) (b := false) (ev_var rfl) ev_c hv2 hlay) ea_nil)))) (by decide : (4 : Nat) ≤ 100000)) fun p H3 hp e3 h3 => k p H3 (fresh_back (e1.trans e2) hp) (e1.trans (e2.trans e3)) h3
end
end G39

namespace G39
open PySem PySem.Spec PyProof.Rows L2 Evl
abbrev s__law_variables : Stmt := topS 24
abbrev n__law_variables : List Str := ["_law_lot_here", "_law_found", "_law_pattern_here", "_law_term_here"]
theorem sc__law_variables : FnScope n__law_variables ["_law_lot_here"] (defScope s__law_variables) := ⟨rfl, rfl, rfl, by decide +kernel, rfl, by decide +kernel, by decide +kernel⟩
abbrev s__law_text : Stmt := topS 31
abbrev n__law_text : List Str := ["_law_pattern_here"]
theorem sc__law_text : FnScope n__law_text ["_law_pattern_here"] (defScope s__law_text) := ⟨rfl, rfl, rfl, by decide +kernel, rfl, by decide +kernel, by decide +kernel⟩
abbrev s__law_of_text : Stmt := topS 32
abbrev n__law_of_text : List Str := ["_law_text_here", "_law_place", "_law_inside", "_law_pattern_here"]
theorem sc__law_of_text : FnScope n__law_of_text ["_law_text_here"] (defScope s__law_of_text) := ⟨rfl, rfl, rfl, by decide +kernel, rfl, by decide +kernel, by decide +kernel⟩
theorem inV_str (x : Str) (l : List Str) : inV (.str x) (l.map V.str) = decide (x ∈ l) := by
  unfold inV
  rw [List.any_map]
  by_cases h : x ∈ l
  · rw [decide_eq_true h]
    exact List.any_eq_true.mpr ⟨x, h, by simp [eqV]⟩
  · rw [decide_eq_false h]
    refine List.any_eq_false.mpr fun y hy => ?_
    have : y ≠ x := fun e => h (e ▸ hy)
    simp [eqV, this]
theorem flat_strs (l : List Str) : (l.map V.str).all flatV = true := List.all_eq_true.mpr fun v hv => by
  obtain ⟨x, _, rfl⟩ := List.mem_map.mp hv
  rfl
/-- a pattern's terms are names and variables -/
def GoodT (ps : List (List Str)) : Prop := ∀ x ∈ terms ps, nameS x = true ∨ varS x = true
def openS (x : Str) : Bool := decide (V.str (cutS x none (some 1)) = V.str "?")
theorem open_var {x : Str} (h : nameS x = true ∨ varS x = true) : openS x = varS x := by
  rcases h with h | h
  · cases q : openS x with
    | false =>
      rw [varS_eq]
      have : decide (V.str (cutS x none (some 1)) = V.str "?") = false := q
      rw [this]
      rfl
    | true =>
      have := name_open (x := x) q
      rw [h] at this
      cases this
  · rw [h]
    rw [varS_eq] at h
    exact (Bool.and_eq_true_iff.mp h).1
def spVarsL : Sp := fun vs H Q _ => ∃ (a : Addr) (us : List V) (ps : List (List Str)), vs = [.ref a] ∧ H a = some (.lst us) ∧ Pts H us ps ∧ LB ps ∧ GoodT ps ∧ ∀ p ys H', Ex H H' → H' p = some (.lst (ys.map V.str)) → ys.Perm (varsOf ps) → sortedS ys = true → Q (.ref p) H'
section
variable {P : Program} {w : World} {K : PySem.W.Frag} {mg : Str → Option Value} {base : Heap}
theorem s_forP {tl : TE} {g : TG} {tu : TS} {D : Ends} {σ : L2.St} {H : Hp} {xs : List V} (h : EvP tl σ H fun v H' => ∃ a, v = .ref a ∧ H' a = some (.tup xs)) (Pv : Addr → Nat → L2.St → Hp → Prop) (h0 : ∀ a H1, Ex H H1 → H1 a = some (.tup xs) → Pv a 0 σ H1) (hl : ∀ a i σ' H', i ≤ xs.length → Pv a i σ' H' → SqT K H' a xs)
    (hs : ∀ a i x σ' H', xs[i]? = some x → Pv a i σ' H' → g x σ' H' fun σ2 H2 => tu { D with nx := Pv a (i + 1), ct := Pv a (i + 1), bk := D.nx } σ2 H2) (hd : ∀ a σ' H', Pv a xs.length σ' H' → D.nx σ' H') : tFor (iTup K tl) g tu D σ H :=
  h H (Ex.refl H) _ fun v H1 e ⟨a, ev, ha⟩ => ⟨a, ev, ⟨xs, st_of ha⟩, for_tup (Pv a) (h0 a H1 e ha) (hl a) (hs a) (hd a)⟩
theorem Pts.at {H : Hp} : ∀ {us : List V} {ps : List (List Str)} {i : Nat} {v : V}, Pts H us ps → us[i]? = some v → ∃ p, ps[i]? = some p ∧ Pt H v p
  | _, _, _, _, .nil, e => by simp at e
  | _, _, 0, _, .cons h t, e => by
    simp at e
    subst e
    exact ⟨_, rfl, h⟩
  | _, _, i + 1, v, .cons h t, e => by
    obtain ⟨p, h1, h2⟩ := Pts.at (i := i) (v := v) t (by simpa using e)
    exact ⟨p, by simpa using h1, h2⟩
/-- the variables so far: whole patterns, then terms of the next -/
def vsTo (ps : List (List Str)) (i : Nat) (l : List Str) : List Str := ((terms (ps.take i) ++ l).filter varS).foldl plus []
theorem vsTo_len {ps : List (List Str)} (h : LB ps) (i : Nat) (l : List Str) (hl : l.length ≤ 10) : (vsTo ps i l).length < 1000 := by
  have h1 := fold_len ((terms (ps.take i) ++ l).filter varS) []
  have h2 := List.length_filter_le varS (terms (ps.take i) ++ l)
  have h3 := terms_len (ps := ps.take i) fun p hp => h.2 p (List.mem_of_mem_take hp)
  have h4 := h.1
  rw [List.length_take] at h3
  rw [List.length_append] at h2
  simp only [List.length_nil, Nat.zero_add] at h1
  unfold vsTo
  omega
theorem ok_law_variables {f : Addr} {fd : FuncData} (m_sorted : mg "sorted" = none) (F : Fun K "_law_variables" "_law_variables" s__law_variables f fd) : FnOk P w K mg base CX0 1 f fd ["_law_lot_here"] spVarsL := by
  refine F.ok sc__law_variables (fun vs H Q E h => ?_) (fun cdv A outer s H vs Q E hr h => ?_)
  · obtain ⟨a, us, ps, rfl, _⟩ := h
    rfl
  · obtain ⟨a, us, ps, rfl, ha, hp, hb, hg, k⟩ := h
    refine ⟨_, (pss_cons (ps_set (i := 1) sc__law_variables.nd rfl (Or.inl rfl) (pe_lst pa_nil))
      (pss_cons (ps_for PassesOwn.never rfl (pi_listK (K := K) rfl (pv 0)) (pg_name (i := 2) sc__law_variables.nd rfl (Or.inl rfl)) (pss_one (ps_for PassesOwn.never rfl (pi_tupK (K := K) rfl (pe_slice (sl_tupAK (K := K) rfl) (pv 2) (po_some pe_int) po_none)) (pg_name (i := 3) sc__law_variables.nd rfl (Or.inl rfl)) (pss_one (ps_if (PW.pt (pw_and (pt_cmpR op_eq (pe_slice sl_str (pv 3) po_none (po_some pe_int)) pe_str (nomark _)) (pw_and1 (pt_cmpR (op_notIn_seqK (K := K) rfl) (pv 3) (pv 1) (by rfl))))) (pss_one (ps_expr (pe_bm PySem.F.plainAttrs_list PySem.F.slot_list_append PySem.F.type_list_append mt_append (pv 1) (pa_cons (pv 3) pa_nil)))) pss_nil)))))
      (pss_one (ps_ret (pe_callB (cr_sortedSK (K := K) rfl) (by rfl) m_sorted (by decide +kernel) (pa_cons (pv 1) pa_nil)))))), ?_⟩
    refine q_asgL (el_lst ea_nil (by decide)) fun fa H1 hfa e1 hf1 => ?_
    have hpl := Paired.length hp
    -- the state of the loops
    refine q_forLn (a := a) (xs := us) (ev_var rfl) (sq_of (e1 _ _ ha)) (fun i σ' H' => Ex H H' ∧ H' fa = some (.lst ((vsTo ps i []).map V.str)) ∧ ∃ x2 x3, σ' = [some (.ref a), some (.ref fa), x2, x3]) (fun H2 e2 => ⟨e1.trans e2, by
        have z := e2 _ _ hf1
        simpa [vsTo, terms] using z, _, _, rfl⟩) (fun i σ' H' _ p => sq_of (p.1 _ _ ha)) ?_ ?_
    · rintro i x σ' H' hi ⟨e, hf, x2, x3, rfl⟩
      obtain ⟨p, hpi, b, rfl, hb1⟩ := hp.at hi
      have hpm := List.mem_of_getElem? hpi
      have pb := hb.2 p hpm
      have tk : terms (ps.take (i + 1)) = terms (ps.take i) ++ p.drop 1 := by
        unfold terms
        rw [List.take_add_one, hpi, List.flatMap_append]
        simp
      refine s_forP (K := K) (xs := (p.drop 1).map V.str) (fun H2 e2 Q q => ep_tailT (te := tVar 2) (ev_var rfl) (e _ _ hb1) H2 e2 _ fun v H3 e3 ⟨c, ev, hc⟩ => q v H3 e3 ⟨c, ev, by rw [List.map_drop]; exact hc⟩)
        (fun c j σ' H' => Ex H H' ∧ H' fa = some (.lst ((vsTo ps i ((p.drop 1).take j)).map V.str)) ∧ H' c = some (.tup ((p.drop 1).map V.str)) ∧ ∃ x3, σ' = [some (.ref a), some (.ref fa), some (.ref b), x3])
        (fun c H2 e2 hc => ⟨e.trans e2, by simpa using e2 _ _ hf, hc, _, rfl⟩) (fun c j σ' H' _ q => st_of q.2.2.1) ?_ (fun c σ' H' q => ⟨q.1, by
          have z := q.2.1
          rw [List.length_map, List.take_length] at z
          rw [z]
          unfold vsTo
          rw [tk, List.append_nil], q.2.2.2.elim fun x3 z => ⟨_, _, z⟩⟩)
      rintro c j v σ' H' hj ⟨e', hf', hc', x3', rfl⟩
      obtain ⟨x, hx, rfl⟩ : ∃ x, (p.drop 1)[j]? = some x ∧ V.str x = v := by
        rw [List.getElem?_map] at hj
        cases q : (p.drop 1)[j]? with
        | none =>
          rw [q] at hj
          cases hj
        | some x =>
          rw [q] at hj
          exact ⟨x, rfl, by simpa using hj⟩
      have hxm := List.mem_of_getElem? hx
      have hx20 := pb.2.2 x (List.mem_of_mem_drop hxm)
      have good : nameS x = true ∨ varS x = true := hg x (List.mem_flatMap.mpr ⟨p, hpm, hxm⟩)
      have tkj : (p.drop 1).take (j + 1) = (p.drop 1).take j ++ [x] := by
        rw [List.take_add_one, hx]
        rfl
      have step : vsTo ps i ((p.drop 1).take (j + 1)) = if varS x = true then plus (vsTo ps i ((p.drop 1).take j)) x else vsTo ps i ((p.drop 1).take j) := by
        unfold vsTo
        rw [tkj, ← List.append_assoc, List.filter_append, List.foldl_append, List.filter_cons, List.filter_nil]
        by_cases q : varS x = true
        · rw [if_pos q, if_pos q]
          rfl
        · rw [if_neg q, if_neg q]
          rfl
      have lenj : ((p.drop 1).take j).length ≤ 10 := by
        rw [List.length_take, List.length_drop]
        have := pb.2.1
        omega
      have test := et_and (et_test (ev_open (σ := [some (.ref a), some (.ref fa), some (.ref b), some (.str x)]) (H := H') (te := tVar 3) (ev_var rfl) (Nat.le_trans hx20 (by decide)))) (fun _ => et_test (ev_op (ev_var (i := 3) rfl) (ev_var (i := 1) rfl) (rv_niL (K := K) (sq_of hf') rfl (flat_strs _))))
      rw [inV_str] at test
      refine s_when test (fun ht H2 e2 => ?_) (fun ht H2 e2 => ?_)
      · have ht := Bool.and_eq_true_iff.mp ht
        have h1 : varS x = true := by
          rw [← open_var good]
          exact ht.1
        have h2 : ¬ x ∈ vsTo ps i ((p.drop 1).take j) := by simpa using ht.2
        refine s_app (l := fa) (e2 _ _ hf') (ev_var rfl) (ev_var rfl) (by rw [List.length_map]; have := vsTo_len hb i _ lenj; omega) fun H3 e3 => ⟨?_, ?_, ?_, _, rfl⟩
        · exact Ex.mut (e'.trans (e2.trans e3)) hfa
        · rw [upd_same, step, if_pos h1]
          unfold plus
          rw [if_neg h2, List.map_append]
          rfl
        · rw [upd_ne (fun z => by rw [z, hf'] at hc'; cases hc')]
          exact e3 _ _ (e2 _ _ hc')
      · refine ⟨e'.trans e2, ?_, e2 _ _ hc', _, rfl⟩
        rw [e2 _ _ hf', step]
        by_cases h1 : varS x = true
        · rw [if_pos h1]
          have h0 : openS x = true := by rw [open_var good]; exact h1
          have h0 : decide (V.str (cutS x none (some 1)) = V.str "?") = true := h0
          rw [h0] at ht
          have h2 : x ∈ vsTo ps i ((p.drop 1).take j) := by simpa using ht
          unfold plus
          rw [if_pos h2]
        · rw [if_neg h1]
    · rintro σ' H' ⟨e, hf, x2, x3, rfl⟩
      have z : vsTo ps us.length [] = varsOf ps := by
        unfold vsTo varsOf
        rw [hpl, List.take_length, List.append_nil]
      rw [z] at hf
      refine ⟨_, rfl, fa, varsOf ps, rfl, sq_of hf, Nat.lt_of_le_of_lt (vars_len hb) (by decide), fun ys p hp hs hn => k p ys _ (e.trans (Ex.new hn)) upd_same hp hs⟩
/-! the law's text of a pattern -/
theorem rv_addT {H : Hp} {x y : Str} (h : x.length + y.length ≤ 100000) : RV (fun x y H Q => ∃ i j, x = .str i ∧ y = .str j ∧ i.length + j.length ≤ sizeLine ∧ Q (.str (i ++ j)) H) (.str x) (.str y) H (.str (x ++ y)) := rv_addS h
theorem ok_law_text {f : Addr} {fd : FuncData} (m_list : mg "list" = none) (F : Fun K "_law_text" "_law_text" s__law_text f fd) : FnOk P w K mg base CX0 1 f fd ["_law_pattern_here"] spText := by
  refine F.ok sc__law_text (fun vs H Q E h => ?_) (fun cdv A outer s H vs Q E hr h => ?_)
  · obtain ⟨v, p, rfl, _⟩ := h
    rfl
  · obtain ⟨v, p, rfl, ⟨a, rfl, ha⟩, hb, k⟩ := h
    refine ⟨_, (pss_one (ps_ret (pe_op op_add_str (pe_op op_add_str (pe_op op_add_str (pe_ix (ix_tupK (K := K) rfl) (pv 0) pe_int (fun _ _ => rfl)) pe_str) (pe_bm PySem.F.plainAttrs_str PySem.F.slot_str_join PySem.F.type_str_join (mt_joinK (K := K) rfl) pe_str (pa_cons (pe_callTy (call_list_ofK (K := K) rfl) (by rfl) m_list (by decide +kernel) (pa_cons (pe_slice (sl_tupAK (K := K) rfl) (pv 0) (po_some pe_int) po_none) pa_nil)) pa_nil))) pe_str))), ?_⟩
    cases p with
    | nil => exact absurd hb.1 (by simp)
    | cons t r =>
      have h1 := hb.2.2 t (List.mem_cons_self ..)
      have h2 := join_len r fun x hx => hb.2.2 x (List.mem_cons_of_mem _ hx)
      have h4 := sum_len r fun x hx => hb.2.2 x (List.mem_cons_of_mem _ hx)
      have h3 := hb.2.1
      simp only [List.length_cons] at h3
      have e1 : ("(" : Str).length = 1 := rfl
      have e2 : (")" : Str).length = 1 := rfl
      have jn := ev_join (K := K) (σ := [some (V.ref a)]) (H := H) (ts := tC (.str ",")) (s := comma) (ys := r) (te := tCB (rListS K) (tCons (tSl (rSlA K) (tVar 0) (tPart (tC (.int 1))) tNoPart) tNil)) ev_c (fun H1 e1 Q q => ep_tailT (ev_var rfl) ha H1 e1 _ fun v H2 e2 ⟨b, ev, hb⟩ => ⟨b, _, by rw [ev], .inr (st_of hb), fun l hl => q (.ref l) _ (e2.trans (Ex.new hl)) ⟨l, rfl, .inr (by rw [upd_same]; simp)⟩⟩) (by
        have : comma.length = 1 := rfl
        rw [this]
        omega)
      have l1 : (t ++ ("(" : Str)).length = t.length + 1 := by rw [len_add, e1]
      have l2 : ((t ++ ("(" : Str)) ++ Str.join comma r).length = t.length + 1 + (Str.join comma r).length := by rw [len_add, l1]
      refine s_ret (v := .str (textS (t :: r))) (ev_op (ev_op (ev_op (ev_op (ev_var rfl) ev_c (rv_ixT (v := .str t) (st_of ha) (atI_nat (j := 0) rfl))) ev_c (rv_addS (by omega))) jn (rv_addS (by omega))) ev_c (rv_addS (by omega))) fun H1 e1 => k H1 e1
/-- a new list of two -/
theorem el_cat {σ : L2.St} {H : Hp} {ta tb : TE} {xs ys : List V} (ha : EvL ta σ H xs) (hb : EvL tb σ H ys) (hl : xs.length + ys.length ≤ 100000) : EvL (tOp rCat ta tb) σ H (xs ++ ys) := fun H1 e Q q =>
  ha H1 e _ fun l1 H2 hl1 e2 h2 => hb H2 (e.trans e2) _ fun l2 H3 hl2 e3 h3 => ⟨l1, l2, xs, ys, rfl, rfl, e3 _ _ h2, h3, sz_of hl, fun p hp => q p _ (fresh_back (e2.trans e3) hp) ((e2.trans e3).trans (Ex.new hp)) upd_same⟩
/-- tuple(xs) of a new list -/
theorem eu_tuple {σ : L2.St} {H : Hp} {te : TE} {xs : List V} (h : EvL te σ H xs) : EvU (tCB (rTupS K) (tCons te tNil)) σ H xs := fun H1 e Q q =>
  h H1 e _ fun l1 H2 hl1 e2 h2 => ⟨l1, xs, rfl, .inl ⟨sq_of h2, fun p hp => q p _ (fresh_back e2 hp) (e2.trans (Ex.new hp)) upd_same⟩⟩
/-! the law's reading of a text -/
theorem readS_law {x : Str} {a b : List Nat} (h : cutAt 40 x.cps.toList = some (a, b)) : x.cps.toList.getLast? = some 41 ↔ b.getLast? = some 41 := by
  obtain ⟨e, _⟩ := cutAt_some h
  rw [e]
  cases b with
  | nil => simp
  | cons c r => simp [List.getLast?_append]
theorem ok_law_of_text {f : Addr} {fd : FuncData} (T : TL K mg) (F : Fun K "_law_of_text" "_law_of_text" s__law_of_text f fd) : FnOk P w K mg base CX0 4 f fd ["_law_text_here"] (fun vs H Q E => spRead vs H Q E ∧ ∀ x, vs = [.str x] → (PyData.str x).canLay0 = true) := by
  have m_tuple := T.n.m_tuple
  obtain ⟨fP, dP, D_law_is_pattern⟩ := T._law_is_pattern
  have G_law_is_pattern : FnOk P w K mg base CX0 3 fP dP _ (spP patO) := ok_law_is_pattern T D_law_is_pattern.F
  refine F.ok sc__law_of_text (fun vs H Q E h => ?_) (fun cdv A outer s H vs Q E hr h => ?_)
  · obtain ⟨⟨x, rfl, _⟩, _⟩ := h
    rfl
  · obtain ⟨⟨x, rfl, hx, kn, ks⟩, hlay⟩ := h
    have hlay := hlay x rfl
    refine ⟨_, (pss_cons (ps_set (i := 1) sc__law_of_text.nd rfl (Or.inl rfl) (pe_bm PySem.F.plainAttrs_str PySem.F.slot_str_find PySem.F.type_str_find mt_find (pv 0) (pa_cons pe_str pa_nil)))
      (pss_cons (ps_if (PW.pt (pw_or (pt_cmpR op_lt (pv 1) pe_int (nomark _)) (pw_or1 (pt_cmpR op_ne (pe_slice sl_str (pv 0) (po_some (pe_un un_neg pe_int)) po_none) pe_str (nomark _))))) (pss_one (ps_ret pe_non)) pss_nil)
      (pss_cons (ps_set (i := 2) sc__law_of_text.nd rfl (Or.inl rfl) (pe_slice sl_str (pv 0) (po_some (pe_op op_add (pv 1) pe_int)) (po_some (pe_un un_neg pe_int))))
      (pss_cons (ps_set (i := 3) sc__law_of_text.nd rfl (Or.inl rfl) (pe_callTy (call_tuple_ofK (K := K) rfl) (by rfl) m_tuple (by decide +kernel) (pa_cons (pe_op op_cat (pe_lst (pa_cons (pe_slice sl_str (pv 0) po_none (po_some (pv 1))) pa_nil)) (pe_ifExp (pt_cmpR op_ne (pv 2) pe_str (nomark _)) (pe_bm PySem.F.plainAttrs_str PySem.F.slot_str_split PySem.F.type_str_split mt_split (pv 2) (pa_cons pe_str pa_nil)) (pe_lst pa_nil))) pa_nil)))
      (pss_one (ps_ret (pe_ifExp (pt_val (pe_call G_law_is_pattern (hr.mono (by decide)) (by rfl) D_law_is_pattern.g D_law_is_pattern.F.kp D_law_is_pattern.b .nil pass0 (pa_cons (pv 3) (pa_cons pe_bl pa_nil)))) (pv 3) pe_non))))))), ?_⟩
    have fnd : Ev (tBM K "str" (fun x xs H Q => ∃ a b, x = .str a ∧ xs = [.str b] ∧ Q (.int (Txt.find a b)) H) (tVar 0) (tCons (tC (.str "(")) tNil)) [some (.str x), none, none, none] H (.int (Txt.find x ⟨#[40]⟩)) := fun H1 e Q q => ⟨_, rfl, rfl, x, _, rfl, rfl, q H1 (Ex.refl _)⟩
    refine q_asg fnd fun H1 e1 => ?_
    have el : decide (V.str (cutS x (some (-1)) none) = V.str ")") = decide (x.cps.toList.getLast? = some 41) := by
      have i : (V.str (cutS x (some (-1)) none) = V.str ")") ↔ x.cps.toList.getLast? = some 41 := by
        rw [← last_of]
        constructor
        · intro z
          have := V.str.inj z
          rw [← cut_last, this]
          rfl
        · intro z
          congr 1
          refine str_ext ?_
          rw [cut_last, z]
          rfl
      simp only [i]
    cases hc : cutAt 40 x.cps.toList with
    | none =>
      rw [find_none (cutAt_none hc)]
      refine q_when (b := true) (et_or (b := true) (a := true) (et_test (ev_is (ev_op (ev_var rfl) ev_c (rv_I0 (g := fun i j => .bl (decide (i < j))))) rfl)) (fun z => by cases z)) (fun _ H2 e2 => ?_) (fun z => by cases z)
      exact s_ret ev_c fun H3 e3 => kn (by unfold readS; rw [hc]) H3 (e1.trans (e2.trans e3))
    | some ab =>
      obtain ⟨a, b⟩ := ab
      obtain ⟨ex, ha⟩ := cutAt_some hc
      obtain ⟨pl1, pl2⟩ := parts_len hc hx
      have hlen : a.length + b.length + 1 = x.length := by
        rw [← len_cps x, ex]
        simp
        omega
      rw [find_some ex ha]
      have ls := ev_slS (σ := [some (.str x), some (.int (a.length : Int)), none, none]) (H := H1) (te := tVar 0) (z := x) (ev_var rfl) (eo_some ev_neg1) eo_none (by omega)
      have neg : decide ((a.length : Int) < 0) = false := decide_eq_false (by omega)
      refine q_when (et_or (et_test (ev_op (ev_var rfl) ev_c (rv_I0 (g := fun i j => .bl (decide (i < j)))))) (fun _ => et_test (ev_op ls ev_c (rv_ne rfl)))) (fun hz H2 e2 => ?_) (fun hz H2 e2 => ?_)
      · refine s_ret ev_c fun H3 e3 => kn ?_ H3 (e1.trans (e2.trans e3))
        rw [neg, el] at hz
        have hg : ¬ b.getLast? = some 41 := fun z => by
          rw [decide_eq_true ((readS_law hc).mpr z)] at hz
          exact absurd hz (by decide)
        unfold readS
        rw [hc]
        exact if_neg hg
      · rw [neg, el] at hz
        have hg : b.getLast? = some 41 := (readS_law hc).mp (by
          by_cases z : x.cps.toList.getLast? = some 41
          · exact z
          · rw [decide_eq_false z] at hz
            exact absurd hz (by decide))
        -- what is inside
        have ci : cutS x (some ((a.length : Int) + 1)) (some (-1)) = ofC b.dropLast := str_ext (by
          have z := cut_mid x (a.length + 1)
          rw [Int.natCast_add] at z
          refine z.trans ?_
          rw [ofC_cps, ex, List.drop_append, List.drop_of_length_le (by omega)]
          simp)
        have ch : cutS x none (some (a.length : Int)) = ofC a := str_ext (by
          rw [cut_to x (by omega), ofC_cps, ex]
          simp)
        have sl := ev_slS (σ := [some (.str x), some (.int (a.length : Int)), none, none]) (H := H2) (te := tVar 0) (z := x) (ev_var rfl) (eo_some (ev_op (ev_var (i := 1) rfl) (ev_c (v := .int 1)) (rv_I0 (g := fun i j => .int (i + j))))) (eo_some ev_neg1) (by omega)
        rw [ci] at sl
        refine q_asg sl fun H3 e3 => ?_
        have hd := ev_slS (σ := [some (.str x), some (.int (a.length : Int)), some (.str (ofC b.dropLast)), none]) (H := H3) (te := tVar 0) (z := x) (ev_var rfl) eo_none (eo_some (ev_var (i := 1) rfl)) (by omega)
        rw [ch] at hd
        have ter : EvL (tIf (tTest (tOp rNe (tVar 2) (tC (.str "")))) (tBM K "str" (fun x xs H Q => ∃ a b, x = .str a ∧ xs = [.str b] ∧ (b.length == 0) = false ∧ a.length + 2 ≤ sizeLine ∧ rNewStrs (Txt.split a b) H Q) (tVar 2) (tCons (tC (.str ",")) tNil)) (tLst tNil))
            [some (.str x), some (.int (a.length : Int)), some (.str (ofC b.dropLast)), none] H3 ((if b.dropLast = [] then [] else Txt.split (ofC b.dropLast) comma).map V.str) := by
          refine el_if (et_test (ev_op (ev_var rfl) ev_c (rv_ne rfl))) (fun q => ?_) (fun q => ?_)
          · have nb : ¬ b.dropLast = [] := fun z => by
              rw [z] at q
              exact absurd q (by decide)
            rw [if_neg nb]
            refine el_split (ev_var rfl) ev_c rfl ?_
            rw [len_ofC, List.length_dropLast]
            omega
          · have nb : b.dropLast = [] := by
              have : V.str (ofC b.dropLast) = V.str "" := by simpa using q
              have : (ofC b.dropLast).cps.toList = [] := by
                rw [V.str.inj this]
                rfl
              rwa [ofC_cps] at this
            rw [if_pos nb]
            exact el_lst ea_nil (by decide)
        refine q_asgU (xs := (partsC a b).map V.str) (eu_tuple (el_cat (el_lst (ea_cons hd ea_nil) (by decide : (1 : Nat) ≤ 100000)) ter ?_)) fun pt H4 hpt e4 h4 => ?_
        · have : (partsC a b).length = (if b.dropLast = [] then [] else Txt.split (ofC b.dropLast) comma).length + 1 := rfl
          rw [List.length_map]
          simp only [List.length_cons, List.length_nil]
          omega
        have any := AnyS h4 pl1 pl2
        have lay : Lay (.tuple ((partsC a b).map .str)) := by
          have hS : ∀ c ∈ x.cps.toList, c < 0x110000 := by
            simp only [PyData.canLay0, PyData.strOk] at hlay
            intro c hc
            have := Array.all_eq_true'.mp hlay c (by simpa using hc)
            simpa using this
          have each : ∀ y ∈ partsC a b, ∀ c ∈ y.cps.toList, c ∈ x.cps.toList := by
            intro y hy c hcy
            rw [ex]
            unfold partsC at hy
            rcases List.mem_cons.mp hy with rfl | hy
            · rw [ofC_cps] at hcy
              exact List.mem_append_left _ hcy
            · by_cases q : b.dropLast = []
              · rw [if_pos q] at hy
                cases hy
              · rw [if_neg q] at hy
                have : c ∈ (ofC b.dropLast).cps.toList := split_mem hy hcy
                rw [ofC_cps] at this
                exact List.mem_append_right _ (List.mem_cons_of_mem _ (List.dropLast_subset b this))
          refine .inr ⟨?_, ?_⟩
          · simp only [PyData.canLay0]
            refine all_lay fun d hd => ?_
            obtain ⟨y, hy, rfl⟩ := List.mem_map.mp hd
            simp only [PyData.canLay0, PyData.strOk]
            exact Array.all_eq_true'.mpr fun c hc => decide_eq_true (hS c (each y hy c (by simpa using hc)))
          · simp only [PyData.depth]
            have : PyData.depthAll ((partsC a b).map .str) ≤ 0 := depth_all fun d hd => by
              obtain ⟨y, hy, rfl⟩ := List.mem_map.mp hd
              simp [PyData.depth]
            omega
        have isp := et_B (ev_P (f := patO) (te := tVar 3) (tb := tC (.bl true)) (σ := [some (.str x), some (.int (a.length : Int)), some (.str (ofC b.dropLast)), some (.ref pt)]) (H := H4) (v := .ref pt) (b := true) (ev_var rfl) ev_c any lay)
        refine isp H4 (Ex.refl _) _ fun H5 e5 => ?_
        have eA : Ex H H5 := e1.trans (e2.trans (e3.trans (e4.trans e5)))
        have eP : patO (.tuple ((partsC a b).map .str)) true = patD (.tuple ((partsC a b).map .str)) := rfl
        rw [eP]
        cases hq : patD (.tuple ((partsC a b).map .str)) with
        | true =>
          rw [if_pos rfl]
          refine ⟨_, rfl, ks (partsC a b) ?_ pt H5 (fresh_back (e1.trans (e2.trans e3)) hpt) eA (e5 _ _ h4)⟩
          unfold readS
          rw [hc]
          simp only [hg, hq, if_true]
        | false =>
          rw [if_neg Bool.false_ne_true]
          refine kn ?_ H5 eA
          unfold readS
          rw [hc]
          simp [hg, hq]
end
end G39

set_option maxHeartbeats 400000
namespace G39
open PySem PySem.Spec PyProof.Rows L2 Evl
abbrev s__law_fills : Stmt := topS 35
abbrev n__law_fills : List Str := ["_law_pool_here", "_law_pattern_here", "_law_one", "_law_two", "_law_three", "_law_several", "_law_known", "_law_term_here"]
theorem sc__law_fills : FnScope n__law_fills ["_law_pool_here", "_law_pattern_here"] (defScope s__law_fills) := ⟨rfl, rfl, rfl, by decide +kernel, rfl, by decide +kernel, by decide +kernel⟩
/-! good patterns -/
def GoodP (p : List Str) : Prop := patD (.tuple (p.map .str)) = true
def SOk (x : Str) : Prop := (PyData.str x).canLay0 = true
theorem sok_of {x : Str} (h : ∀ c ∈ x.cps.toList, c < 128) : SOk x := by
  unfold SOk
  simp only [PyData.canLay0, PyData.strOk]
  exact Array.all_eq_true'.mpr fun c hc => decide_eq_true (by have := h c (by simpa using hc); omega)
theorem sgn_fact : ∀ c ∈ (letters ++ digits).cps.toList, c < 128 ∧ c ≠ 40 ∧ c ≠ 41 ∧ c ≠ 44 ∧ c ≠ 63 := by decide +kernel
theorem name_parts {l : List Nat} (h : nameC l = true) : l ≠ [] ∧ l.length ≤ 12 ∧ ∀ c ∈ l, c < 128 ∧ c ≠ 40 ∧ c ≠ 41 ∧ c ≠ 44 ∧ c ≠ 63 := by
  cases l with
  | nil => cases h
  | cons c r =>
    simp only [nameC, Bool.and_eq_true, decide_eq_true_eq] at h
    refine ⟨by simp, by simp; omega, fun d hd => sgn_fact d ?_⟩
    exact of_decide_eq_true (List.all_eq_true.mp h.2.2 d hd)
/-- a name or a variable -/
def TermS (x : Str) : Prop := nameS x = true ∨ varS x = true
theorem term_parts {x : Str} (h : TermS x) : x.cps.toList ≠ [] ∧ x.length ≤ 13 ∧ ∀ c ∈ x.cps.toList, c < 128 ∧ c ≠ 40 ∧ c ≠ 41 ∧ c ≠ 44 := by
  rcases h with h | h
  · obtain ⟨h1, h2, h3⟩ := name_parts h
    rw [len_cps] at h2
    exact ⟨h1, by omega, fun c hc => ⟨(h3 c hc).1, (h3 c hc).2.1, (h3 c hc).2.2.1, (h3 c hc).2.2.2.1⟩⟩
  · have h : varC x.cps.toList = true := h
    rw [← len_cps]
    cases hx : x.cps.toList with
    | nil =>
      rw [hx] at h
      cases h
    | cons c r =>
      rw [hx] at h
      simp only [varC, Bool.and_eq_true, decide_eq_true_eq] at h
      obtain ⟨h1, h2, h3⟩ := name_parts h.2
      refine ⟨by simp, by simp; omega, fun d hd => ?_⟩
      rcases List.mem_cons.mp hd with rfl | hd
      · rw [h.1]
        decide
      · exact ⟨(h3 d hd).1, (h3 d hd).2.1, (h3 d hd).2.2.1, (h3 d hd).2.2.2.1⟩
theorem term_sok {x : Str} (h : TermS x) : SOk x := sok_of fun c hc => ((term_parts h).2.2 c hc).1
theorem good_parts {p : List Str} (h : GoodP p) : ∃ t r, p = t :: r ∧ r.length ≤ 3 ∧ nameS t = true ∧ ∀ x ∈ r, TermS x := by
  unfold GoodP at h
  cases p with
  | nil => cases h
  | cons t r =>
    simp only [List.map_cons, patD, Bool.and_eq_true, decide_eq_true_eq, List.length_map] at h
    refine ⟨t, r, rfl, h.1, h.2.1, fun x hx => ?_⟩
    have := List.all_eq_true.mp h.2.2 (.str x) (List.mem_map.mpr ⟨x, hx, rfl⟩)
    simpa [nameD, varD, TermS] using this
theorem good_of {t : Str} {r : List Str} (h1 : r.length ≤ 3) (h2 : nameS t = true) (h3 : ∀ x ∈ r, TermS x) : GoodP (t :: r) := by
  unfold GoodP
  simp only [List.map_cons, patD, Bool.and_eq_true, decide_eq_true_eq, List.length_map]
  refine ⟨h1, h2, List.all_eq_true.mpr fun d hd => ?_⟩
  obtain ⟨x, hx, rfl⟩ := List.mem_map.mp hd
  simpa [nameD, varD, TermS] using h3 x hx
theorem good_pb {p : List Str} (h : GoodP p) : PB p ∧ ∀ x ∈ p, TermS x := by
  obtain ⟨t, r, rfl, h1, h2, h3⟩ := good_parts h
  have ht : ∀ x ∈ t :: r, TermS x := fun x hx => by
    rcases List.mem_cons.mp hx with rfl | hx
    · exact .inl h2
    · exact h3 x hx
  exact ⟨⟨by simp, by simp; omega, fun x hx => by have := (term_parts (ht x hx)).2.1; omega⟩, ht⟩
theorem text_cps (t : Str) (r : List Str) : (textS (t :: r)).cps.toList = t.cps.toList ++ 40 :: ((Str.join comma r).cps.toList ++ [41]) := by
  show (((t ++ ("(" : Str)) ++ Str.join comma r) ++ (")" : Str)).cps.toList = _
  rw [cps_add, cps_add, cps_add]
  have e1 : ("(" : Str).cps.toList = [40] := rfl
  have e2 : (")" : Str).cps.toList = [41] := rfl
  rw [e1, e2]
  simp
theorem join_codes : ∀ {r : List Str}, (∀ x ∈ r, TermS x) → ∀ c ∈ (Str.join comma r).cps.toList, c < 128
  | [], _, c, hc => by
    have : (Str.join comma []).cps.toList = [] := rfl
    rw [this] at hc
    cases hc
  | [x], h, c, hc => ((term_parts (h x (List.mem_cons_self ..))).2.2 c hc).1
  | x :: y :: r, h, c, hc => by
    have : (Str.join comma (x :: y :: r)).cps.toList = _ := join_cps 44 x y r
    rw [this] at hc
    rcases List.mem_append.mp hc with hc | hc
    · exact ((term_parts (h x (List.mem_cons_self ..))).2.2 c hc).1
    · rcases List.mem_cons.mp hc with rfl | hc
      · decide
      · exact join_codes (fun z hz => h z (List.mem_cons_of_mem _ hz)) c hc
theorem text_sok {p : List Str} (h : GoodP p) : ∀ c ∈ (textS p).cps.toList, c < 128 := by
  obtain ⟨t, r, rfl, h1, h2, h3⟩ := good_parts h
  intro c hc
  rw [text_cps] at hc
  rcases List.mem_append.mp hc with hc | hc
  · exact ((name_parts h2).2.2 c hc).1
  · rcases List.mem_cons.mp hc with rfl | hc
    · decide
    · rcases List.mem_append.mp hc with hc | hc
      · exact join_codes h3 c hc
      · rw [List.mem_singleton.mp hc]
        decide
/-- what is written is read again -/
theorem read_text {p : List Str} (h : GoodP p) : readS (textS p) = some p := by
  obtain ⟨t, r, rfl, h1, h2, h3⟩ := good_parts h
  have hc : cutAt 40 (textS (t :: r)).cps.toList = some (t.cps.toList, (Str.join comma r).cps.toList ++ [41]) := by
    rw [text_cps]
    exact cutAt_of fun z => ((name_parts h2).2.2 40 z).2.1 rfl
  have hp : partsC t.cps.toList ((Str.join comma r).cps.toList ++ [41]) = t :: r := by
    unfold partsC
    rw [ofC_of, List.dropLast_concat, ofC_of]
    cases r with
    | nil => rfl
    | cons x r =>
      have hx := (term_parts (h3 x (List.mem_cons_self ..))).1
      have ne : ¬ (Str.join comma (x :: r)).cps.toList = [] := by
        cases r with
        | nil => exact hx
        | cons y r =>
          have : (Str.join comma (x :: y :: r)).cps.toList = _ := join_cps 44 x y r
          rw [this]
          simp
      rw [if_neg ne]
      have : Txt.split (Str.join comma (x :: r)) comma = x :: r := split_join (by simp) fun y hy z => ((term_parts (h3 y hy)).2.2 44 z).2.2.2 rfl
      rw [this]
  unfold readS
  rw [hc]
  simp only [List.getLast?_append, List.getLast?_singleton, Option.some_or, if_true, hp]
  exact if_pos h
/-! texts told equal -/
theorem eqv_str (x y : Str) : PyData.eqv (.str x) (.str y) = decide (x = y) := by
  simp only [PyData.eqv]
  by_cases h : x = y
  · rw [decide_eq_true h, h]
    exact beq_self_eq_true y
  · rw [decide_eq_false h]
    exact beq_eq_false_iff_ne.mpr h
theorem eqv_strs : ∀ (l : List Str), PyData.eqvAll (l.map .str) (l.map .str) = true
  | [] => rfl
  | x :: l => by
    simp only [List.map_cons, PyData.eqvAll, eqv_str, decide_true, Bool.true_and]
    exact eqv_strs l
theorem strs_ok {l : List Str} (h : ∀ x ∈ l, SOk x) : ∀ d ∈ l.map PyData.str, d.canLay0 = true ∧ d.depth ≤ 60 := fun d hd => by
  obtain ⟨x, hx, rfl⟩ := List.mem_map.mp hd
  exact ⟨h x hx, by simp [PyData.depth]⟩
section
variable {K : PySem.W.Frag} {H : Hp}
/-- two tuples of the same texts -/
theorem ne_tup {a b : Addr} {l : List Str} {Q : VK} (ha : H a = some (.tup (l.map V.str))) (hb : H b = some (.tup (l.map V.str))) (h : ∀ x ∈ l, SOk x) (q : Q (.bl false) H) : rNeD K (.ref a) (.ref b) H Q := by
  refine ⟨.tuple (l.map .str), .tuple (l.map .str), (AtS ha).dp (shaped_tup (strs_ok h)), (AtS hb).dp (shaped_tup (strs_ok h)), shaped_tup (strs_ok h), shaped_tup (strs_ok h), ?_⟩
  have : PyData.eqv (.tuple (l.map .str)) (.tuple (l.map .str)) = true := by
    simp only [PyData.eqv]
    exact eqv_strs l
  rw [this]
  exact q
theorem eq_tup {a b : Addr} {l : List Str} {Q : VK} (ha : H a = some (.tup (l.map V.str))) (hb : H b = some (.tup (l.map V.str))) (h : ∀ x ∈ l, SOk x) (q : Q (.bl true) H) : rEqD K (.ref a) (.ref b) H Q := by
  refine ⟨.tuple (l.map .str), .tuple (l.map .str), (AtS ha).dp (shaped_tup (strs_ok h)), (AtS hb).dp (shaped_tup (strs_ok h)), shaped_tup (strs_ok h), shaped_tup (strs_ok h), ?_⟩
  have : PyData.eqv (.tuple (l.map .str)) (.tuple (l.map .str)) = true := by
    simp only [PyData.eqv]
    exact eqv_strs l
  rw [this]
  exact q
theorem ne_lst {a b : Addr} {l : List Str} {Q : VK} (ha : H a = some (.lst (l.map V.str))) (hb : H b = some (.lst (l.map V.str))) (h : ∀ x ∈ l, SOk x) (q : Q (.bl false) H) : rNeD K (.ref a) (.ref b) H Q := by
  refine ⟨.list (l.map .str), .list (l.map .str), (At.lst ha (AtAll.strs l)).dp (shaped_list (strs_ok h)), (At.lst hb (AtAll.strs l)).dp (shaped_list (strs_ok h)), shaped_list (strs_ok h), shaped_list (strs_ok h), ?_⟩
  have : PyData.eqv (.list (l.map .str)) (.list (l.map .str)) = true := by
    simp only [PyData.eqv]
    exact eqv_strs l
  rw [this]
  exact q
end
/-! dicts of texts -/
def AllT (kvs : List (Key × V)) : Prop := ∀ kv ∈ kvs, ∃ y : Str, kv.2 = .str y ∧ TermS y
theorem AllT.s {kvs : List (Key × V)} (h : AllT kvs) : AllS kvs := fun kv hk => (h kv hk).elim fun y z => ⟨y, z.1⟩
theorem AllT.get {kvs : List (Key × V)} (h : AllT kvs) {x : Str} (hx : TermS x) : TermS (getS kvs x) := by
  unfold getS getV
  cases q : valV kvs (.inr x) with
  | none => exact hx
  | some v =>
    obtain ⟨kv, hm, e⟩ := valV_mem q
    obtain ⟨y, hy, ht⟩ := h kv hm
    rw [← e, hy]
    exact ht
theorem AllT.put {kvs : List (Key × V)} {k : Key} {y : Str} (h : AllT kvs) (hy : TermS y) : AllT (putK kvs k (.str y)) := by
  intro kv hkv
  unfold putK at hkv
  split at hkv
  · obtain ⟨kv0, h0, rfl⟩ := List.mem_map.mp hkv
    by_cases q : kv0.1 = k
    · rw [if_pos q]
      exact ⟨y, rfl, hy⟩
    · rw [if_neg q]
      exact h kv0 h0
  · rcases List.mem_append.mp hkv with hkv | hkv
    · exact h kv hkv
    · rw [List.mem_singleton.mp hkv]
      exact ⟨y, rfl, hy⟩
theorem AllT.merge : ∀ {l : List (Str × Str)} {kvs : List (Key × V)}, AllT kvs → (∀ q ∈ l, TermS q.2) → AllT (mergeK kvs (l.map fun q => (.inr q.1, .str q.2)))
  | [], _, h, _ => h
  | q :: l, kvs, h, hl => AllT.merge (l := l) (AllT.put h (hl q (List.mem_cons_self ..))) fun z hz => hl z (List.mem_cons_of_mem _ hz)
def DictT (v : V) (H : Hp) : Prop := ∃ d kvs, v = .ref d ∧ H d = some (.dK kvs) ∧ AllT kvs
theorem DictT.mono {v : V} {H H' : Hp} (e : Ex H H') (h : DictT v H) : DictT v H' := by
  obtain ⟨d, kvs, rfl, h1, h2⟩ := h
  exact ⟨d, kvs, rfl, e _ _ h1, h2⟩
theorem DictT.mono' : ∀ v H H', Ex H H' → DictT v H → DictT v H' := fun _ _ _ e h => h.mono e
theorem allT_nil : AllT [] := fun kv z => by cases z
section
variable {K : PySem.W.Frag} {σ : L2.St} {H : Hp}
/-- the pairs of a display -/
def EvPs (trs : List (TE × TE)) (σ : L2.St) (H : Hp) (l : List (Str × Str)) : Prop := ∀ H1, Ex H H1 → ∀ Q : List (V × V) → Hp → Prop, (∀ H2, Ex H1 H2 → Q (l.map fun q => (.str q.1, .str q.2)) H2) → tPairs trs σ H1 Q
theorem eps_nil : EvPs [] σ H [] := fun H1 e Q q => q H1 (Ex.refl _)
theorem eps_cons {ta tb : TE} {x y : Str} {r : List (TE × TE)} {l : List (Str × Str)} (h1 : Ev ta σ H (.str x)) (h2 : Ev tb σ H (.str y)) (h3 : EvPs r σ H l) : EvPs ((ta, tb) :: r) σ H ((x, y) :: l) := fun H1 e Q q =>
  h1 H1 e _ fun H2 e2 => h2 H2 (e.trans e2) _ fun H3 e3 => h3 H3 (e.trans (e2.trans e3)) _ fun H4 e4 => q H4 (e2.trans (e3.trans e4))
theorem ep_disp {trs : List (TE × TE)} {l : List (Str × Str)} (h : EvPs trs σ H l) (hl : l.length ≤ 15) (ht : ∀ q ∈ l, TermS q.2) : EvP (tDisp trs) σ H DictT := fun H1 e Q q => fun p hp =>
  h (upd H1 p (.dK [])) (e.trans (Ex.new hp)) _ fun H2 e2 => ⟨e2 _ _ upd_same, l.map (fun q => (.inr q.1, .str q.2)), by rw [List.map_map]; rfl, by rw [List.length_map]; exact hl,
    q _ _ (Ex.mut (Ex.trans (Ex.new hp) e2) hp) ⟨p, _, rfl, upd_same, AllT.merge allT_nil ht⟩⟩
theorem ep_dnew : EvP tDNewK σ H DictT := fun H1 e Q q => fun p hp => q _ _ (Ex.new hp) ⟨p, [], rfl, upd_same, allT_nil⟩
/-- arguments, each with a property that stays -/
def EvAp (ta : TA) (σ : L2.St) (H : Hp) (R : V → Hp → Prop) (n : Nat) : Prop := ∀ H1, Ex H H1 → ∀ Q : List V → Hp → Prop, (∀ vs H2, Ex H1 H2 → vs.length = n → (∀ v ∈ vs, R v H2) → Q vs H2) → ta σ H1 Q
theorem eap_nil {R : V → Hp → Prop} : EvAp tNil σ H R 0 := fun H1 e Q q => q [] H1 (Ex.refl _) rfl fun _ z => (nomatch z)
theorem eap_cons {R : V → Hp → Prop} {te : TE} {ta : TA} {n : Nat} (hm : ∀ v H H', Ex H H' → R v H → R v H') (h : EvP te σ H R) (hr : EvAp ta σ H R n) : EvAp (tCons te ta) σ H R (n + 1) := fun H1 e Q q =>
  h H1 e _ fun v H2 e2 h2 => hr H2 (e.trans e2) _ fun vs H3 e3 hl h3 => q (v :: vs) H3 (e2.trans e3) (by rw [List.length_cons, hl]) fun u hu => by
    rcases List.mem_cons.mp hu with rfl | hu
    · exact hm _ _ _ e3 h2
    · exact h3 u hu
def LstP (R : V → Hp → Prop) (n : Nat) (v : V) (H : Hp) : Prop := ∃ a vs, v = .ref a ∧ H a = some (.lst vs) ∧ vs.length = n ∧ ∀ x ∈ vs, R x H
theorem ep_lst {R : V → Hp → Prop} {ta : TA} {n : Nat} (hm : ∀ v H H', Ex H H' → R v H → R v H') (h : EvAp ta σ H R n) (hn : n ≤ 100000) : EvP (tLst ta) σ H (LstP R n) := fun H1 e Q q =>
  h H1 e _ fun vs H2 e2 hl h2 => ⟨sz_of (by rw [hl]; exact hn), fun p hp => q _ _ (e2.trans (Ex.new hp)) ⟨p, vs, rfl, upd_same, hl, fun x hx => hm _ _ _ (Ex.new hp) (h2 x hx)⟩⟩
theorem ep_catP {R : V → Hp → Prop} {ta tb : TE} {n m : Nat} (hm : ∀ v H H', Ex H H' → R v H → R v H') (ha : EvP ta σ H (LstP R n)) (hb : EvP tb σ H (LstP R m)) (hn : n + m ≤ 100000) : EvP (tOp rCat ta tb) σ H (LstP R (n + m)) := fun H1 e Q q =>
  ha H1 e _ fun v H2 e2 ⟨a, vs, ev, h2, l2, r2⟩ => hb H2 (e.trans e2) _ fun u H3 e3 ⟨b, us, eu, h3, l3, r3⟩ => ⟨a, b, vs, us, ev, eu, e3 _ _ h2, h3, by rw [l2, l3]; exact sz_of hn, fun p hp =>
    q _ _ ((e2.trans e3).trans (Ex.new hp)) ⟨p, _, rfl, upd_same, by rw [List.length_append, l2, l3], fun x hx => by
      rcases List.mem_append.mp hx with hx | hx
      · exact hm _ _ _ (e3.trans (Ex.new hp)) (r2 x hx)
      · exact hm _ _ _ (Ex.new hp) (r3 x hx)⟩⟩
theorem q_asgP {R : V → Hp → Prop} {te : TE} {i : Nat} {tz : TS} {D : Ends} (h : EvP te σ H R) (k : ∀ v H1, Ex H H1 → R v H1 → tz D (σ.set i (some v)) H1) : tSeq (tAsg te (gName i)) tz D σ H := h H (Ex.refl H) _ fun v H1 e r => k v H1 e r
theorem s_forNP {R : V → Hp → Prop} {n : Nat} {tl : TE} {g : TG} {tu : TS} {D : Ends} (h : EvP tl σ H (LstP R n)) (Pv : Addr → List V → Nat → L2.St → Hp → Prop) (h0 : ∀ a vs H1, Ex H H1 → H1 a = some (.lst vs) → vs.length = n → (∀ x ∈ vs, R x H1) → Pv a vs 0 σ H1) (hl : ∀ a vs i σ' H', i ≤ vs.length → Pv a vs i σ' H' → SqL K H' a vs)
    (hs : ∀ a vs i x σ' H', vs[i]? = some x → Pv a vs i σ' H' → g x σ' H' fun σ2 H2 => tu { D with nx := Pv a vs (i + 1), ct := Pv a vs (i + 1), bk := D.nx } σ2 H2) (hd : ∀ a vs σ' H', Pv a vs vs.length σ' H' → D.nx σ' H') : tFor (iList K tl) g tu D σ H :=
  h H (Ex.refl H) _ fun v H1 e ⟨a, vs, ev, ha, hn, hr⟩ => ⟨a, ev, ⟨vs, sq_of ha⟩, for_list (Pv a vs) (h0 a vs H1 e ha hn hr) (hl a vs) (hs a vs) (hd a vs)⟩
theorem q_forNP {R : V → Hp → Prop} {n : Nat} {tl : TE} {g : TG} {tu tz : TS} {D : Ends} (h : EvP tl σ H (LstP R n)) (Pv : Addr → List V → Nat → L2.St → Hp → Prop) (h0 : ∀ a vs H1, Ex H H1 → H1 a = some (.lst vs) → vs.length = n → (∀ x ∈ vs, R x H1) → Pv a vs 0 σ H1) (hl : ∀ a vs i σ' H', i ≤ vs.length → Pv a vs i σ' H' → SqL K H' a vs)
    (hs : ∀ a vs i x σ' H', vs[i]? = some x → Pv a vs i σ' H' → g x σ' H' fun σ2 H2 => tu { D with nx := Pv a vs (i + 1), ct := Pv a vs (i + 1), bk := tz D } σ2 H2) (hd : ∀ a vs σ' H', Pv a vs vs.length σ' H' → tz D σ' H') : tSeq (tFor (iList K tl) g tu) tz D σ H :=
  s_forNP (D := { D with nx := tz D }) h Pv h0 hl hs hd
end
/-- the pool: its texts -/
def PoolC (H : Hp) (po : Addr) (cs vs : List Str) : Prop := ∃ r c v, H po = some (.lst [r, .ref c, .ref v]) ∧ H c = some (.lst (cs.map V.str)) ∧ H v = some (.lst (vs.map V.str)) ∧ 2 ≤ cs.length ∧ cs.length ≤ 10 ∧ vs.length = 9 ∧ (∀ x ∈ cs, nameS x = true) ∧ ∀ x ∈ vs, varS x = true
def spFills : Sp := fun vs H Q _ => ∃ (po : Addr) (v : V) (cs xs p : List Str), vs = [.ref po, v] ∧ PoolC H po cs xs ∧ Pt H v p ∧ GoodP p ∧ ∀ H', Ex H H' → Q (.bl true) H'
section
variable {P : Program} {w : World} {K : PySem.W.Frag} {mg : Str → Option Value} {base : Heap}
theorem ok_law_fills {f fF : Addr} {fd dF : FuncData} (m_tuple : mg "tuple" = none) (Dfilled : DefAt K mg "filled" s_filled ["pattern", "known"] fF dF) (F : Fun K "_law_fills" "_law_fills" s__law_fills f fd) : FnOk P w K mg base CX0 2 f fd ["_law_pool_here", "_law_pattern_here"] spFills := by
  have Gfilled : FnOk P w K mg base CX0 1 fF dF _ spFilled := ok_filled Dfilled.F
  refine F.ok sc__law_fills (fun vs H Q E h => ?_) (fun cdv A outer s H vs Q E hr h => ?_)
  · obtain ⟨po, v, cs, xs, p, rfl, _⟩ := h
    rfl
  · obtain ⟨po, v, cs, xs, p, rfl, ⟨rr, c, va, hpo, hc, hv, hc2, hc3, hv9, hcn, hvn⟩, ⟨a, rfl, ha⟩, hg, k⟩ := h
    refine ⟨_, (pss_cons (ps_asg (pe_slice (sl_listK (K := K) rfl) (pe_ix (ix_listK (K := K) rfl) (pv 0) pe_int (fun _ _ => rfl)) po_none (po_some pe_int)) (pg_lst (by rfl) (pgs_cons (pg_name (i := 2) sc__law_fills.nd rfl (Or.inl rfl)) (pgs_cons (pg_name (i := 3) sc__law_fills.nd rfl (Or.inl rfl)) (pgs_cons (pg_name (i := 4) sc__law_fills.nd rfl (Or.inl rfl)) pgs_nil)))))
      (pss_cons (ps_set (i := 5) sc__law_fills.nd rfl (Or.inl rfl) (pe_lst (pa_cons (pe_disp (pps_cons (pv 2) (pe_ix (ix_listK (K := K) rfl) (pe_ix (ix_listK (K := K) rfl) (pv 0) pe_int (fun _ _ => rfl)) pe_int (fun _ _ => rfl)) (pps_cons (pv 3) (pv 4) (pps_cons pe_str (pe_ix (ix_listK (K := K) rfl) (pe_ix (ix_listK (K := K) rfl) (pv 0) pe_int (fun _ _ => rfl)) pe_int (fun _ _ => rfl)) pps_nil))) (by rfl) (by rfl) (fun z => by cases z) (by decide)) (pa_cons (pe_disp (pps_cons (pv 2) (pv 3) (pps_cons (pv 3) (pv 2) pps_nil)) (by rfl) (by rfl) (fun z => by cases z) (by decide)) (pa_cons (pe_disp (pps_cons (pv 2) (pv 3) (pps_cons (pv 3) (pe_ix (ix_listK (K := K) rfl) (pe_ix (ix_listK (K := K) rfl) (pv 0) pe_int (fun _ _ => rfl)) pe_int (fun _ _ => rfl)) pps_nil)) (by rfl) (by rfl) (fun z => by cases z) (by decide)) (pa_cons pe_dnewK pa_nil))))))
      (pss_cons (ps_for PassesOwn.never rfl (pi_listK (K := K) rfl (pe_op op_cat (pv 5) (pe_lst (pa_cons (pe_disp (pps_cons (pv 3) (pv 4) (pps_cons (pv 4) (pv 2) (pps_cons (pv 2) (pv 2) pps_nil))) (by rfl) (by rfl) (fun z => by cases z) (by decide)) pa_nil)))) (pg_name (i := 6) sc__law_fills.nd rfl (Or.inr rfl)) (pss_one (ps_if (pt_cmpR (op_neDK (K := K) rfl hr.units) (pe_call Gfilled (hr.mono (by decide)) (by rfl) Dfilled.g Dfilled.F.kp Dfilled.b .nil pass0 (pa_cons (pv 1) (pa_cons (pv 6) pa_nil))) (pe_callTy (call_tuple_ofK (K := K) rfl) (by rfl) m_tuple (by decide +kernel) (pa_cons (pe_op op_cat (pe_lst (pa_cons (pe_ix (ix_tupK (K := K) rfl) (pv 1) pe_int (fun _ _ => rfl)) pa_nil)) (pe_lc (own := [("_law_term_here", 7)]) (g := gName 7) (tt := tYes) rfl sc__law_fills.nd (pi_tupK (K := K) rfl (pe_slice (sl_tupAK (K := K) rfl) (pv 1) (po_some pe_int) po_none)) (blkOk_by (N := n__law_fills) (sc := defScope s__law_fills) (by decide +kernel)) (fun _ _ _ _ _ => pg_name (i := 7) sc__law_fills.nd rfl (Or.inl rfl)) (fun _ _ _ _ _ => pts_nil) (fun _ _ _ _ _ => (pe_dget2 (Nat.lt_of_le_of_lt (Nat.add_le_add_left (by decide) _) hr.units) (pv 6) (pv 7) (pv 7) ⟨rfl, rfl, rfl, rfl⟩)))) pa_nil)) (nomark _)) (pss_one (ps_ret pe_bl)) pss_nil)))
      (pss_one (ps_ret pe_bl))))), ?_⟩
    obtain ⟨pb, pt⟩ := good_pb hg
    obtain ⟨t, r, rfl, hr3, hnt, hrt⟩ := good_parts hg
    obtain ⟨x1, x2, x3, xr, rfl⟩ : ∃ x1 x2 x3 xr, xs = x1 :: x2 :: x3 :: xr := by
      match xs, hv9 with
      | a :: b :: c :: r, _ => exact ⟨a, b, c, r, rfl⟩
    obtain ⟨c1, c2, cr, rfl⟩ : ∃ c1 c2 cr, cs = c1 :: c2 :: cr := by
      match cs, hc2 with
      | a :: b :: r, _ => exact ⟨a, b, r, rfl⟩
    have t1 : TermS x1 := .inr (hvn x1 (by simp))
    have t2 : TermS x2 := .inr (hvn x2 (by simp))
    have t3 : TermS x3 := .inr (hvn x3 (by simp))
    have t4 : TermS c1 := .inl (hcn c1 (by simp))
    have t5 : TermS c2 := .inl (hcn c2 (by simp))
    -- one, two, three
    have sl := el_sl (K := K) (σ := [some (.ref po), some (.ref a), none, none, none, none, none, none]) (H := H) (te := tOp (rIxL K) (tVar 0) (tC (.int 2))) (lo := none) (hi := some 3) (ev_op (ev_var rfl) ev_c (rv_ixL (v := .ref va) (sq_of hpo) (atI_nat (j := 2) rfl))) eo_none (eo_some ev_c) (sq_of hv)
    have cut : cutV ((x1 :: x2 :: x3 :: xr).map V.str) none (some 3) = [.str x1, .str x2, .str x3] := by
      unfold cutV
      have e : HT.sIx ((x1 :: x2 :: x3 :: xr).map V.str).length ((x1 :: x2 :: x3 :: xr).map V.str).length (some 3) = min 3 ((x1 :: x2 :: x3 :: xr).map V.str).length := HT.sIx_nat _ _ 3
      rw [e, HT.sIx_none]
      have m : min 3 ((x1 :: x2 :: x3 :: xr).map V.str).length = 3 := by simp
      rw [m]
      rfl
    rw [cut] at sl
    refine sl H (Ex.refl _) _ fun l0 H0 hl0 e0 h0 => ?_
    refine ⟨l0, _, rfl, sq_of h0, rfl, _, _, rfl, _, _, rfl, _, _, rfl, rfl, ?_⟩
    -- the dicts
    have cix : ∀ {σ : L2.St} {H1 : Hp} {i : Nat} {x : Str}, Ex H H1 → σ[0]? = some (some (.ref po)) → ((c1 :: c2 :: cr).map V.str)[i]? = some (.str x) → Ev (tOp (rIxL K) (tOp (rIxL K) (tVar 0) (tC (.int 1))) (tC (.int (i : Int)))) σ H1 (.str x) := fun {σ H1 i x} e hσ hx =>
      ev_op (ev_op (ev_var hσ) ev_c (rv_ixL (v := .ref c) (sq_of (e _ _ hpo)) (atI_nat (j := 1) rfl))) ev_c (rv_ixL (sq_of (e _ _ hc)) (atI_nat hx))
    have several := ep_lst (σ := [some (.ref po), some (.ref a), some (.str x1), some (.str x2), some (.str x3), none, none, none]) (H := H0) (R := DictT) DictT.mono' (eap_cons (R := DictT) DictT.mono' (ep_disp (eps_cons (ev_var (i := 2) rfl) (cix (i := 0) e0 rfl rfl) (eps_cons (ev_var (i := 3) rfl) (ev_var (i := 4) rfl) (eps_cons (ev_c (v := .str "?zz")) (cix (i := 1) e0 rfl rfl) eps_nil))) (by simp) (fun q hq => by
        simp only [List.mem_cons, List.not_mem_nil, or_false] at hq
        rcases hq with rfl | rfl | rfl
        · exact t4
        · exact t3
        · exact t5)) (eap_cons (R := DictT) DictT.mono' (ep_disp (eps_cons (ev_var (i := 2) rfl) (ev_var (i := 3) rfl) (eps_cons (ev_var (i := 3) rfl) (ev_var (i := 2) rfl) eps_nil)) (by simp) (fun q hq => by
        simp only [List.mem_cons, List.not_mem_nil, or_false] at hq
        rcases hq with rfl | rfl
        · exact t2
        · exact t1)) (eap_cons (R := DictT) DictT.mono' (ep_disp (eps_cons (ev_var (i := 2) rfl) (ev_var (i := 3) rfl) (eps_cons (ev_var (i := 3) rfl) (cix (i := 0) e0 rfl rfl) eps_nil)) (by simp) (fun q hq => by
        simp only [List.mem_cons, List.not_mem_nil, or_false] at hq
        rcases hq with rfl | rfl
        · exact t2
        · exact t4)) (eap_cons (R := DictT) DictT.mono' ep_dnew eap_nil)))) (by decide)
    refine q_asgP several fun v H1 e1 ⟨sv, dv, ev, hsv, hdl, hdv⟩ => ?_
    rw [ev]
    have last := ep_lst (σ := [some (.ref po), some (.ref a), some (.str x1), some (.str x2), some (.str x3), some (.ref sv), none, none]) (H := H1) (R := DictT) DictT.mono' (eap_cons (R := DictT) DictT.mono' (ep_disp (eps_cons (ev_var (i := 3) rfl) (ev_var (i := 4) rfl) (eps_cons (ev_var (i := 4) rfl) (ev_var (i := 2) rfl) (eps_cons (ev_var (i := 2) rfl) (ev_var (i := 2) rfl) eps_nil))) (by simp) (fun q hq => by
        simp only [List.mem_cons, List.not_mem_nil, or_false] at hq
        rcases hq with rfl | rfl | rfl
        · exact t3
        · exact t1
        · exact t1)) eap_nil) (by decide)
    have all5 := ep_catP (R := DictT) DictT.mono' (ta := tVar 5) (fun H2 e2 Q q => ⟨_, rfl, q _ H2 (Ex.refl _) ⟨sv, dv, rfl, e2 _ _ hsv, hdl, fun x hx => (hdv x hx).mono e2⟩⟩) last (by decide)
    refine q_forNP (K := K) all5 (fun l vs i σ' H' => Ex H H' ∧ H' l = some (.lst vs) ∧ (∀ x ∈ vs, DictT x H') ∧ ∃ y, σ' = [some (.ref po), some (.ref a), some (.str x1), some (.str x2), some (.str x3), some (.ref sv), y, none]) (fun l vs H2 e2 hl2 _ hr2 => ⟨e0.trans (e1.trans e2), hl2, hr2, _, rfl⟩) (fun l vs i σ' H' _ q => sq_of q.2.1) ?_ ?_
    · rintro l vs i x σ' H' hi ⟨eH, hl, hds, y, rfl⟩
      obtain ⟨d, kvs, rfl, hd, hk⟩ := hds x (List.mem_of_getElem? hi)
      have sok : ∀ z ∈ fillS kvs (t :: r), SOk z := fun z hz => by
        rcases List.mem_cons.mp hz with rfl | hz
        · exact term_sok (.inl hnt)
        · obtain ⟨u, hu, rfl⟩ := List.mem_map.mp hz
          exact term_sok (hk.get (hrt u hu))
      refine s_when (b := false) (et_test (fun H2 e2 Q2 q2 => ?_)) (fun z => by cases z) (fun _ H2 e2 => ⟨eH.trans e2, e2 _ _ hl, fun x hx => (hds x hx).mono e2, _, rfl⟩)
      refine ⟨_, rfl, _, rfl, .ref a, d, t :: r, kvs, rfl, ⟨a, rfl, (eH.trans e2) _ _ ha⟩, pb, e2 _ _ hd, hk.s, fun q1 H3 hq1 e3 h3 => ?_⟩
      have tup := eu_tuple (K := K) (el_cat (σ := [some (.ref po), some (.ref a), some (.str x1), some (.str x2), some (.str x3), some (.ref sv), some (.ref d), none]) (H := H3) (el_lst (ea_cons (ev_op (ev_var (i := 1) rfl) ev_c (rv_ixT (K := K) (v := .str t) (st_of ((eH.trans (e2.trans e3)) _ _ ha)) (atI_nat (j := 0) rfl))) ea_nil) (by decide : (1 : Nat) ≤ 100000))
        (el_rest (K := K) (p := t :: r) (g := getS kvs) (te := tDGet2 (tVar 6) (tVar 7) (tVar 7)) (tv := tVar 1) (j := 7) (vs := [7]) (ev_var rfl) ((eH.trans (e2.trans e3)) _ _ ha) (by simp; omega) (fun _ => rfl) (fun x hx H4 e4 => ev_get2 (ev_var rfl) (ev_var rfl) (ev_var rfl) ((e2.trans (e3.trans e4)) _ _ hd) hk.s)) (by simp; omega))
      refine tup H3 (Ex.refl _) _ fun q2' H4 hq2 e4 h4 => ?_
      exact ne_tup (l := fillS kvs (t :: r)) (e4 _ _ h3) (by simpa [fillS] using h4) sok (q2 H4 (e3.trans e4))
    · rintro l vs σ' H' ⟨eH, _, _, y, rfl⟩
      exact s_ret ev_c fun H2 e2 => k H2 (eH.trans e2)
end
end G39

namespace G39
open PySem PySem.Spec PyProof.Rows L2 Evl
abbrev s__law_by_name : Stmt := topS 36
abbrev n__law_by_name : List Str := ["_law_pattern_here"]
theorem sc__law_by_name : FnScope n__law_by_name ["_law_pattern_here"] (defScope s__law_by_name) := ⟨rfl, rfl, rfl, by decide +kernel, rfl, by decide +kernel, by decide +kernel⟩
/-! calls by name -/
section
variable {X : Cx} {CX : CXT} {k : Nat} {f : Addr} {fd : FuncData} {ps ks : List Str} {sp : Sp} {E : XK} {x : Str} {p pos : Pos} {kws : List Keyword} {tk : TA} {g : List Value → List Value → List Value} {gV : List V → List V → List V}
def tCallK0 (sp : Sp) (gV : List V → List V → List V) (E : XK) (tk : TA) : TE := fun σ H Q => tk σ H fun zs H2 => sp (gV [] zs) H2 Q E
theorem pe_callK0 (F : FnOk X.prog X.w X.K X.mg X.base CX k f fd ps sp) (hr : Room k X.A) (hg : Gl X x) (hm : X.mg x = some (.ref f)) (hk : PySem.W.keepIn X.K (.ref f) = true) (hb : KBinds X.K fd ps ks g gV) (hx : Passes CX X E)
    (hkw : PK X kws tk) (hall : (backToKw pos (keywordEach kws X.env)).all (·.1.isSome) = true := by rfl) (hks : (backToKw pos (keywordEach kws X.env)).filterMap (·.1) = ks := by rfl)
    (hdb : (x == ("__debug__" : Str)) = false := by decide)
    (hpl : ((backTo pos (starEach [] X.env)).any (·.1) || (backToKw pos (keywordEach kws X.env)).any (·.1.isNone)) = false := by rfl) :
    PE X (.Call (.Name x p) [] kws pos) (tCallK0 sp gV E tk) := by
  refine ⟨fun pins s σ H Q I h => ?_⟩
  refine wpAny_Call_Name_kw (ld_glob I hg hm ?_ hdb)
  refine PySem.W.callWith_KW0 (h₀ := X.base) I.ok.mod.kin hk hall (thn (hkw.run pos pins s σ H _ I h) fun ws s2 ⟨zs, H2, I2, rz, q2⟩ => ⟨I2.kIn, ?_⟩) hpl
  rw [hks]
  exact run_fnk (us := []) (vs := []) F hr hb hx I2 .nil rz q2
end
def g1 {α : Type} (us ws : List α) : List α := match us with
  | [] => ws
  | _ => []
def g2 {α : Type} (us ws : List α) : List α := match us, ws with
  | [], [a, b] => [b, a]
  | _, _ => []
theorem g1_rel {vs zs : List V} {us ws : List Value} (h1 : Vals vs us) (h2 : Vals zs ws) : Vals (g1 vs zs) (g1 us ws) := by
  cases h1 with
  | nil => exact h2
  | cons _ _ => exact .nil
theorem g2_rel {vs zs : List V} {us ws : List Value} (h1 : Vals vs us) (h2 : Vals zs ws) : Vals (g2 vs zs) (g2 us ws) := by
  cases h1 with
  | cons _ _ => cases h2 <;> exact .nil
  | nil =>
    cases h2 with
    | nil => exact .nil
    | cons a r =>
      cases r with
      | nil => exact .nil
      | cons b r =>
        cases r with
        | nil => exact .cons b (.cons a .nil)
        | cons _ _ => exact .nil
/-- one parameter, by its name -/
def KB1 (K : PySem.W.Frag) (fd : FuncData) (x : Str) : Prop := KBinds K fd [x] [x] g1 g1
def KB2 (K : PySem.W.Frag) (fd : FuncData) (x y : Str) : Prop := KBinds K fd [x, y] [y, x] g2 g2
theorem kb1 {K : PySem.W.Frag} {fd : FuncData} {x : Str} (h : ∀ w : Value, bindArgs fd ⟨[], [(x, w)]⟩ = pure [(x, w)]) : KB1 K fd x := ⟨fun s us ws _ hl => by
  cases us with
  | cons _ _ => cases hl
  | nil =>
    match ws, hl with
    | [w], _ => exact .of_eq (h w), g1_rel⟩
theorem kb2 {K : PySem.W.Frag} {fd : FuncData} {x y : Str} (h : ∀ u w : Value, bindArgs fd ⟨[], [(y, u), (x, w)]⟩ = pure [(x, w), (y, u)]) : KB2 K fd x y := ⟨fun s us ws _ hl => by
  cases us with
  | cons _ _ => cases ws <;> cases hl
  | nil =>
    match ws, hl with
    | [u, w], _ => exact .of_eq (h u w), g2_rel⟩
def spGood : Sp := fun vs H Q _ => ∃ (v : V) (p : List Str), vs = [v] ∧ Pt H v p ∧ GoodP p ∧ ∀ H', Ex H H' → Q (.bl true) H'
/-- what the top has written for it -/
structure TB (K : PySem.W.Frag) (mg : Str → Option Value) : Prop where
  v : TV K mg
  l : TL K mg
  is_name : ∃ f fd, DefAt K mg "is_name" s_is_name ["value"] f fd ∧ KB1 K fd "value"
  is_variable : ∃ f fd, DefAt K mg "is_variable" s_is_variable ["value"] f fd ∧ KB1 K fd "value"
  is_pattern : ∃ f fd, DefAt K mg "is_pattern" s_is_pattern ["value"] f fd ∧ KB1 K fd "value"
  is_fact : ∃ f fd, DefAt K mg "is_fact" s_is_fact ["value"] f fd ∧ KB1 K fd "value"
  variables_of : ∃ f fd, DefAt K mg "variables_of" s_variables_of ["lot"] f fd ∧ KB1 K fd "lot"
  filled : ∃ f fd, DefAt K mg "filled" s_filled ["pattern", "known"] f fd ∧ KB2 K fd "pattern" "known"
  read_pattern : ∃ f fd, DefAt K mg "read_pattern" s_read_pattern ["text"] f fd ∧ KB1 K fd "text"
  pattern_text : ∃ f fd, DefAt K mg "pattern_text" s_pattern_text ["pattern"] f fd ∧ KB1 K fd "pattern"
section
variable {K : PySem.W.Frag} {σ : L2.St} {H : Hp} {te : TE} {v : V} {d : PyData}
theorem ev_Bk {f : PyData → Bool} (h : Ev te σ H v) (hv : Any H v d) : Ev (tCallK0 (spB f) g1 E0 (tCons te tNil)) σ H (.bl (f d)) := fun H1 e Q q =>
  h H1 e _ fun H2 e2 => ⟨v, d, rfl, hv.mono (e.trans e2), fun H3 e3 => q H3 (e2.trans e3)⟩
theorem ev_BTk {f : PyData → Bool} (h : Ev te σ H v) (hv : AnyT H v d) : Ev (tCallK0 (spBT f) g1 E0 (tCons te tNil)) σ H (.bl (f d)) := fun H1 e Q q =>
  h H1 e _ fun H2 e2 => ⟨v, d, rfl, hv.mono (e.trans e2), fun H3 e3 => q H3 (e2.trans e3)⟩
theorem ep_callKL {sp : Sp} {R : V → Hp → Prop} {xs : List V} (h : EvL te σ H xs) (hs : ∀ p H1, Ex H H1 → H1 p = some (.lst xs) → ∀ Q : VK, (∀ v H2, Ex H1 H2 → R v H2 → Q v H2) → sp [.ref p] H1 Q E0) : EvP (tCallK0 sp g1 E0 (tCons te tNil)) σ H R := fun H1 e Q q =>
  h H1 e _ fun p H2 hp e2 h2 => hs p H2 (e.trans e2) h2 Q fun v H3 e3 r => q v H3 (e2.trans e3) r
theorem ep_callL {sp : Sp} {R : V → Hp → Prop} {xs : List V} (h : EvL te σ H xs) (hs : ∀ p H1, Ex H H1 → H1 p = some (.lst xs) → ∀ Q : VK, (∀ v H2, Ex H1 H2 → R v H2 → Q v H2) → sp [.ref p] H1 Q E0) : EvP (tCall sp [] E0 (tCons te tNil)) σ H R := fun H1 e Q q =>
  h H1 e _ fun p H2 hp e2 h2 => hs p H2 (e.trans e2) h2 Q fun v H3 e3 r => q v H3 (e2.trans e3) r
theorem ev_callKU {sp : Sp} {z : V} {xs : List V} (h : EvU te σ H xs) (hs : ∀ p H1, Ex H H1 → H1 p = some (.tup xs) → ∀ Q : VK, (∀ H2, Ex H1 H2 → Q z H2) → sp [.ref p] H1 Q E0) : Ev (tCallK0 sp g1 E0 (tCons te tNil)) σ H z := fun H1 e Q q =>
  h H1 e _ fun p H2 hp e2 h2 => hs p H2 (e.trans e2) h2 Q fun H3 e3 => q H3 (e2.trans e3)
theorem eqv_bls : ∀ (l m : List Bool), PyData.eqvAll (l.map .bool) (m.map .bool) = decide (l = m)
  | [], [] => rfl
  | [], _ :: _ => rfl
  | _ :: _, [] => rfl
  | a :: l, b :: m => by
    simp only [List.map_cons, PyData.eqvAll, PyData.eqv, eqv_bls l m]
    cases a <;> cases b <;> simp
theorem bls_ok (l : List Bool) : ∀ d ∈ l.map PyData.bool, d.canLay0 = true ∧ d.depth ≤ 60 := fun d hd => by
  obtain ⟨x, hx, rfl⟩ := List.mem_map.mp hd
  exact ⟨rfl, by simp [PyData.depth]⟩
/-- two lists of truths -/
theorem ne_bls {a b : Addr} {l m : List Bool} {Q : VK} (ha : H a = some (.lst (l.map V.bl))) (hb : H b = some (.lst (m.map V.bl))) (q : Q (.bl (!decide (l = m))) H) : rNeD K (.ref a) (.ref b) H Q := by
  refine ⟨.list (l.map .bool), .list (m.map .bool), (At.lst ha (AtAll.bls l)).dp (shaped_list (bls_ok l)), (At.lst hb (AtAll.bls m)).dp (shaped_list (bls_ok m)), shaped_list (bls_ok l), shaped_list (bls_ok m), ?_⟩
  have : PyData.eqv (.list (l.map .bool)) (.list (m.map .bool)) = decide (l = m) := by
    simp only [PyData.eqv]
    exact eqv_bls l m
  rw [this]
  exact q
theorem eq_bls {a b : Addr} {l m : List Bool} {Q : VK} (ha : H a = some (.lst (l.map V.bl))) (hb : H b = some (.lst (m.map V.bl))) (q : Q (.bl (decide (l = m))) H) : rEqD K (.ref a) (.ref b) H Q := by
  refine ⟨.list (l.map .bool), .list (m.map .bool), (At.lst ha (AtAll.bls l)).dp (shaped_list (bls_ok l)), (At.lst hb (AtAll.bls m)).dp (shaped_list (bls_ok m)), shaped_list (bls_ok l), shaped_list (bls_ok m), ?_⟩
  have : PyData.eqv (.list (l.map .bool)) (.list (m.map .bool)) = decide (l = m) := by
    simp only [PyData.eqv]
    exact eqv_bls l m
  rw [this]
  exact q
end
theorem vars_term {ps : List (List Str)} {x : Str} (h : x ∈ varsOf ps) : varS x = true := by
  have sub : ∀ (l L : List Str), x ∈ l.foldl plus L → x ∈ L ∨ x ∈ l := by
    intro l
    induction l with
    | nil => exact fun L h => .inl h
    | cons y l ih =>
      intro L h
      rcases ih (plus L y) h with h | h
      · unfold plus at h
        split at h
        · exact .inl h
        · rcases List.mem_append.mp h with h | h
          · exact .inl h
          · exact .inr (by rw [List.mem_singleton.mp h]; exact List.mem_cons_self ..)
      · exact .inr (List.mem_cons_of_mem _ h)
  rcases sub _ _ h with h | h
  · cases h
  · exact (List.mem_filter.mp h).2
section
variable {P : Program} {w : World} {K : PySem.W.Frag} {mg : Str → Option Value} {base : Heap}
theorem AnyGood {H : Hp} {a : Addr} {p : List Str} (h : H a = some (.tup (p.map V.str))) (hg : GoodP p) : AnyT H (.ref a) (.tuple (p.map .str)) := by
  obtain ⟨pb, _⟩ := good_pb hg
  exact AnyS h (by have := pb.2.1; omega) fun y hy => by have := pb.2.2 y hy; omega
theorem fill_nil (p : List Str) : fillS [] p = p := by
  cases p with
  | nil => rfl
  | cons t r =>
    show t :: r.map (getS []) = t :: r
    have : getS [] = id := by
      funext x
      rfl
    rw [this, List.map_id]
theorem ok_law_by_name {f : Addr} {fd : FuncData} (T : TB K mg) (F : Fun K "_law_by_name" "_law_by_name" s__law_by_name f fd) : FnOk P w K mg base CX0 5 f fd ["_law_pattern_here"] spGood := by
  obtain ⟨f1, d1, Dis_name, Bis_name⟩ := T.is_name
  obtain ⟨f2, d2, Dis_variable, Bis_variable⟩ := T.is_variable
  obtain ⟨f3, d3, Dis_pattern, Bis_pattern⟩ := T.is_pattern
  obtain ⟨f4, d4, Dis_fact, Bis_fact⟩ := T.is_fact
  obtain ⟨f5, d5, Dvariables_of, Bvariables_of⟩ := T.variables_of
  obtain ⟨f6, d6, Dfilled, Bfilled⟩ := T.filled
  obtain ⟨f7, d7, Dread_pattern, Bread_pattern⟩ := T.read_pattern
  obtain ⟨f8, d8, Dpattern_text, Bpattern_text⟩ := T.pattern_text
  have Gis_name : FnOk P w K mg base CX0 1 f1 d1 _ (spB nameD) := ok_is_name T.l.n Dis_name.F
  have Gis_variable : FnOk P w K mg base CX0 2 f2 d2 _ (spB varD) := ok_is_variable T.l.n Dis_variable.F
  have Gis_pattern : FnOk P w K mg base CX0 3 f3 d3 _ (spBT patD) := ok_is_pattern T.l.n Dis_pattern.F
  have Gis_fact : FnOk P w K mg base CX0 4 f4 d4 _ (spBT factD) := ok_is_fact T.l.n Dis_fact.F
  have Gvariables_of : FnOk P w K mg base CX0 3 f5 d5 _ spVars := ok_variables_of T.v Dvariables_of.F
  have Gfilled : FnOk P w K mg base CX0 1 f6 d6 _ spFilled := ok_filled Dfilled.F
  have Gread_pattern : FnOk P w K mg base CX0 4 f7 d7 _ spRead := ok_read_pattern T.l.n T.l.n.is_pattern Dread_pattern.F
  have Gpattern_text : FnOk P w K mg base CX0 1 f8 d8 _ spText := ok_pattern_text Dpattern_text.F
  refine F.ok sc__law_by_name (fun vs H Q E h => ?_) (fun cdv A outer s H vs Q E hr h => ?_)
  · obtain ⟨v, p, rfl, _⟩ := h
    rfl
  · obtain ⟨v, p, rfl, ⟨a, rfl, ha⟩, hg, k⟩ := h
    refine ⟨_, (pss_cons (ps_if (pt_cmpR (op_neDK (K := K) rfl hr.units) (pe_lst (pa_cons (pe_callK0 Gis_name (hr.mono (by decide)) (by rfl) Dis_name.g Dis_name.F.kp Bis_name pass0 (pk_cons (pe_ix (ix_tupK (K := K) rfl) (pv 0) pe_int (fun _ _ => rfl)) pk_nil)) (pa_cons (pe_callK0 Gis_variable (hr.mono (by decide)) (by rfl) Dis_variable.g Dis_variable.F.kp Bis_variable pass0 (pk_cons (pe_ix (ix_tupK (K := K) rfl) (pv 0) pe_int (fun _ _ => rfl)) pk_nil)) (pa_cons (pe_callK0 Gis_pattern (hr.mono (by decide)) (by rfl) Dis_pattern.g Dis_pattern.F.kp Bis_pattern pass0 (pk_cons (pv 0) pk_nil)) pa_nil)))) (pe_lst (pa_cons pe_bl (pa_cons pe_bl (pa_cons pe_bl pa_nil)))) (nomark _)) (pss_one (ps_ret pe_bl)) pss_nil)
      (pss_cons (ps_if (PW.pt (pw_or (pt_cmpR (op_neDK (K := K) rfl hr.units) (pe_callK0 Gvariables_of (hr.mono (by decide)) (by rfl) Dvariables_of.g Dvariables_of.F.kp Bvariables_of pass0 (pk_cons (pe_lst (pa_cons (pv 0) pa_nil)) pk_nil)) (pe_call Gvariables_of (hr.mono (by decide)) (by rfl) Dvariables_of.g Dvariables_of.F.kp Dvariables_of.b .nil pass0 (pa_cons (pe_lst (pa_cons (pv 0) pa_nil)) pa_nil)) (nomark _)) (pw_or1 (pt_cmpR (op_neDK (K := K) rfl hr.units) (pe_callK0 Gfilled (hr.mono (by decide)) (by rfl) Dfilled.g Dfilled.F.kp Bfilled pass0 (pk_cons pe_dnewK (pk_cons (pv 0) pk_nil))) (pv 0) (nomark _))))) (pss_one (ps_ret pe_bl)) pss_nil)
      (pss_one (ps_ret (pe_and (pe_cmpR (op_eqDK (K := K) rfl hr.units) (pe_callK0 Gread_pattern (hr.mono (by decide)) (by rfl) Dread_pattern.g Dread_pattern.F.kp Bread_pattern pass0 (pk_cons (pe_callK0 Gpattern_text (hr.mono (by decide)) (by rfl) Dpattern_text.g Dpattern_text.F.kp Bpattern_text pass0 (pk_cons (pv 0) pk_nil)) pk_nil)) (pv 0) (nomark _)) (pe_one (pe_callK0 Gis_fact (hr.mono (by decide)) (by rfl) Dis_fact.g Dis_fact.F.kp Bis_fact pass0 (pk_cons (pe_tup (pa_cons pe_str pa_nil)) pk_nil)))))))), ?_⟩
    obtain ⟨pb, pt⟩ := good_pb hg
    obtain ⟨t, r, rfl, hr3, hnt, hrt⟩ := good_parts hg
    have ht20 := pb.2.2 t (List.mem_cons_self ..)
    have nv : varD (.str t) = false := by
      show varS t = false
      cases q : varS t with
      | false => rfl
      | true =>
        rw [varS_eq] at q
        have := name_open (Bool.and_eq_true_iff.mp q).1
        rw [hnt] at this
        cases this
    have first : ∀ {H1 : Hp}, Ex H H1 → Ev (tOp (rIxT K) (tVar 0) (tC (.int 0))) [some (V.ref a)] H1 (.str t) := fun {H1} e => ev_op (ev_var rfl) ev_c (rv_ixT (v := .str t) (st_of (e _ _ ha)) (atI_nat (j := 0) rfl))
    have anyt : ∀ {H1 : Hp}, Any H1 (.str t) (.str t) := AnyStr (by omega)
    -- by their names
    have l1 := el_lst (σ := [some (V.ref a)]) (H := H) (ea_cons (ev_Bk (f := nameD) (first (Ex.refl _)) anyt) (ea_cons (ev_Bk (f := varD) (first (Ex.refl _)) anyt) (ea_cons (ev_BTk (f := patD) (ev_var (i := 0) rfl) (AnyGood ha hg)) ea_nil))) (by decide : (3 : Nat) ≤ 100000)
    have l2 := el_lst (σ := [some (V.ref a)]) (H := H) (ea_cons (ev_c (v := .bl true)) (ea_cons (ev_c (v := .bl false)) (ea_cons (ev_c (v := .bl true)) ea_nil))) (by decide : (3 : Nat) ≤ 100000)
    have c0 := ev_opLL (r := rNeD K) (z := .bl (!decide ([nameD (.str t), varD (.str t), patD (.tuple ((t :: r).map .str))] = [true, false, true]))) l1 l2 fun p q H1 hp hq e => rv_val fun H2 e2 Q k => ne_bls (l := [nameD (.str t), varD (.str t), patD (.tuple ((t :: r).map .str))]) (m := [true, false, true]) (e2 _ _ hp) (e2 _ _ hq) k
    have c1 := ev_is c0 (w := .bl false) (by
      have e1 : nameD (.str t) = true := hnt
      have e3' : patD (.tuple ((t :: r).map .str)) = true := hg
      rw [e1, nv, e3']
      rfl)
    refine q_when (et_test c1) (fun z => by cases z) (fun _ H1 e1 => ?_)
    have ha1 := e1 _ _ ha
    -- the variables, filled
    have lot : ∀ {H2 : Hp}, Ex H H2 → LB [t :: r] ∧ Pt H2 (.ref a) (t :: r) := fun {H2} e => ⟨⟨by simp, fun p hp => by rw [List.mem_singleton.mp hp]; exact pb⟩, a, rfl, e _ _ ha⟩
    have ll : ∀ {H2 : Hp}, Ex H1 H2 → EvL (tLst (tCons (tVar 0) tNil)) [some (V.ref a)] H2 [.ref a] := fun {H2} e => el_lst (ea_cons (ev_var (i := 0) rfl) ea_nil) (by decide : (1 : Nat) ≤ 100000)
    have vs1 : ∀ p H2, Ex H1 H2 → H2 p = some (.lst [.ref a]) → ∀ Q : VK, (∀ v H3, Ex H2 H3 → (∃ p ys, v = .ref p ∧ H3 p = some (.lst (ys.map V.str)) ∧ ys.Perm (varsOf [t :: r]) ∧ sortedS ys = true) → Q v H3) → spVars [.ref p] H2 Q E0 := fun p H2 e2 h2 Q q =>
      ⟨.ref p, [t :: r], rfl, ⟨p, _, rfl, .inl h2, .cons (lot (e1.trans e2)).2 .nil⟩, (lot (e1.trans e2)).1, fun q1 ys H4 e4 h4 pm sr => q _ H4 e4 ⟨q1, ys, rfl, h4, pm, sr⟩⟩
    have v1 := ep_callKL (ll (Ex.refl _)) vs1
    have v2 : ∀ {H2 : Hp}, Ex H1 H2 → EvP (tCall spVars [] E0 (tCons (tLst (tCons (tVar 0) tNil)) tNil)) [some (V.ref a)] H2 fun v H' => ∃ p ys, v = .ref p ∧ H' p = some (.lst (ys.map V.str)) ∧ ys.Perm (varsOf [t :: r]) ∧ sortedS ys = true := fun {H2} e0 => ep_callL (ll e0) fun p H3 e3 h3 Q q => vs1 p H3 (e0.trans e3) h3 Q q
    have c2 : Ev (tOp (rNeD K) (tCallK0 spVars g1 E0 (tCons (tLst (tCons (tVar 0) tNil)) tNil)) (tCall spVars [] E0 (tCons (tLst (tCons (tVar 0) tNil)) tNil))) [some (V.ref a)] H1 (.bl false) := fun H2 e Q q =>
      v1 H2 e _ fun v H3 e3 ⟨q1, ys, ev, h4, pm, sr⟩ => v2 (e.trans e3) H3 (Ex.refl _) _ fun u H5 e5 ⟨q2, zs, eu, h6, pm2, sr2⟩ => by
        have ez : zs = ys := sorted_one sr2 sr (pm2.trans pm.symm)
        rw [ez] at h6
        rw [ev, eu]
        exact ne_lst (e5 _ _ h4) h6 (fun x hx => term_sok (.inr (vars_term (pm.mem_iff.mp hx)))) (q H5 (e3.trans e5))
    have c3 : Ev (tOp (rNeD K) (tCallK0 spFilled g2 E0 (tCons tDNewK (tCons (tVar 0) tNil))) (tVar 0)) [some (V.ref a)] H1 (.bl false) := fun H2 e Q q => fun d hd =>
      ⟨_, rfl, .ref a, d, t :: r, [], rfl, ⟨a, rfl, (e.trans (Ex.new hd)) _ _ ha1⟩, pb, upd_same, allT_nil.s, fun b H3 hb e3 h3 => ⟨_, rfl, by
        rw [fill_nil] at h3
        exact ne_tup h3 ((e.trans ((Ex.new hd).trans e3)) _ _ ha1) (fun x hx => term_sok (pt x hx)) (q H3 ((Ex.new hd).trans e3))⟩⟩
    refine q_when (et_or (et_test c2) fun _ => et_test c3) (fun z => by cases z) (fun _ H2 e2 => ?_)
    -- read again
    have c4 : Ev (tOp (rEqD K) (tCallK0 spRead g1 E0 (tCons (tCallK0 spText g1 E0 (tCons (tVar 0) tNil)) tNil)) (tVar 0)) [some (V.ref a)] H2 (.bl true) := fun H3 e Q q => by
      refine ⟨_, rfl, .ref a, t :: r, rfl, ⟨a, rfl, (e2.trans e) _ _ ha1⟩, pb, fun H4 e4 => ?_⟩
      refine ⟨textS (t :: r), rfl, Nat.le_trans (text_len pb) (by decide), fun z => ?_, fun p' z b H5 hb e5 h5 => ?_⟩
      · rw [read_text hg] at z
        cases z
      · rw [read_text hg] at z
        cases z
        exact ⟨_, rfl, eq_tup h5 ((e2.trans (e.trans (e4.trans e5))) _ _ ha1) (fun x hx => term_sok (pt x hx)) (q H5 (e4.trans e5))⟩
    have tu := eu_tup (σ := [some (V.ref a)]) (H := H2) (ea_cons (ev_c (v := .str "a")) ea_nil) (by decide : (1 : Nat) ≤ 100000)
    have c5 := ev_callKU (sp := spBT factD) (z := .bl true) tu fun b H4 e4 h4 Q q => ⟨.ref b, .tuple [.str "a"], rfl, AnyS (p := ["a"]) h4 (by decide) (fun y hy => by rw [List.mem_singleton.mp hy]; decide), fun H5 e5 => by
          have z : factD (.tuple [.str "a"]) = true := by decide +kernel
          rw [z]
          exact q H5 e5⟩
    exact s_ret (ev_andV c4 fun _ => c5) fun H3 e3 => k H3 (e1.trans (e2.trans e3))
end
end G39

/-! draws: the law's source, a list of three numbers at sa, changes; all else stays -/
namespace G39
open PySem PySem.Spec PyProof.Rows L2 Evl
/-- the source of draws at sa: at most n of them so far -/
def Src (H : Hp) (sa : Addr) (n : Nat) : Prop := ∃ (cell cur : Int) (c : Nat), H sa = some (.lst [.int cell, .int cur, .int c]) ∧ c ≤ n ∧ Builtin.Int.intBits cell ≤ 1048576
/-- all but the object at a stays -/
def XB (a : Addr) (H H' : Hp) : Prop := ∀ b o, b ≠ a → H b = some o → H' b = some o
theorem XB.refl (a : Addr) (H : Hp) : XB a H H := fun _ _ _ h => h
theorem XB.trans {a : Addr} {H H1 H2 : Hp} (x : XB a H H1) (y : XB a H1 H2) : XB a H H2 := fun b o n h => y b o n (x b o n h)
theorem XB.ex {a : Addr} {H H1 : Hp} (x : Ex H H1) : XB a H H1 := fun b o _ h => x b o h
theorem XB.upd {a : Addr} {H : Hp} {o : HO} : XB a H (L2.upd H a o) := fun b u n h => by
  rw [upd_ne n]
  exact h
theorem Src.mono {H : Hp} {sa : Addr} {n m : Nat} (h : Src H sa n) (hm : n ≤ m) : Src H sa m := by
  obtain ⟨c, u, k, h1, h2, h3⟩ := h
  exact ⟨c, u, k, h1, by omega, h3⟩
theorem Src.ex {H H' : Hp} {sa : Addr} {n : Nat} (h : Src H sa n) (e : Ex H H') : Src H' sa n := by
  obtain ⟨c, u, k, h1, h2, h3⟩ := h
  exact ⟨c, u, k, e _ _ h1, h2, h3⟩
theorem Src.keep {H H' : Hp} {sa : Addr} {n : Nat} (h : Src H sa n) (e : ∀ o, H sa = some o → H' sa = some o) : Src H' sa n := by
  obtain ⟨c, u, k, h1, h2, h3⟩ := h
  exact ⟨c, u, k, e _ h1, h2, h3⟩
theorem Src.ne {H : Hp} {sa p : Addr} {n : Nat} (h : Src H sa n) (hp : H p = none) : p ≠ sa := fun z => by
  obtain ⟨c, u, k, h1, _⟩ := h
  rw [z, h1] at hp
  cases hp
theorem Src.neT {H : Hp} {sa p : Addr} {n : Nat} {xs : List V} (h : Src H sa n) (hp : H p = some (.tup xs)) : p ≠ sa := fun z => by
  obtain ⟨c, u, k, h1, _⟩ := h
  rw [z, h1] at hp
  cases hp
theorem xb_back {sa : Addr} {H H' : Hp} {p : Addr} (x : XB sa H H') (hne : p ≠ sa) (h : H' p = none) : H p = none := by
  cases q : H p with
  | none => rfl
  | some o =>
    rw [x p o hne q] at h
    cases h
def spSource : Sp := fun vs H Q _ => ∃ cell : Int, vs = [.int cell] ∧ Builtin.Int.intBits cell ≤ 1048576 ∧ ∀ p H', H p = none → Ex H H' → Src H' p 0 → Q (.ref p) H'
def spDraw : Sp := fun vs H Q _ => ∃ (sa : Addr) (n : Nat) (lim : Int), vs = [.ref sa, .int lim] ∧ Src H sa n ∧ n ≤ 1000000 ∧ 0 < lim ∧ lim ≤ 1000000 ∧
  ∀ (v : Int) H', 0 ≤ v → v < lim → XB sa H H' → Src H' sa (n + 1) → Q (.int v) H'
theorem rc_int {H : Hp} {i : Int} : RC (fun xs H Q => (∃ i, xs = [.int i] ∧ Q (.int i) H) ∨ ∃ k, xs = [.bl k] ∧ Q (.int (if k then 1 else 0)) H) [.int i] H (.int i) :=
  fun H1 _ _ q => .inl ⟨i, rfl, q H1 (Ex.refl H1)⟩
theorem ev_int {σ : L2.St} {H : Hp} {te : TE} {i : Int} (h : Ev te σ H (.int i)) : Ev (tCB (fun xs H Q => (∃ i, xs = [.int i] ∧ Q (.int i) H) ∨ ∃ k, xs = [.bl k] ∧ Q (.int (if k then 1 else 0)) H) (tCons te tNil)) σ H (.int i) :=
  ev_cb (ea_cons h ea_nil) rc_int
theorem ev_ixL {K : PySem.W.Frag} {σ : L2.St} {H : Hp} {p : Addr} {xs : List V} {i : Nat} {j : Nat} {v : V} (hs : σ[i]? = some (some (.ref p))) (h : H p = some (.lst xs)) (hx : xs[j]? = some v) : Ev (tOp (rIxL K) (tVar i) (tC (.int (j : Int)))) σ H v :=
  ev_op (ev_var hs) ev_c (rv_ixL (sq_of h) (atI_nat hx))
/-! what is evaluated, with k draws at most -/
def Ed (sa : Addr) (k : Nat) (te : TE) (σ : L2.St) (H : Hp) (R : V → Hp → Prop) : Prop := ∀ H1 n, XB sa H H1 → Src H1 sa n → n + k ≤ 100000 → ∀ Q : VK, (∀ v H2, XB sa H1 H2 → Src H2 sa (n + k) → R v H2 → Q v H2) → te σ H1 Q
section
variable {K : PySem.W.Frag} {sa : Addr} {σ : L2.St} {H : Hp} {te ta tb : TE} {k : Nat} {R : V → Hp → Prop}
theorem ed_pure {v : V} (h : ∀ H1, XB sa H H1 → Ev te σ H1 v) : Ed sa 0 te σ H (fun u _ => u = v) := fun H1 n x s hn Q q =>
  h H1 x H1 (Ex.refl _) _ fun H2 e => q v H2 (XB.ex e) (s.ex e) rfl
theorem ed_P (h : ∀ H1, XB sa H H1 → EvP te σ H1 R) : Ed sa 0 te σ H R := fun H1 n x s hn Q q =>
  h H1 x H1 (Ex.refl _) _ fun v H2 e r => q v H2 (XB.ex e) (s.ex e) r
theorem Ed.weak {m : Nat} (h : Ed sa k te σ H R) (hm : k ≤ m) : Ed sa m te σ H R := fun H1 n x s hn Q q =>
  h H1 n x s (by omega) Q fun v H2 x2 s2 r => q v H2 x2 (s2.mono (by omega)) r
theorem Ed.imp {R' : V → Hp → Prop} (h : Ed sa k te σ H R) (hr : ∀ v H1, R v H1 → R' v H1) : Ed sa k te σ H R' := fun H1 n x s hn Q q =>
  h H1 n x s hn Q fun v H2 x2 s2 r => q v H2 x2 s2 (hr v H2 r)
theorem Ed.mono {H' : Hp} (h : Ed sa k te σ H R) (x : XB sa H H') : Ed sa k te σ H' R := fun H1 n y s hn Q q => h H1 n (x.trans y) s hn Q q
/-- a draw -/
theorem ed_draw {i : Nat} {tl : TE} {lim : Nat} (hi : σ[i]? = some (some (.ref sa))) (hl : ∀ H1, XB sa H H1 → Ev tl σ H1 (.int (lim : Int))) (h0 : 0 < lim) (h1 : lim ≤ 100000) : Ed sa 1 (tCall spDraw [] E0 (tCons (tVar i) (tCons tl tNil))) σ H (fun v _ => ∃ m : Nat, v = .int m ∧ m < lim) := fun H1 n x s hn Q q =>
  ⟨_, hi, hl H1 x H1 (Ex.refl _) _ fun H2 e => ⟨sa, n, (lim : Int), rfl, s.ex e, by omega, by omega, by omega, fun v H3 v0 v1 x3 s3 => q (.int v) H3 ((XB.ex e).trans x3) s3 ⟨v.toNat, by rw [Int.toNat_of_nonneg v0], by omega⟩⟩⟩
/-- a statement with draws -/
theorem q_asgD {i n : Nat} {tz : TS} {D : Ends} (h : Ed sa k te σ H R) (s : Src H sa n) (hn : n + k ≤ 100000) (kk : ∀ v H1, XB sa H H1 → Src H1 sa (n + k) → R v H1 → tz D (σ.set i (some v)) H1) : tSeq (tAsg te (gName i)) tz D σ H :=
  h H n (XB.refl _ _) s hn _ fun v H1 x s1 r => kk v H1 x s1 r
theorem s_asgD {i n : Nat} {D : Ends} (h : Ed sa k te σ H R) (s : Src H sa n) (hn : n + k ≤ 100000) (kk : ∀ v H1, XB sa H H1 → Src H1 sa (n + k) → R v H1 → D.nx (σ.set i (some v)) H1) : tAsg te (gName i) D σ H :=
  h H n (XB.refl _ _) s hn _ fun v H1 x s1 r => kk v H1 x s1 r
theorem s_retD {n : Nat} {D : Ends} (h : Ed sa k te σ H R) (s : Src H sa n) (hn : n + k ≤ 100000) (kk : ∀ v H1, XB sa H H1 → Src H1 sa (n + k) → R v H1 → D.rt v H1) : tRet te D σ H :=
  h H n (XB.refl _ _) s hn _ fun v H1 x s1 r => kk v H1 x s1 r
/-- an item of a new list, by a draw -/
theorem ed_pick {xs : List V} (h : ∀ H1, XB sa H H1 → EvL ta σ H1 xs) (hd : Ed sa k tb σ H fun v _ => ∃ m : Nat, v = .int m ∧ m < xs.length) : Ed sa k (tOp (rIxL K) ta tb) σ H fun v _ => v ∈ xs := fun H1 n x s hn Q q =>
  h H1 x H1 (Ex.refl _) _ fun l H2 hl e hl2 => hd H2 n (x.trans (XB.ex e)) (s.ex e) hn _ fun v H3 x3 s3 ⟨m, ev, hm⟩ =>
    ⟨l, xs, m, xs[m], rfl, ev, sq_of (x3 _ _ (s.ne hl) hl2), atI_nat (List.getElem?_eq_getElem hm), q _ H3 ((XB.ex e).trans x3) s3 (List.getElem_mem hm)⟩
/-- of a known list apart from the source -/
theorem ed_pickA {xs : List V} {l : Addr} (h : ∀ H1, XB sa H H1 → Ev ta σ H1 (.ref l)) (hl : H l = some (.lst xs)) (hne : l ≠ sa) (hd : Ed sa k tb σ H fun v _ => ∃ m : Nat, v = .int m ∧ m < xs.length) : Ed sa k (tOp (rIxL K) ta tb) σ H fun v _ => v ∈ xs := fun H1 n x s hn Q q =>
  h H1 x H1 (Ex.refl _) _ fun H2 e => hd H2 n (x.trans (XB.ex e)) (s.ex e) hn _ fun v H3 x3 s3 ⟨m, ev, hm⟩ =>
    ⟨l, xs, m, xs[m], rfl, ev, sq_of (((x.trans (XB.ex e)).trans x3) _ _ hne hl), atI_nat (List.getElem?_eq_getElem hm), q _ H3 ((XB.ex e).trans x3) s3 (List.getElem_mem hm)⟩
/-- a sign of a text, by a draw -/
theorem ed_pickS {z : Str} (h : ∀ H1, XB sa H H1 → Ev ta σ H1 (.str z)) (hz : z.length ≤ 100000) (hd : Ed sa k tb σ H fun v _ => ∃ m : Nat, v = .int m ∧ m < z.cps.toList.length) : Ed sa k (tOp rIxS ta tb) σ H fun v _ => ∃ c ∈ z.cps.toList, v = .str ⟨#[c]⟩ := fun H1 n x s hn Q q =>
  h H1 x H1 (Ex.refl _) _ fun H2 e => hd H2 n (x.trans (XB.ex e)) (s.ex e) hn _ fun v H3 x3 s3 ⟨m, ev, hm⟩ =>
    ⟨z, m, z.cps.toList[m], rfl, ev, sz_of hz, atI_nat (List.getElem?_eq_getElem hm), q _ H3 ((XB.ex e).trans x3) s3 ⟨_, List.getElem_mem hm, rfl⟩⟩
/-- a + draw -/
theorem ed_plus {i : Nat} {lim : Nat} (h : ∀ H1, XB sa H H1 → Ev ta σ H1 (.int (i : Int))) (hd : Ed sa k tb σ H fun v _ => ∃ m : Nat, v = .int m ∧ m < lim) : Ed sa k (tOp (rI0 fun i j => .int (i + j)) ta tb) σ H fun v _ => ∃ m : Nat, v = .int m ∧ i ≤ m ∧ m < i + lim := fun H1 n x s hn Q q =>
  h H1 x H1 (Ex.refl _) _ fun H2 e => hd H2 n (x.trans (XB.ex e)) (s.ex e) hn _ fun v H3 x3 s3 ⟨m, ev, hm⟩ =>
    ⟨i, m, rfl, ev, q _ H3 ((XB.ex e).trans x3) s3 ⟨i + m, by simp, by omega, by omega⟩⟩
/-- [e for _ in range(..)], with draws in both -/
theorem ed_lcR {ta : TA} {j k0 kk N : Nat} {vs : List Nat} {Pm : Nat → Prop} {R : Addr → V → Hp → Prop}
    (hta : ∀ H1 n, XB sa H H1 → Src H1 sa n → n + k0 ≤ 100000 → ∀ Q : List V → Hp → Prop, (∀ (m : Nat) H2, XB sa H1 H2 → Src H2 sa (n + k0) → Pm m → Q [.int (m : Int)] H2) → ta σ H1 Q) (hP : ∀ m, Pm m → m ≤ N) (hN : N ≤ 1000)
    (hw : ∀ x, wipe ((wipe σ vs).set j (some x)) vs = wipe σ vs)
    (mono : ∀ D y H H', R D y H → (∀ b o, b ≠ sa → b ≠ D → H b = some o → H' b = some o) → R D y H')
    (he : ∀ (i : Nat) D H3 ys n, i < N → XB sa H H3 → H D = none → H3 D = some (.lst ys) → Src H3 sa n → n + kk ≤ 100000 → ∀ Q : VK, (∀ y H4, XB sa H3 H4 → Src H4 sa (n + kk) → R D y H4 → Q y H4) → te ((wipe σ vs).set j (some (.int (i : Int)))) H3 Q) :
    Ed sa (k0 + N * kk) (tLc (iRng1 ta) (gName j) tYes te vs) σ H fun v H' => ∃ D ys, v = .ref D ∧ H D = none ∧ D ≠ sa ∧ H' D = some (.lst ys) ∧ Pm ys.length ∧ ∀ y ∈ ys, R D y H' := fun H1 n x s hn Q q => by
  refine hta H1 n x s (by omega) _ fun m H2 x2 s2 pm => ⟨m, rfl, ?_, ?_, fun D hD => ?_⟩
  · have := hP m pm
    omega
  · have := hP m pm
    omega
  have hmN := hP m pm
  have hne : D ≠ sa := s2.ne hD
  have hDH : H D = none := xb_back (x.trans x2) hne hD
  have xD : ∀ H', XB sa H2 H' → XB sa H H' := fun H' y => (x.trans x2).trans y
  have em : ((m : Int)).toNat = m := by simp
  rw [em]
  refine lc_range (lo := 0) (n := m) (fun i H' => (∀ b o, b ≠ sa → b ≠ D → H2 b = some o → H' b = some o) ∧ Src H' sa (n + k0 + i * kk) ∧ ∃ ys, H' D = some (.lst ys) ∧ ys.length = i ∧ ∀ y ∈ ys, R D y H') ⟨fun b o h1 h2 h => by rw [upd_ne h2]; exact h, by
      rw [Nat.zero_mul, Nat.add_zero]
      exact s2.ex (Ex.new hD), [], upd_same, rfl, fun _ z => by cases z⟩ (fun i H' hi p => ?_) (fun H' p => ?_)
  · obtain ⟨p1, p2, ys, p3, p4, p5⟩ := p
    have e0 : (0 : Int) + (i : Int) = (i : Int) := Int.zero_add _
    show wipe ((wipe σ vs).set j (some (.int ((0 : Int) + (i : Int))))) vs = wipe σ vs ∧ tYes ((wipe σ vs).set j (some (.int ((0 : Int) + (i : Int))))) H' fun b H3 => _
    rw [e0]
    refine ⟨hw _, ?_⟩
    have xH : XB sa H H' := fun b o hb h => p1 b o hb (fun z => by rw [z, hDH] at h; cases h) ((x.trans x2) b o hb h)
    have le1 : i * kk + kk ≤ N * kk := by
      rw [← Nat.succ_mul]
      exact Nat.mul_le_mul_right _ (by omega)
    refine he i D H' ys (n + k0 + i * kk) (by omega) xH hDH p3 p2 (by omega) _ fun y H4 x4 s4 r => ⟨ys, x4 _ _ hne p3, by rw [p4]; exact sz_lt (by omega), ?_, ?_, ys ++ [y], upd_same, by rw [List.length_append, p4]; rfl, ?_⟩
    · intro b o h1 h2 h
      rw [upd_ne h2]
      exact x4 b o h1 (p1 b o h1 h2 h)
    · have e2 : n + k0 + (i + 1) * kk = n + k0 + i * kk + kk := by rw [Nat.succ_mul, ← Nat.add_assoc]
      rw [e2]
      exact s4.keep fun o h => by rw [upd_ne (Ne.symm hne)]; exact h
    · intro u hu
      rcases List.mem_append.mp hu with hu | hu
      · exact mono D u H' _ (p5 u hu) fun b o h1 h2 h => by rw [upd_ne h2]; exact x4 b o h1 h
      · rw [List.mem_singleton.mp hu]
        exact mono D y H4 _ r fun b o h1 h2 h => by rw [upd_ne h2]; exact h
  · obtain ⟨p1, p2, ys, p3, p4, p5⟩ := p
    have le1 : m * kk ≤ N * kk := Nat.mul_le_mul_right _ hmN
    exact q _ H' (fun b o hb h => p1 b o hb (fun z => by rw [z] at h; rw [xb_back x2 hne hD] at h; cases h) (x2 b o hb h)) (p2.mono (by omega)) ⟨D, ys, rfl, hDH, hne, p3, by rw [p4]; exact pm, p5⟩
end
end G39

namespace G39
open PySem PySem.Spec PyProof.Rows L2 Evl
abbrev s__law_source : Stmt := topS 15
abbrev n__law_source : List Str := ["_law_cell"]
theorem sc__law_source : FnScope n__law_source ["_law_cell"] (defScope s__law_source) := ⟨rfl, rfl, rfl, by decide +kernel, rfl, by decide +kernel, by decide +kernel⟩
abbrev s__law_draw : Stmt := topS 16
abbrev n__law_draw : List Str := ["_law_source_here", "_law_limit", "_law_digit", "_law_mixed"]
theorem sc__law_draw : FnScope n__law_draw ["_law_source_here", "_law_limit"] (defScope s__law_draw) := ⟨rfl, rfl, rfl, by decide +kernel, rfl, by decide +kernel, by decide +kernel⟩
abbrev s__law_name : Stmt := topS 17
abbrev n__law_name : List Str := ["_law_source_here", "_law_letters", "_law_size", "_law_found", "_law_k"]
theorem sc__law_name : FnScope n__law_name ["_law_source_here"] (defScope s__law_name) := ⟨rfl, rfl, rfl, by decide +kernel, rfl, by decide +kernel, by decide +kernel⟩
abbrev s__law_names : Stmt := topS 18
abbrev n__law_names : List Str := ["_law_source_here", "_law_many", "_law_found", "_law_k", "_law_name_here", "_law_spare", "_law_one", "_law_j"]
theorem sc__law_names : FnScope n__law_names ["_law_source_here", "_law_many"] (defScope s__law_names) := ⟨rfl, rfl, rfl, by decide +kernel, rfl, by decide +kernel, by decide +kernel⟩
section
variable {P : Program} {w : World} {K : PySem.W.Frag} {mg : Str → Option Value} {base : Heap}
theorem ok_source {f : Addr} {fd : FuncData} (F : Fun K "_law_source" "_law_source" s__law_source f fd) : FnOk P w K mg base CX0 1 f fd ["_law_cell"] spSource := by
  refine F.ok sc__law_source (fun vs H Q E h => ?_) (fun cdv A outer s H vs Q E hr h => ?_)
  · obtain ⟨cell, rfl, _⟩ := h
    rfl
  · obtain ⟨cell, rfl, hb, k⟩ := h
    refine ⟨_, (pss_one (ps_ret (pe_lst (pa_cons (pv 0) (pa_cons (pv 0) (pa_cons pe_int pa_nil)))))), ?_⟩
    refine ⟨_, rfl, _, rfl, (by show 3 ≤ sizeLine; decide), fun p np => ?_⟩
    exact k p _ np (Ex.new np) ⟨cell, cell, 0, upd_same, Nat.le_refl _, hb⟩
theorem ok_draw {f : Addr} {fd : FuncData} (m_int : mg "int" = none) (F : Fun K "_law_draw" "_law_draw" s__law_draw f fd) : FnOk P w K mg base CX0 1 f fd ["_law_source_here", "_law_limit"] spDraw := by
  refine F.ok sc__law_draw (fun vs H Q E h => ?_) (fun cdv A outer s H vs Q E hr h => ?_)
  · obtain ⟨sa, n, lim, rfl, _⟩ := h
    rfl
  · obtain ⟨sa, n, lim, rfl, ⟨cell, cur, c, hs, hc, hb⟩, hn, hl0, hl1, k⟩ := h
    refine ⟨_, (pss_cons (ps_asg (pe_op op_add (pe_ix (ix_listK (K := K) rfl) (pv 0) pe_int (fun _ _ => rfl)) pe_int) (pg_sub (pv 0) pe_int set_list))
      (pss_cons (ps_if (pt_cmpR op_ge (pe_ix (ix_listK (K := K) rfl) (pv 0) pe_int (fun _ _ => rfl)) (pe_op op_powW pe_int pe_int) (nomark _)) (pss_cons (ps_set (i := 2) sc__law_draw.nd rfl (Or.inl rfl) (pe_op op_mod (pe_callTy call_int1 (by rfl) m_int PyProof.Rows.boot_int (pa_cons (pe_ix (ix_listK (K := K) rfl) (pv 0) pe_int (fun _ _ => rfl)) pa_nil)) (pv 1)))
      (pss_cons (ps_asg (pe_op op_fdiv (pe_ix (ix_listK (K := K) rfl) (pv 0) pe_int (fun _ _ => rfl)) (pv 1)) (pg_sub (pv 0) pe_int set_list))
      (pss_one (ps_ret (pv 2))))) pss_nil)
      (pss_cons (ps_set (i := 3) sc__law_draw.nd rfl (Or.inl rfl) (pe_op op_mod (pe_callTy call_int1 (by rfl) m_int PyProof.Rows.boot_int (pa_cons (pe_op op_powW (pe_callTy call_int1 (by rfl) m_int PyProof.Rows.boot_int (pa_cons (pe_op op_add (pe_op op_add (pe_op op_mul (pe_callTy call_int1 (by rfl) m_int PyProof.Rows.boot_int (pa_cons (pe_ix (ix_listK (K := K) rfl) (pv 0) pe_int (fun _ _ => rfl)) pa_nil)) pe_int) (pe_op op_mul (pe_ix (ix_listK (K := K) rfl) (pv 0) pe_int (fun _ _ => rfl)) pe_int)) pe_int) pa_nil)) pe_int) pa_nil)) pe_int))
      (pss_cons (ps_set (i := 3) sc__law_draw.nd rfl (Or.inl rfl) (pe_op op_mod (pe_callTy call_int1 (by rfl) m_int PyProof.Rows.boot_int (pa_cons (pe_op op_powW (pe_callTy call_int1 (by rfl) m_int PyProof.Rows.boot_int (pa_cons (pe_op op_add (pv 3) (pe_op op_mul (pe_op op_mul (pe_ix (ix_listK (K := K) rfl) (pv 0) pe_int (fun _ _ => rfl)) (pe_ix (ix_listK (K := K) rfl) (pv 0) pe_int (fun _ _ => rfl))) pe_int)) pa_nil)) pe_int) pa_nil)) pe_int))
      (pss_one (ps_ret (pe_op op_mod (pe_op op_fdiv (pv 3) pe_int) (pv 1)))))))), ?_⟩
    -- the counter goes up
    refine q_setL (j := 2) hs (ev_op (ev_ixL (j := 2) rfl hs rfl) ev_c rv_I0) (ev_var rfl) ev_c (by show 2 < 3; decide) fun H1 e1 => ?_
    generalize hH2 : upd H1 sa (.lst ([V.int cell, V.int cur, V.int (c : Int)].set 2 (V.int ((c : Int) + 1)))) = H2
    have h1 : H2 sa = some (.lst [.int cell, .int cur, .int ((c : Int) + 1)]) := by
      rw [← hH2]
      exact upd_same
    have x1 : XB sa H H2 := by
      rw [← hH2]
      exact (XB.ex e1).trans XB.upd
    refine q_when (et_test (ev_op (ev_ixL (j := 0) rfl h1 rfl) (ev_op ev_c ev_c (rv_I ⟨by decide, by decide⟩)) rv_I0)) (fun _ H3 e3 => ?_) (fun _ H3 e3 => ?_)
    · have h3 := e3 sa _ h1
      refine q_asg (ev_op (ev_int (ev_ixL (j := 1) rfl h3 rfl)) (ev_var rfl) (rv_I hl0)) fun H4 e4 => ?_
      have h4 := e4 sa _ h3
      refine q_setL (j := 1) h4 (ev_op (ev_ixL (j := 1) rfl h4 rfl) (ev_var rfl) (rv_I ⟨hl0, by omega⟩)) (ev_var rfl) ev_c (by show 1 < 3; decide) fun H5 e5 => ?_
      refine s_ret (ev_var rfl) fun H6 e6 => ?_
      refine k _ H6 (Int.emod_nonneg _ (by omega)) (Int.emod_lt_of_pos _ hl0) ?_ ⟨cell, cur / lim, c + 1, e6 sa _ upd_same, by omega, hb⟩
      exact (((x1.trans (XB.ex e3)).trans (XB.ex e4)).trans ((XB.ex e5).trans XB.upd)).trans (XB.ex e6)
    · have h3 := e3 sa _ h1
      have cb : CMul ((c : Int) + 1) 40699 := .inl ⟨by omega, by omega⟩
      refine q_asg (ev_op (ev_int (ev_op (ev_int (ev_op (ev_op (ev_op (ev_int (ev_ixL (j := 0) rfl h3 rfl)) ev_c (rv_I (.inr ⟨by decide, by decide⟩))) (ev_op (ev_ixL (j := 2) rfl h3 rfl) ev_c (rv_I cb)) rv_I0) ev_c rv_I0)) ev_c (rv_I ?_))) ev_c (rv_I (by decide))) fun H4 e4 => ?_
      · have z := cpow3 (c := cell) (m := 48271) (k := ((c : Int) + 1) * 40699 + 12011) hb (by decide) (by omega)
        rw [← Int.add_assoc] at z
        exact z
      have h4 := e4 sa _ h3
      generalize hm : (cell * 48271 + ((c : Int) + 1) * 40699 + 12011) ^ (3 : Int).toNat % 2147483647 = m1
      have b1 : 0 ≤ m1 ∧ m1 < 2147483647 := by
        rw [← hm]
        exact ⟨Int.emod_nonneg _ (by decide), Int.emod_lt_of_pos _ (by decide)⟩
      have cb2 : CMul ((c : Int) + 1) ((c : Int) + 1) := .inl ⟨by omega, by omega⟩
      refine q_asg (ev_op (ev_int (ev_op (ev_int (ev_op (ev_var rfl) (ev_op (ev_op (ev_ixL (j := 2) rfl h4 rfl) (ev_ixL (j := 2) rfl h4 rfl) (rv_I cb2)) ev_c (rv_I (.inr ⟨by decide, by decide⟩))) rv_I0)) ev_c (rv_I ?_))) ev_c (rv_I (by decide))) fun H5 e5 => ?_
      · refine ⟨by decide, ?_⟩
        have z : Builtin.Int.intBits (m1 + ((c : Int) + 1) * ((c : Int) + 1) * 7919) ≤ 100 := by
          refine bits_of_lt ?_
          have a1 : ((c : Int) + 1) * ((c : Int) + 1) ≤ 1000001 * 1000001 := Int.mul_le_mul (by omega) (by omega) (by omega) (by decide)
          have a0 : 0 ≤ ((c : Int) + 1) * ((c : Int) + 1) := Int.mul_nonneg (by omega) (by omega)
          generalize ((c : Int) + 1) * ((c : Int) + 1) = y at a1 a0
          omega
        generalize Builtin.Int.intBits (m1 + ((c : Int) + 1) * ((c : Int) + 1) * 7919) = y at z
        omega
      refine s_ret (ev_op (ev_op (ev_var rfl) ev_c (rv_I ⟨by decide, by decide⟩)) (ev_var rfl) (rv_I hl0)) fun H6 e6 => ?_
      refine k _ H6 (Int.emod_nonneg _ (by omega)) (Int.emod_lt_of_pos _ hl0) ?_ ⟨cell, cur, c + 1, e6 sa _ (e5 sa _ h4), by omega, hb⟩
      exact (x1.trans (XB.ex e3)).trans (XB.ex (e4.trans (e5.trans e6)))
/-! names -/
def spName : Sp := fun vs H Q _ => ∃ (sa : Addr) (n : Nat), vs = [.ref sa] ∧ Src H sa n ∧ n + 14 ≤ 100000 ∧ ∀ x H', nameS x = true → XB sa H H' → Src H' sa (n + 14) → Q (.str x) H'
/-- what the top has written of draws -/
structure TD (K : PySem.W.Frag) (mg : Str → Option Value) : Prop where
  m_int : mg "int" = none
  m_range : mg "range" = none
  m_len : mg "len" = none
  m_str : mg "str" = none
  m_tuple : mg "tuple" = none
  m_list : mg "list" = none
  _law_draw : ∃ f fd, DefAt K mg "_law_draw" s__law_draw ["_law_source_here", "_law_limit"] f fd
  _law_name : ∃ f fd, DefAt K mg "_law_name" s__law_name ["_law_source_here"] f fd
theorem let_sgn : ∀ c ∈ letters.cps.toList, c ∈ (letters ++ digits).cps.toList := by decide +kernel
theorem one_cps (c : Nat) : (⟨#[c]⟩ : Str).cps.toList = [c] := rfl
theorem ok_law_name {f : Addr} {fd : FuncData} (T : TD K mg) (F : Fun K "_law_name" "_law_name" s__law_name f fd) : FnOk P w K mg base CX0 2 f fd ["_law_source_here"] spName := by
  have m_range := T.m_range
  obtain ⟨fD, dD, D_law_draw⟩ := T._law_draw
  have G_law_draw : FnOk P w K mg base CX0 1 fD dD _ spDraw := ok_draw T.m_int D_law_draw.F
  refine F.ok sc__law_name (fun vs H Q E h => ?_) (fun cdv A outer s H vs Q E hr h => ?_)
  · obtain ⟨sa, n, rfl, _⟩ := h
    rfl
  · obtain ⟨sa, n, rfl, src, hn, k⟩ := h
    refine ⟨_, (pss_cons (ps_set (i := 1) sc__law_name.nd rfl (Or.inl rfl) pe_str)
      (pss_cons (ps_set (i := 2) sc__law_name.nd rfl (Or.inl rfl) (pe_ix (ix_listK (K := K) rfl) (pe_lst (pa_cons pe_int (pa_cons pe_int (pa_cons pe_int (pa_cons pe_int (pa_cons pe_int (pa_cons pe_int (pa_cons pe_int pa_nil)))))))) (pe_call G_law_draw (hr.mono (by decide)) (by rfl) D_law_draw.g D_law_draw.F.kp D_law_draw.b .nil pass0 (pa_cons (pv 0) (pa_cons pe_int pa_nil))) (fun _ _ => rfl)))
      (pss_cons (ps_set (i := 3) sc__law_name.nd rfl (Or.inl rfl) (pe_ix ix_str (pv 1) (pe_call G_law_draw (hr.mono (by decide)) (by rfl) D_law_draw.g D_law_draw.F.kp D_law_draw.b .nil pass0 (pa_cons (pv 0) (pa_cons pe_int pa_nil))) (fun _ _ => rfl)))
      (pss_cons (ps_for PassesOwn.never rfl (pi_range1 rfl m_range (pa_cons (pv 2) pa_nil)) (pg_name (i := 4) sc__law_name.nd rfl (Or.inl rfl)) (pss_one (ps_set (i := 3) sc__law_name.nd rfl (Or.inl rfl) (pe_op op_add_str (pv 3) (pe_ix ix_str (pe_op op_add_str (pv 1) pe_str) (pe_call G_law_draw (hr.mono (by decide)) (by rfl) D_law_draw.g D_law_draw.F.kp D_law_draw.b .nil pass0 (pa_cons (pv 0) (pa_cons pe_int pa_nil))) (fun _ _ => rfl))))))
      (pss_one (ps_ret (pe_ifExp (pt_cmpR op_ne (pe_slice sl_str (pv 3) po_none (po_some pe_int)) pe_str (nomark _)) (pv 3) (pe_op op_add_str pe_str (pe_slice sl_str (pv 3) (po_some pe_int) po_none))))))))), ?_⟩
    refine q_asg ev_c fun H1 e1 => ?_
    -- its size
    refine q_asgD (sa := sa) (n := n) (k := 1) (ed_pick (K := K) (xs := [.int 0, .int 0, .int 1, .int 2, .int 3, .int 5, .int 11]) (fun H2 _ => el_lst (ea_cons ev_c (ea_cons ev_c (ea_cons ev_c (ea_cons ev_c (ea_cons ev_c (ea_cons ev_c (ea_cons ev_c ea_nil))))))) (by decide)) (ed_draw (lim := 7) rfl (fun H2 _ => ev_c) (by decide) (by decide))) (src.ex e1) (by omega) fun v H2 x2 s2 r2 => ?_
    obtain ⟨size, rfl, hsz⟩ : ∃ m : Nat, v = .int (m : Int) ∧ m ≤ 11 := by
      simp only [List.mem_cons, List.not_mem_nil, or_false] at r2
      rcases r2 with rfl | rfl | rfl | rfl | rfl | rfl | rfl
      · exact ⟨0, rfl, by decide⟩
      · exact ⟨0, rfl, by decide⟩
      · exact ⟨1, rfl, by decide⟩
      · exact ⟨2, rfl, by decide⟩
      · exact ⟨3, rfl, by decide⟩
      · exact ⟨5, rfl, by decide⟩
      · exact ⟨11, rfl, by decide⟩
    -- its first sign
    refine q_asgD (sa := sa) (n := n + 1) (k := 1) (ed_pickS (z := letters) (fun H3 _ => ev_var rfl) (by decide) (ed_draw (lim := 26) rfl (fun H3 _ => ev_c) (by decide) (by decide))) s2 (by omega) fun v H3 x3 s3 r3 => ?_
    obtain ⟨c, hc, rfl⟩ := r3
    -- the others
    refine q_forR1 (ea_cons (ev_var rfl) ea_nil) ⟨by omega, by omega⟩ (fun i σ' H' => ∃ l : List Nat, l.length = i ∧ (∀ d ∈ l, d ∈ (letters ++ digits).cps.toList) ∧ XB sa H3 H' ∧ Src H' sa (n + 2 + i) ∧ ∃ y, σ' = [some (.ref sa), some (.str letters), some (.int (size : Int)), some (.str (ofC (c :: l))), y]) (fun H4 e4 => ⟨[], rfl, (fun _ z => by cases z), XB.ex e4, s3.ex e4, _, rfl⟩) ?_ ?_
    · rintro i σ' H' hi ⟨l, hl, hls, x4, s4, y, rfl⟩
      have pk := ed_pickS (k := 1) (sa := sa) (σ := [some (.ref sa), some (.str letters), some (.int (size : Int)), some (.str (ofC (c :: l))), some (.int (i : Int))]) (H := H') (ta := tOp (fun x y H Q => ∃ i j, x = .str i ∧ y = .str j ∧ i.length + j.length ≤ sizeLine ∧ Q (.str (i ++ j)) H) (tVar 1) (tC (.str "0123456789"))) (z := letters ++ digits) (fun H3 _ => ev_op (ev_var rfl) ev_c (rv_addS (by decide))) (by decide +kernel) (ed_draw (i := 0) (tl := tC (.int 36)) (lim := 36) rfl (fun H3 _ => ev_c) (by decide) (by decide))
      refine ⟨_, rfl, pk H' (n + 2 + i) (XB.refl _ _) s4 (by omega) _ fun v H5 x5 s5 ⟨d, hd, ev⟩ => ?_⟩
      refine ⟨_, _, rfl, ev, ?_, ?_⟩
      · rw [len_ofC]
        exact sz_of (by show (c :: l).length + 1 ≤ _; simp only [List.length_cons]; omega)
      · refine ⟨l ++ [d], by rw [List.length_append, hl]; rfl, fun z hz => ?_, x4.trans x5, ?_, some (.int (i : Int)), ?_⟩
        · rcases List.mem_append.mp hz with hz | hz
          · exact hls z hz
          · rw [List.mem_singleton.mp hz]
            exact hd
        · exact s5.mono (by omega)
        · have e : (ofC (c :: l) ++ ⟨#[d]⟩ : Str) = ofC (c :: (l ++ [d])) := str_ext (by
            rw [cps_add, ofC_cps, ofC_cps, one_cps]
            simp)
          rw [e]
          rfl
    · rintro σ' H' ⟨l, hl, hls, x4, s4, y, rfl⟩
      have hl11 : l.length ≤ 11 := by omega
      have sg : ∀ d ∈ l, isSgn d = true := fun d hd => decide_eq_true (hls d hd)
      have nm : ∀ a : Nat, a ∈ letters.cps.toList → nameS (ofC (a :: l)) = true := fun a ha => by
        show nameC (ofC (a :: l)).cps.toList = true
        rw [ofC_cps]
        simp only [nameC, Bool.and_eq_true, decide_eq_true_eq, List.all_cons]
        exact ⟨hl11, decide_eq_true ha, decide_eq_true (let_sgn a ha), List.all_eq_true.mpr sg⟩
      have sl := ev_slS (σ := [some (.ref sa), some (.str letters), some (.int (size : Int)), some (.str (ofC (c :: l))), y]) (H := H') (te := tVar 3) (z := ofC (c :: l)) (lo := none) (hi := some 3) (ev_var rfl) eo_none (eo_some ev_c) (by rw [len_ofC]; simp only [List.length_cons]; omega)
      have fin : ∀ x H5, nameS x = true → Ex H' H5 → Q (.str x) H5 := fun x H5 hx e5 => k x H5 hx ((((XB.ex e1).trans x2).trans (x3.trans x4)).trans (XB.ex e5)) ((s4.ex e5).mono (by omega))
      refine et_test (ev_op sl ev_c (rv_ne rfl)) H' (Ex.refl _) _ fun H5 e5 => ?_
      cases hb : (!decide (V.str (cutS (ofC (c :: l)) none (some 3)) = V.str "new")) with
      | true =>
        rw [if_pos rfl]
        exact ⟨_, rfl, fin _ H5 (nm c hc) e5⟩
      | false =>
        rw [if_neg Bool.false_ne_true]
        have tl := ev_slS (σ := [some (.ref sa), some (.str letters), some (.int (size : Int)), some (.str (ofC (c :: l))), y]) (H := H5) (te := tVar 3) (z := ofC (c :: l)) (lo := some 1) (hi := none) (ev_var rfl) (eo_some ev_c) eo_none (by rw [len_ofC]; simp only [List.length_cons]; omega)
        have ct : cutS (ofC (c :: l)) (some 1) none = ofC l := str_ext (by rw [cut_tail, ofC_cps, ofC_cps]; rfl)
        rw [ct] at tl
        refine ev_op (ev_c (v := .str "m")) tl (rv_addS (by rw [len_ofC]; show 1 + l.length ≤ _; omega)) H5 (Ex.refl _) _ fun H6 e6 => ?_
        have e : (("m" : Str) ++ ofC l) = ofC (109 :: l) := str_ext (by
          rw [cps_add, ofC_cps, ofC_cps]
          rfl)
        rw [e]
        exact fin _ H6 (nm 109 (by decide +kernel)) (e5.trans e6)
end
end G39

namespace G39
open PySem PySem.Spec PyProof.Rows L2 Evl
/-! many names, no two alike -/
def qN (j : Nat) : Str := ("q" : Str) ++ (toString (j : Int) : Str)
def qs (m : Nat) : List Str := (List.range m).map qN
theorem qs_all : (qs 12).Nodup ∧ ∀ x ∈ qs 12, nameS x = true := by decide +kernel
theorem qs_take {m : Nat} (h : m ≤ 12) : qs m = (qs 12).take m := by
  unfold qs
  rw [← List.map_take]
  congr 1
  exact (List.take_range (n := 12) (i := m)).symm ▸ by rw [Nat.min_eq_left h]
theorem qs_nodup {m : Nat} (h : m ≤ 12) : (qs m).Nodup := by
  rw [qs_take h]
  exact qs_all.1.sublist (List.take_sublist _ _)
theorem qs_name {m : Nat} (h : m ≤ 12) {x : Str} (hx : x ∈ qs m) : nameS x = true := by
  rw [qs_take h] at hx
  exact qs_all.2 x (List.mem_of_mem_take hx)
theorem nodup_len : ∀ {l m : List Str}, l.Nodup → (∀ x ∈ l, x ∈ m) → l.length ≤ m.length
  | [], _, _, _ => Nat.zero_le _
  | x :: l, m, hd, hs => by
    have hx := hs x (List.mem_cons_self ..)
    have hd := List.nodup_cons.mp hd
    have ih := nodup_len (l := l) (m := m.erase x) hd.2 fun y hy => (List.mem_erase_of_ne (fun (e : y = x) => hd.1 (by rw [← e]; exact hy))).mpr (hs y (List.mem_cons_of_mem _ hy))
    rw [List.length_erase_of_mem hx] at ih
    have : 0 < m.length := List.length_pos_of_mem hx
    rw [List.length_cons]
    omega
/-- one of them is spare -/
theorem spare_some {m : Nat} (h : m ≤ 11) {xs : List Str} (hx : xs.length ≤ m) : ∃ y r, (qs (m + 1)).filter (fun z => !decide (z ∈ xs)) = y :: r := by
  cases q : (qs (m + 1)).filter (fun z => !decide (z ∈ xs)) with
  | cons y r => exact ⟨y, r, rfl⟩
  | nil =>
    have all := List.filter_eq_nil_iff.mp q
    have := nodup_len (qs_nodup (m := m + 1) (by omega)) fun z hz => by simpa using all z hz
    simp [qs] at this
    omega
def spNames : Sp := fun vs H Q _ => ∃ (sa : Addr) (n m : Nat), vs = [.ref sa, .int (m : Int)] ∧ Src H sa n ∧ n + 14 * m ≤ 100000 ∧ m ≤ 10 ∧
  ∀ (p : Addr) (xs : List Str) H', p ≠ sa → H p = none → H' p = some (.lst (xs.map V.str)) → xs.length = m → (∀ x ∈ xs, nameS x = true) → xs.Nodup → XB sa H H' → Src H' sa (n + 14 * m) → Q (.ref p) H'
section
variable {P : Program} {w : World} {K : PySem.W.Frag} {mg : Str → Option Value} {base : Heap}
theorem ev_strI {σ : L2.St} {H : Hp} {te : TE} {i : Nat} (h : Ev te σ H (.int (i : Int))) (hi : i ≤ 1000) : Ev (tCB (fun xs H Q => ∃ i, xs = [.int i] ∧ i.natAbs.log2 < 1920 ∧ Q (.str (toString i)) H) (tCons te tNil)) σ H (.str (toString (i : Int))) := fun H1 e Q q =>
  h H1 e _ fun H2 e2 => ⟨(i : Int), rfl, by
    have : ((i : Int)).natAbs = i := by simp
    rw [this]
    exact Nat.lt_of_le_of_lt (Nat.le_trans (Nat.log2_le_self i) hi) (by decide), q H2 e2⟩
theorem strI_len {i : Nat} (h : i ≤ 12) : (toString (i : Int) : Str).length ≤ 100 := by
  have : ∀ j ∈ List.range 13, (toString ((j : Nat) : Int) : Str).length ≤ 100 := by decide +kernel
  exact this i (List.mem_range.mpr (by omega))
theorem ok_law_names {f : Addr} {fd : FuncData} (T : TD K mg) (F : Fun K "_law_names" "_law_names" s__law_names f fd) : FnOk P w K mg base CX0 3 f fd ["_law_source_here", "_law_many"] spNames := by
  have m_range := T.m_range
  have m_str := T.m_str
  obtain ⟨fD, dD, D_law_name⟩ := T._law_name
  have G_law_name : FnOk P w K mg base CX0 2 fD dD _ spName := ok_law_name T D_law_name.F
  refine F.ok sc__law_names (fun vs H Q E h => ?_) (fun cdv A outer s H vs Q E hr h => ?_)
  · obtain ⟨sa, n, m, rfl, _⟩ := h
    rfl
  · obtain ⟨sa, n, m, rfl, src, hn, hm, k⟩ := h
    refine ⟨_, (pss_cons (ps_set (i := 2) sc__law_names.nd rfl (Or.inr rfl) (pe_lst pa_nil))
      (pss_cons (ps_for PassesOwn.never rfl (pi_range1 rfl m_range (pa_cons (pv 1) pa_nil)) (pg_name (i := 3) sc__law_names.nd rfl (Or.inl rfl)) (pss_cons (ps_set (i := 4) sc__law_names.nd rfl (Or.inl rfl) (pe_call G_law_name (hr.mono (by decide)) (by rfl) D_law_name.g D_law_name.F.kp D_law_name.b .nil pass0 (pa_cons (pv 0) pa_nil)))
      (pss_cons (ps_setLc (i := 5) (own := [("_law_one", 6)]) (g := gName 6) rfl sc__law_names.nd rfl rfl (sw_true rfl rfl rfl (by decide +kernel)) (pi_listK (K := K) rfl (pe_lc (own := [("_law_j", 7)]) (g := gName 7) (tt := tYes) rfl sc__law_names.nd (pi_range1 rfl m_range (pa_cons (pe_op op_add (pv 1) pe_int) pa_nil)) (blkOk_by (N := n__law_names) (sc := defScope s__law_names) (by decide +kernel)) (fun _ _ _ _ _ => pg_name (i := 7) sc__law_names.nd rfl (Or.inl rfl)) (fun _ _ _ _ _ => pts_nil) (fun _ _ _ _ _ => (pe_op op_add_str pe_str (pe_callTy call_str_int (by rfl) m_str (by decide +kernel) (pa_cons (pv 7) pa_nil)))))) (blkOk_by (N := n__law_names) (sc := defScope s__law_names) (by decide +kernel)) (fun _ _ _ _ _ => pg_name (i := 6) sc__law_names.nd rfl (Or.inl rfl)) (fun _ _ _ _ _ => pts_one (pt_cmpR (op_notIn_seqK (K := K) rfl) (pv 6) (pv 2) (by rfl))) (fun _ _ _ _ _ => (pv 6)))
      (pss_one (ps_expr (pe_bm PySem.F.plainAttrs_list PySem.F.slot_list_append PySem.F.type_list_append mt_append (pv 2) (pa_cons (pe_ifExp (pt_cmpR (op_notIn_seqK (K := K) rfl) (pv 4) (pv 2) (by rfl)) (pv 4) (pe_ix (ix_listK (K := K) rfl) (pv 5) pe_int (fun _ _ => rfl))) pa_nil)))))))
      (pss_one (ps_ret (pv 2))))), ?_⟩
    refine q_asgL (el_lst ea_nil (by decide)) fun fa H1 hfa e1 hf1 => ?_
    have nefa := src.ne hfa
    refine q_forR1 (ea_cons (ev_var rfl) ea_nil) ⟨by omega, by omega⟩ (fun i σ' H' => ∃ xs : List Str, xs.length = i ∧ (∀ x ∈ xs, nameS x = true) ∧ xs.Nodup ∧ XB sa H H' ∧ Src H' sa (n + 14 * i) ∧ H' fa = some (.lst (xs.map V.str)) ∧ ∃ y3 y4 y5, σ' = [some (.ref sa), some (.int (m : Int)), some (.ref fa), y3, y4, y5, none, none])
      (fun H2 e2 => ⟨[], rfl, (fun _ z => by cases z), .nil, XB.ex (e1.trans e2), src.ex (e1.trans e2), e2 _ _ hf1, none, none, none, rfl⟩) ?_ ?_
    · rintro i σ' H' hi ⟨xs, hl, hnm, hnd, xb, s2, hf, y3, y4, y5, rfl⟩
      have hi : i < m := by omega
      -- the name
      refine ⟨_, rfl, sa, n + 14 * i, rfl, s2, by omega, fun nm H3 hnn x3 s3 => ?_⟩
      have hf3 := x3 _ _ nefa hf
      -- the spare ones
      have inner := el_lcR1 (σ := [some (.ref sa), some (.int (m : Int)), some (.ref fa), some (.int (i : Int)), some (.str nm), y5, none, none]) (H := H3) (ta := tCons (tOp (rI0 fun i j => .int (i + j)) (tVar 1) (tC (.int 1))) tNil) (j := 7) (vs := [7]) (n := (m : Int) + 1) (t := tYes) (te := tOp (fun x y H Q => ∃ i j, x = .str i ∧ y = .str j ∧ i.length + j.length ≤ sizeLine ∧ Q (.str (i ++ j)) H) (tC (.str "q")) (tCB (fun xs H Q => ∃ i, xs = [.int i] ∧ i.natAbs.log2 < 1920 ∧ Q (.str (toString i)) H) (tCons (tVar 7) tNil)))
        (fun _ => true) (fun j => .str (qN j)) (ea_cons (ev_op (ev_var rfl) ev_c rv_I0) ea_nil) ⟨by omega, by omega⟩ (fun _ => rfl) (fun j H4 _ _ => fun H5 _ Q q => q H5 (Ex.refl _)) (fun j H4 _ hj _ => ev_op ev_c (ev_strI (ev_var rfl) (by omega)) (rv_addS (by have := strI_len (i := j) (by omega); show 1 + _ ≤ _; omega)))
      have gq : given ((m : Int) + 1).toNat (fun _ => true) (fun j => V.str (qN j)) = (qs (m + 1)).map V.str := by
        have : ((m : Int) + 1).toNat = m + 1 := by omega
        rw [this]
        unfold given qs
        rw [List.map_map, List.filter_eq_self.mpr (fun _ _ => rfl)]
        rfl
      rw [gq] at inner
      have outer := el_cL (K := K) (σ := [some (.ref sa), some (.int (m : Int)), some (.ref fa), some (.int (i : Int)), some (.str nm), y5, none, none]) (H := H3) (j := 6) (vs := [6]) (t := tTest (tOp (rIn K true) (tVar 6) (tVar 2))) (te := tVar 6) (xs := (qs (m + 1)).map V.str) (f := fun v => !inV v (xs.map V.str)) (g := id) (fun H4 e4 Q q => inner H4 e4 _ fun p H5 hp e5 h5 => q _ H5 e5 ⟨p, rfl, h5⟩)
        (by rw [List.length_map]; simp [qs]; omega) (fun _ => rfl) (fun v hv H4 e4 => et_test (ev_op (ev_var rfl) (ev_var rfl) (rv_niL (K := K) (sq_of (e4 _ _ hf3)) (by obtain ⟨x, _, rfl⟩ := List.mem_map.mp hv; rfl) (flat_strs _)))) (fun v hv _ H4 e4 => ev_var rfl)
      have go : (((qs (m + 1)).map V.str).filter (fun v => !inV v (xs.map V.str))).map id = ((qs (m + 1)).filter (fun z => !decide (z ∈ xs))).map V.str := by
        rw [List.map_id, List.filter_map]
        congr 1
        refine List.filter_congr fun z _ => ?_
        show (!inV (.str z) (xs.map V.str)) = _
        rw [inV_str]
      rw [go] at outer
      refine q_asgL outer fun sp H4 hsp e4 h4 => ?_
      have hf4 := e4 _ _ hf3
      obtain ⟨y, r, hy⟩ := spare_some (m := m) (by omega) (xs := xs) (by omega)
      have hym : y ∈ (qs (m + 1)).filter (fun z => !decide (z ∈ xs)) := by rw [hy]; exact List.mem_cons_self ..
      have hyn := qs_name (m := m + 1) (by omega) (List.mem_filter.mp hym).1
      have hyx : ¬ y ∈ xs := by simpa using (List.mem_filter.mp hym).2
      rw [hy] at h4
      obtain ⟨z, hz1, hz2, hz3⟩ : ∃ z, nameS z = true ∧ ¬ z ∈ xs ∧ Ev (tIf (tTest (tOp (rIn K true) (tVar 4) (tVar 2))) (tVar 4) (tOp (rIxL K) (tVar 5) (tC (.int 0)))) [some (.ref sa), some (.int (m : Int)), some (.ref fa), some (.int (i : Int)), some (.str nm), some (.ref sp), none, none] H4 (.str z) := by
        have tst := et_test (ev_op (σ := [some (.ref sa), some (.int (m : Int)), some (.ref fa), some (.int (i : Int)), some (.str nm), some (.ref sp), none, none]) (ev_var (i := 4) rfl) (ev_var (i := 2) rfl) (rv_niL (K := K) (sq_of hf4) (x := .str nm) rfl (flat_strs _)))
        rw [inV_str] at tst
        by_cases q : nm ∈ xs
        · exact ⟨y, hyn, hyx, ev_if tst (fun z => by rw [decide_eq_true q] at z; cases z) fun _ => ev_op (ev_var rfl) ev_c (rv_ixL (v := .str y) (sq_of h4) (atI_nat (j := 0) rfl))⟩
        · exact ⟨nm, hnn, q, ev_if tst (fun _ => ev_var rfl) fun z => by rw [decide_eq_false q] at z; cases z⟩
      refine s_app (l := fa) hf4 (ev_var rfl) hz3 (by rw [List.length_map]; omega) fun H5 e5 => ⟨xs ++ [z], by rw [List.length_append, hl]; rfl, fun x hx => ?_, ?_, ?_, ?_, ?_, some (.int (i : Int)), some (.str nm), some (.ref sp), rfl⟩
      · rcases List.mem_append.mp hx with hx | hx
        · exact hnm x hx
        · rw [List.mem_singleton.mp hx]
          exact hz1
      · refine List.nodup_append.mpr ⟨hnd, by simp, fun a ha b hb e => ?_⟩
        rw [List.mem_singleton.mp hb] at e
        exact hz2 (e ▸ ha)
      · intro b o hb h
        have : b ≠ fa := fun z => by
          rw [z, hfa] at h
          cases h
        rw [upd_ne this]
        exact (e4.trans e5) _ _ (x3 _ _ hb (xb b o hb h))
      · have e : n + 14 * (i + 1) = n + 14 * i + 14 := by omega
        rw [e]
        exact (s3.ex (e4.trans e5)).keep fun o h => by rw [upd_ne (Ne.symm nefa)]; exact h
      · rw [upd_same, List.map_append]
        rfl
    · rintro σ' H' ⟨xs, hl, hnm, hnd, xb, s2, hf, y3, y4, y5, rfl⟩
      have em : ((m : Int)).toNat = m := by simp
      rw [em] at hl s2
      exact s_ret (ev_var rfl) fun H2 e2 => k fa xs H2 nefa hfa (e2 _ _ hf) hl hnm hnd (xb.trans (XB.ex e2)) (s2.ex e2)
end
end G39

namespace G39
open PySem PySem.Spec PyProof.Rows L2 Evl
section
variable {K : PySem.W.Frag} {sa : Addr} {σ : L2.St} {H : Hp} {te ta tb tl : TE} {k : Nat}
/-- a new list and a drawn one -/
theorem ed_cat {xs : List V} {S : List V → Hp → Prop} (ha : ∀ H1, XB sa H H1 → EvL ta σ H1 xs) (hb : Ed sa k tb σ H fun v H' => ∃ D ys, v = .ref D ∧ D ≠ sa ∧ H' D = some (.lst ys) ∧ S ys H') (hS : ∀ ys H H', Ex H H' → S ys H → S ys H') (hl : ∀ ys H, S ys H → xs.length + ys.length ≤ 100000) :
    Ed sa k (tOp rCat ta tb) σ H fun v H' => ∃ l ys, v = .ref l ∧ l ≠ sa ∧ H' l = some (.lst (xs ++ ys)) ∧ S ys H' := fun H1 n x s hn Q q =>
  ha H1 x H1 (Ex.refl _) _ fun l1 H2 hl1 e2 h2 => hb H2 n (x.trans (XB.ex e2)) (s.ex e2) hn _ fun v H3 x3 s3 ⟨D, ys, ev, hne, h3, hs⟩ =>
    ⟨l1, D, xs, ys, rfl, ev, x3 _ _ (s.ne hl1) h2, h3, sz_of (hl ys H3 hs), fun p hp => q _ _ (((XB.ex e2).trans x3).trans (XB.ex (Ex.new hp))) (s3.ex (Ex.new hp)) ⟨p, ys, rfl, s3.ne hp, upd_same, hS ys _ _ (Ex.new hp) hs⟩⟩
/-- a drawn list and a new one -/
theorem ed_cat2 {xs : List V} {S : List V → Hp → Prop} (ha : Ed sa k ta σ H fun v H' => ∃ D ys, v = .ref D ∧ D ≠ sa ∧ H' D = some (.lst ys) ∧ S ys H') (hb : ∀ H1, XB sa H H1 → EvL tb σ H1 xs) (hS : ∀ ys H H', Ex H H' → S ys H → S ys H') (hl : ∀ ys H, S ys H → ys.length + xs.length ≤ 100000) :
    Ed sa k (tOp rCat ta tb) σ H fun v H' => ∃ l ys, v = .ref l ∧ l ≠ sa ∧ H' l = some (.lst (ys ++ xs)) ∧ S ys H' := fun H1 n x s hn Q q =>
  ha H1 n x s hn _ fun v H2 x2 s2 ⟨D, ys, ev, hne, h2, hs⟩ => hb H2 (x.trans x2) H2 (Ex.refl _) _ fun l2 H3 hl2 e3 h3 =>
    ⟨D, l2, ys, xs, ev, rfl, e3 _ _ h2, h3, sz_of (hl ys _ hs), fun p hp => q _ _ ((x2.trans (XB.ex e3)).trans (XB.ex (Ex.new hp))) (s2.ex (e3.trans (Ex.new hp))) ⟨p, ys, rfl, (s2.ex e3).ne hp, upd_same, hS ys _ _ (e3.trans (Ex.new hp)) hs⟩⟩
/-- tuple(..) of a drawn list -/
theorem ed_tuple {S : List V → Hp → Prop} (ha : Ed sa k ta σ H fun v H' => ∃ D ys, v = .ref D ∧ D ≠ sa ∧ H' D = some (.lst ys) ∧ S ys H') (hS : ∀ ys H H', Ex H H' → S ys H → S ys H') :
    Ed sa k (tCB (rTupS K) (tCons ta tNil)) σ H fun v H' => ∃ l ys, v = .ref l ∧ l ≠ sa ∧ H' l = some (.tup ys) ∧ S ys H' := fun H1 n x s hn Q q =>
  ha H1 n x s hn _ fun v H2 x2 s2 ⟨D, ys, ev, hne, h2, hs⟩ => ⟨D, ys, by rw [ev], .inl ⟨sq_of h2, fun p hp => q _ _ (x2.trans (XB.ex (Ex.new hp))) (s2.ex (Ex.new hp)) ⟨p, ys, rfl, s2.ne hp, upd_same, hS ys _ _ (Ex.new hp) hs⟩⟩⟩
/-- a comprehension over a list that is drawn first -/
theorem lc_after {g : TG} {t : TT} {vs : List Nat} {H1 : Hp} {Q : VK} (h : tl σ H1 fun v H2 => tLc (iList K (tC v)) g t te vs σ H2 Q) : tLc (iList K tl) g t te vs σ H1 Q := h
/-- if, its test with draws -/
theorem et_draw {n : Nat} {tt : TT} {tu tw tz : TS} {D : Ends} {b : Bool → Prop} (h : ∀ Q : Bool → Hp → Prop, (∀ c H1, XB sa H H1 → Src H1 sa (n + k) → Q c H1) → tt σ H Q) (h1 : ∀ H1, XB sa H H1 → Src H1 sa (n + k) → tu { D with nx := tz D } σ H1) (h2 : ∀ H1, XB sa H H1 → Src H1 sa (n + k) → tw { D with nx := tz D } σ H1) : tSeq (tIfS tt tu tw) tz D σ H :=
  h _ fun c H1 x s => by
    cases c with
    | true =>
      rw [if_pos rfl]
      exact h1 H1 x s
    | false =>
      rw [if_neg Bool.false_ne_true]
      exact h2 H1 x s
/-- a comparison of a draw -/
theorem ed_cmpI {g : Int → Int → Bool} {i : Int} {P : Nat → Prop} (ha : Ed sa k ta σ H fun v _ => ∃ m : Nat, v = .int m ∧ P m) (hb : ∀ H1, XB sa H H1 → Ev tb σ H1 (.int i)) : Ed sa k (tOp (rI0 fun i j => .bl (g i j)) ta tb) σ H fun v _ => ∃ c : Bool, v = .bl c := fun H1 n x s hn Q q =>
  ha H1 n x s hn _ fun v H2 x2 s2 ⟨m, ev, _⟩ => hb H2 (x.trans x2) H2 (Ex.refl _) _ fun H3 e3 => ⟨m, i, ev, rfl, q _ H3 (x2.trans (XB.ex e3)) (s2.ex e3) ⟨_, rfl⟩⟩
theorem ed_eqI {i : Int} {P : Nat → Prop} (ha : Ed sa k ta σ H fun v _ => ∃ m : Nat, v = .int m ∧ P m) (hb : ∀ H1, XB sa H H1 → Ev tb σ H1 (.int i)) : Ed sa k (tOp rEq ta tb) σ H fun v _ => ∃ c : Bool, v = .bl c := fun H1 n x s hn Q q =>
  ha H1 n x s hn _ fun v H2 x2 s2 ⟨m, ev, _⟩ => hb H2 (x.trans x2) H2 (Ex.refl _) _ fun H3 e3 => by
    rw [ev]
    exact ⟨rfl, q _ H3 (x2.trans (XB.ex e3)) (s2.ex e3) ⟨_, rfl⟩⟩
/-- if, by a drawn truth -/
theorem q_ifD {n : Nat} {tu tw tz : TS} {D : Ends} (h : Ed sa k te σ H fun v _ => ∃ c : Bool, v = .bl c) (s : Src H sa n) (hn : n + k ≤ 100000) (h1 : ∀ H1, XB sa H H1 → Src H1 sa (n + k) → tu { D with nx := tz D } σ H1) (h2 : ∀ H1, XB sa H H1 → Src H1 sa (n + k) → tw { D with nx := tz D } σ H1) : tSeq (tIfS (tTest te) tu tw) tz D σ H :=
  h H n (XB.refl _ _) s hn _ fun v H1 x s1 ⟨c, ev⟩ => ⟨c, ev, by
    cases c with
    | true =>
      rw [if_pos rfl]
      exact h1 H1 x s1
    | false =>
      rw [if_neg Bool.false_ne_true]
      exact h2 H1 x s1⟩
end
end G39

namespace G39
open PySem PySem.Spec PyProof.Rows L2 Evl
abbrev s__law_pool : Stmt := topS 19
abbrev n__law_pool : List Str := ["_law_source_here", "_law_tables", "_law_sizes", "_law_constants", "_law_variables_here", "_law_rows", "_law_k", "_law_name_here"]
theorem sc__law_pool : FnScope n__law_pool ["_law_source_here"] (defScope s__law_pool) := ⟨rfl, rfl, rfl, by decide +kernel, rfl, by decide +kernel, by decide +kernel⟩
/-- a row of the pool: a table and its size -/
def RowAt (sa : Addr) (H : Hp) (v : V) : Prop := ∃ (a : Addr) (t : Str) (z : Nat), v = .ref a ∧ a ≠ sa ∧ H a = some (.tup [.str t, .int (z : Int)]) ∧ nameS t = true ∧ z ≤ 3
structure PoolAt (sa : Addr) (H : Hp) (po : Addr) (r c v : Addr) (rows : List V) (cs xs : List Str) : Prop where
  hpo : H po = some (.lst [.ref r, .ref c, .ref v])
  hr : H r = some (.lst rows)
  hc : H c = some (.lst (cs.map V.str))
  hv : H v = some (.lst (xs.map V.str))
  npo : po ≠ sa
  nr : r ≠ sa
  nc : c ≠ sa
  nv : v ≠ sa
  rl : 1 ≤ rows.length ∧ rows.length ≤ 10
  cl : 2 ≤ cs.length ∧ cs.length ≤ 10
  vl : xs.length = 9
  rs : ∀ x ∈ rows, RowAt sa H x
  hcs : ∀ x ∈ cs, nameS x = true
  hxs : ∀ x ∈ xs, varS x = true
theorem RowAt.mono {sa : Addr} {H H' : Hp} {v : V} (x : XB sa H H') (h : RowAt sa H v) : RowAt sa H' v := by
  obtain ⟨a, t, z, rfl, h1, h2, h3⟩ := h
  exact ⟨a, t, z, rfl, h1, x _ _ h1 h2, h3⟩
theorem PoolAt.mono {sa : Addr} {H H' : Hp} {po r c v : Addr} {rows : List V} {cs xs : List Str} (x : XB sa H H') (h : PoolAt sa H po r c v rows cs xs) : PoolAt sa H' po r c v rows cs xs :=
  { h with hpo := x _ _ h.npo h.hpo, hr := x _ _ h.nr h.hr, hc := x _ _ h.nc h.hc, hv := x _ _ h.nv h.hv, rs := fun y hy => (h.rs y hy).mono x }
def spPool : Sp := fun vs H Q _ => ∃ (sa : Addr) (n : Nat), vs = [.ref sa] ∧ Src H sa n ∧ n ≤ 50000 ∧ ∀ po r c v rows cs xs H', PoolAt sa H' po r c v rows cs xs → XB sa H H' → Src H' sa (n + 1000) → Q (.ref po) H'
theorem var_of {x : Str} (h : nameS x = true) : varS (("?" : Str) ++ x) = true := by
  show varC (("?" : Str) ++ x).cps.toList = true
  rw [cps_add]
  have : ("?" : Str).cps.toList = [63] := rfl
  rw [this]
  show (decide (63 = 63) && nameC x.cps.toList) = true
  rw [show nameC x.cps.toList = true from h]
  rfl
structure TP (K : PySem.W.Frag) (mg : Str → Option Value) : Prop where
  d : TD K mg
  _law_names : ∃ f fd, DefAt K mg "_law_names" s__law_names ["_law_source_here", "_law_many"] f fd
section
variable {P : Program} {w : World} {K : PySem.W.Frag} {mg : Str → Option Value} {base : Heap}
/-- names by a draw -/
theorem ed_names {sa : Addr} {σ : L2.St} {H : Hp} {tb : TE} {i : Nat} {Pm : Nat → Prop} {k : Nat} (hi : σ[i]? = some (some (.ref sa))) (hb : Ed sa k tb σ H fun v _ => ∃ m : Nat, v = .int m ∧ Pm m) (hP : ∀ m, Pm m → m ≤ 10) :
    Ed sa (k + 140) (tCall spNames [] E0 (tCons (tVar i) (tCons tb tNil))) σ H fun v H2 => ∃ (p : Addr) (xs : List Str), v = .ref p ∧ p ≠ sa ∧ H2 p = some (.lst (xs.map V.str)) ∧ Pm xs.length ∧ ∀ x ∈ xs, nameS x = true := fun H1 n x s hn Q q =>
  ⟨_, hi, hb H1 n x s (by omega) _ fun v H2 x2 s2 ⟨m, ev, hm⟩ => ⟨sa, n + k, m, by rw [ev]; rfl, s2, by have := hP m hm; omega, hP m hm, fun p xs H3 hp hnp h3 hl hx _ x3 s3 => q _ H3 (x2.trans x3) (s3.mono (by have := hP m hm; omega)) ⟨p, xs, rfl, hp, h3, by rw [hl]; exact hm, hx⟩⟩⟩
/-- variables -/
theorem ed_vars {sa : Addr} {σ : L2.St} {H : Hp} {i j : Nat} {vs : List Nat} (hi : σ[i]? = some (some (.ref sa))) (hw : ∀ x, wipe ((wipe σ vs).set j (some x)) vs = wipe σ vs) (hj : ∀ x, ((wipe σ vs).set j (some x))[j]? = some (some x)) :
    Ed sa 140 (tLc (iList K (tCall spNames [] E0 (tCons (tVar i) (tCons (tC (.int 9)) tNil)))) (gName j) tYes (tOp (fun x y H Q => ∃ i j, x = .str i ∧ y = .str j ∧ i.length + j.length ≤ sizeLine ∧ Q (.str (i ++ j)) H) (tC (.str "?")) (tVar j)) vs) σ H
      fun v H2 => ∃ (p : Addr) (xs : List Str), v = .ref p ∧ p ≠ sa ∧ H2 p = some (.lst (xs.map V.str)) ∧ xs.length = 9 ∧ ∀ x ∈ xs, varS x = true := fun H3 n x3 s3 hn Q q => by
  refine lc_after ((ed_names (i := i) (σ := σ) (H := H) (tb := tC (.int 9)) (Pm := fun m => m = 9) (k := 0) hi ((ed_pure (sa := sa) (v := .int 9) (fun _ _ => ev_c)).imp fun v _ e => ⟨9, e, rfl⟩) (fun m hm => by omega)) H3 n x3 s3 (by omega) _ fun v H4 x4 s4 ⟨na, ns, ev, nna, h4, nl, nn⟩ => ?_)
  rw [ev]
  have vc := el_cL (K := K) (tl := tC (.ref na)) (σ := σ) (H := H4) (j := j) (vs := vs) (t := tYes) (te := tOp (fun x y H Q => ∃ i j, x = .str i ∧ y = .str j ∧ i.length + j.length ≤ sizeLine ∧ Q (.str (i ++ j)) H) (tC (.str "?")) (tVar j)) (xs := ns.map V.str) (f := fun _ => true) (g := fun v => match v with | .str x => .str (("?" : Str) ++ x) | v => v) (fun H5 e5 Q q => q _ H5 (Ex.refl _) ⟨na, rfl, e5 _ _ h4⟩)
    (by rw [List.length_map]; omega) hw (fun _ _ H5 _ => fun H6 _ Q q => q H6 (Ex.refl _)) (fun v hv _ H5 e5 => by
      obtain ⟨x, hx, rfl⟩ := List.mem_map.mp hv
      have := (name_parts (nn x hx)).2.1
      rw [len_cps] at this
      exact ev_op ev_c (ev_var (hj _)) (rv_addS (by show 1 + x.length ≤ _; omega)))
  have ve : ((ns.map V.str).filter fun _ => true).map (fun v => match v with | .str x => V.str (("?" : Str) ++ x) | v => v) = (ns.map fun x => ("?" : Str) ++ x).map V.str := by
    rw [List.filter_eq_self.mpr (fun _ _ => rfl), List.map_map, List.map_map]
    rfl
  rw [ve] at vc
  exact vc H4 (Ex.refl _) _ fun va H5 hva e5 h5 => q _ H5 (x4.trans (XB.ex e5)) ((s4.ex e5).mono (by omega)) ⟨va, _, rfl, s4.ne hva, h5, by rw [List.length_map]; exact nl, fun x hx => by
    obtain ⟨y, hy, rfl⟩ := List.mem_map.mp hx
    exact var_of (nn y hy)⟩
theorem ok_law_pool {f : Addr} {fd : FuncData} (T : TP K mg) (F : Fun K "_law_pool" "_law_pool" s__law_pool f fd) : FnOk P w K mg base CX0 4 f fd ["_law_source_here"] spPool := by
  have m_range := T.d.m_range
  have m_len := T.d.m_len
  obtain ⟨fD, dD, D_law_draw⟩ := T.d._law_draw
  have G_law_draw : FnOk P w K mg base CX0 1 fD dD _ spDraw := ok_draw T.d.m_int D_law_draw.F
  obtain ⟨fN, dN, D_law_names⟩ := T._law_names
  have G_law_names : FnOk P w K mg base CX0 3 fN dN _ spNames := ok_law_names T.d D_law_names.F
  refine F.ok sc__law_pool (fun vs H Q E h => ?_) (fun cdv A outer s H vs Q E hr h => ?_)
  · obtain ⟨sa, n, rfl, _⟩ := h
    rfl
  · obtain ⟨sa, n, rfl, src, hn, k⟩ := h
    refine ⟨_, (pss_cons (ps_set (i := 1) sc__law_pool.nd rfl (Or.inr rfl) (pe_call G_law_names (hr.mono (by decide)) (by rfl) D_law_names.g D_law_names.F.kp D_law_names.b .nil pass0 (pa_cons (pv 0) (pa_cons (pe_op op_add pe_int (pe_call G_law_draw (hr.mono (by decide)) (by rfl) D_law_draw.g D_law_draw.F.kp D_law_draw.b .nil pass0 (pa_cons (pv 0) (pa_cons pe_int pa_nil)))) pa_nil))))
      (pss_cons (ps_set (i := 2) sc__law_pool.nd rfl (Or.inr rfl) (pe_op op_cat (pe_lst (pa_cons pe_int pa_nil)) (pe_lc (own := [("_law_k", 6)]) (g := gName 6) (tt := tYes) rfl sc__law_pool.nd (pi_range1 rfl m_range (pa_cons (pe_op op_sub (pe_callB (call_len_seqK (K := K) rfl) (by rfl) m_len PySem.boot_len (pa_cons (pv 1) pa_nil)) pe_int) pa_nil)) (blkOk_by (N := n__law_pool) (sc := defScope s__law_pool) (by decide +kernel)) (fun _ _ _ _ _ => pg_name (i := 6) sc__law_pool.nd rfl (Or.inl rfl)) (fun _ _ _ _ _ => pts_nil) (fun _ _ _ _ _ => (pe_ix (ix_listK (K := K) rfl) (pe_lst (pa_cons pe_int (pa_cons pe_int (pa_cons pe_int (pa_cons pe_int (pa_cons pe_int (pa_cons pe_int (pa_cons pe_int (pa_cons pe_int pa_nil))))))))) (pe_call G_law_draw (hr.mono (by decide)) (by rfl) D_law_draw.g D_law_draw.F.kp D_law_draw.b .nil pass0 (pa_cons (pv 0) (pa_cons pe_int pa_nil))) (fun _ _ => rfl))))))
      (pss_cons (ps_set (i := 3) sc__law_pool.nd rfl (Or.inl rfl) (pe_call G_law_names (hr.mono (by decide)) (by rfl) D_law_names.g D_law_names.F.kp D_law_names.b .nil pass0 (pa_cons (pv 0) (pa_cons (pe_op op_add pe_int (pe_call G_law_draw (hr.mono (by decide)) (by rfl) D_law_draw.g D_law_draw.F.kp D_law_draw.b .nil pass0 (pa_cons (pv 0) (pa_cons pe_int pa_nil)))) pa_nil))))
      (pss_cons (ps_setLc (i := 4) (own := [("_law_name_here", 7)]) (g := gName 7) (tt := tYes) rfl sc__law_pool.nd rfl rfl (sw_true rfl rfl rfl (by decide +kernel)) (pi_listK (K := K) rfl (pe_call G_law_names (hr.mono (by decide)) (by rfl) D_law_names.g D_law_names.F.kp D_law_names.b .nil pass0 (pa_cons (pv 0) (pa_cons pe_int pa_nil)))) (blkOk_by (N := n__law_pool) (sc := defScope s__law_pool) (by decide +kernel)) (fun _ _ _ _ _ => pg_name (i := 7) sc__law_pool.nd rfl (Or.inl rfl)) (fun _ _ _ _ _ => pts_nil) (fun _ _ _ _ _ => (pe_op op_add_str pe_str (pv 7))))
      (pss_cons (ps_setLc (i := 5) (own := [("_law_k", 6)]) (g := gName 6) (tt := tYes) rfl sc__law_pool.nd rfl rfl (sw_true rfl rfl rfl (by decide +kernel)) (pi_range1 rfl m_range (pa_cons (pe_callB (call_len_seqK (K := K) rfl) (by rfl) m_len PySem.boot_len (pa_cons (pv 1) pa_nil)) pa_nil)) (blkOk_by (N := n__law_pool) (sc := defScope s__law_pool) (by decide +kernel)) (fun _ _ _ _ _ => pg_name (i := 6) sc__law_pool.nd rfl (Or.inl rfl)) (fun _ _ _ _ _ => pts_nil) (fun _ _ _ _ _ => (pe_tup (pa_cons (pe_ix (ix_listK (K := K) rfl) (pv 1) (pv 6) (fun _ _ => rfl)) (pa_cons (pe_ix (ix_listK (K := K) rfl) (pv 2) (pv 6) (fun _ _ => rfl)) pa_nil)))))
      (pss_cons (ps_if (pt_cmpR op_eq (pe_call G_law_draw (hr.mono (by decide)) (by rfl) D_law_draw.g D_law_draw.F.kp D_law_draw.b .nil pass0 (pa_cons (pv 0) (pa_cons pe_int pa_nil))) pe_int (nomark _)) (pss_one (ps_expr (pe_bm PySem.F.plainAttrs_list PySem.F.slot_list_append PySem.F.type_list_append mt_append (pv 5) (pa_cons (pe_tup (pa_cons (pe_ix (ix_listK (K := K) rfl) (pv 1) pe_int (fun _ _ => rfl)) (pa_cons (pe_ix (ix_listK (K := K) rfl) (pe_lst (pa_cons pe_int (pa_cons pe_int (pa_cons pe_int (pa_cons pe_int pa_nil))))) (pe_call G_law_draw (hr.mono (by decide)) (by rfl) D_law_draw.g D_law_draw.F.kp D_law_draw.b .nil pass0 (pa_cons (pv 0) (pa_cons pe_int pa_nil))) (fun _ _ => rfl)) pa_nil))) pa_nil)))) pss_nil)
      (pss_one (ps_ret (pe_lst (pa_cons (pv 5) (pa_cons (pv 3) (pa_cons (pv 4) pa_nil)))))))))))), ?_⟩
    have two : ∀ {σ : L2.St} {H1 : Hp}, σ[0]? = some (some (.ref sa)) → Ed sa 1 (tOp (rI0 fun i j => .int (i + j)) (tC (.int 2)) (tCall spDraw [] E0 (tCons (tVar 0) (tCons (tC (.int 3)) tNil)))) σ H1 fun v _ => ∃ m : Nat, v = .int m ∧ (2 ≤ m ∧ m ≤ 4) := fun {σ H1} h0 =>
      (ed_plus (i := 2) (lim := 3) (fun _ _ => ev_c) (ed_draw (lim := 3) h0 (fun _ _ => ev_c) (by decide) (by decide))).imp fun v H1 ⟨m, ev, h1, h2⟩ => ⟨m, ev, h1, by omega⟩
    -- the tables
    refine q_asgD (ed_names (i := 0) rfl (two (H1 := H) rfl) (fun m hm => by omega)) src (by omega) fun v H1 x1 s1 ⟨ta, ts, ev, nta, h1, tl, tn⟩ => ?_
    rw [ev]
    -- their sizes
    have sz := ed_lcR (sa := sa) (σ := [some (.ref sa), some (.ref ta), none, none, none, none, none, none]) (H := H1) (ta := tCons (tOp (rI0 fun i j => .int (i - j)) (tCB (rLenS K) (tCons (tVar 1) tNil)) (tC (.int 1))) tNil) (j := 6) (k0 := 0) (kk := 1) (N := 4) (vs := [6]) (Pm := fun m => m = ts.length - 1) (R := fun _ v _ => ∃ z : Nat, v = .int z ∧ z ≤ 3)
      (te := tOp (rIxL K) (tLst (tCons (tC (.int 2)) (tCons (tC (.int 1)) (tCons (tC (.int 2)) (tCons (tC (.int 3)) (tCons (tC (.int 2)) (tCons (tC (.int 0)) (tCons (tC (.int 1)) (tCons (tC (.int 2)) tNil))))))))) (tCall spDraw [] E0 (tCons (tVar 0) (tCons (tC (.int 8)) tNil))))
      (fun H2 m x2 s2 _ Q q => (ea_cons (ev_op (ev_len (K := K) (ev_var (i := 1) rfl) (sq_of (x2 _ _ nta h1))) ev_c rv_I0) ea_nil) H2 (Ex.refl _) _ fun H3 e3 => by
        have e : (((ts.map V.str).length : Nat) : Int) - 1 = ((ts.length - 1 : Nat) : Int) := by rw [List.length_map]; omega
        rw [e]
        exact q (ts.length - 1) H3 (XB.ex e3) (s2.ex e3) rfl) (fun m hm => by omega) (by decide) (fun _ => rfl) (fun _ _ _ _ h _ => h)
      (fun i D H3 ys m _ x3 _ hD s3 hm Q q => (ed_pick (K := K) (xs := [.int 2, .int 1, .int 2, .int 3, .int 2, .int 0, .int 1, .int 2]) (fun H2 _ => el_lst (ea_cons ev_c (ea_cons ev_c (ea_cons ev_c (ea_cons ev_c (ea_cons ev_c (ea_cons ev_c (ea_cons ev_c (ea_cons ev_c ea_nil)))))))) (by decide)) (ed_draw (lim := 8) rfl (fun H2 _ => ev_c) (by decide) (by decide))) H3 m (XB.refl _ _) s3 hm Q fun v H4 x4 s4 hv => q v H4 x4 s4 (by
        simp only [List.mem_cons, List.not_mem_nil, or_false] at hv
        rcases hv with rfl | rfl | rfl | rfl | rfl | rfl | rfl | rfl
        · exact ⟨2, rfl, by decide⟩
        · exact ⟨1, rfl, by decide⟩
        · exact ⟨2, rfl, by decide⟩
        · exact ⟨3, rfl, by decide⟩
        · exact ⟨2, rfl, by decide⟩
        · exact ⟨0, rfl, by decide⟩
        · exact ⟨1, rfl, by decide⟩
        · exact ⟨2, rfl, by decide⟩))
    have szs := ed_cat (sa := sa) (σ := [some (.ref sa), some (.ref ta), none, none, none, none, none, none]) (H := H1) (xs := [.int 2]) (S := fun ys _ => ys.length = ts.length - 1 ∧ ∀ y ∈ ys, ∃ z : Nat, y = .int z ∧ z ≤ 3) (fun H2 _ => el_lst (ea_cons (ev_c (v := .int 2)) ea_nil) (by decide : (1 : Nat) ≤ 100000)) (sz.imp fun v H2 ⟨D, ys, ev, _, hne, hD, hl, hy⟩ => ⟨D, ys, ev, hne, hD, hl, hy⟩) (fun _ _ _ _ h => h) (fun ys _ h => by rw [h.1]; show 1 + (ts.length - 1) ≤ 100000; omega)
    refine q_asgD szs s1 (by omega) fun v H2 x2 s2 ⟨za, zs, ev, nza, hza, zl, zz⟩ => ?_
    rw [ev]
    have zlen : ([V.int 2] ++ zs).length = ts.length := by
      rw [List.length_append, zl]
      show 1 + (ts.length - 1) = _
      omega
    have zall : ∀ y ∈ [V.int 2] ++ zs, ∃ z : Nat, y = .int z ∧ z ≤ 3 := fun y hy => by
      rcases List.mem_append.mp hy with hy | hy
      · rw [List.mem_singleton.mp hy]
        exact ⟨2, rfl, by decide⟩
      · exact zz y hy
    -- the constants
    refine q_asgD (ed_names (i := 0) rfl (two (H1 := H2) rfl) (fun m hm => by omega)) s2 (by omega) fun v H3 x3 s3 ⟨ca, cs, ev, nca, h3, cl, cn⟩ => ?_
    rw [ev]
    -- the variables
    refine q_asgD (ed_vars (i := 0) (j := 7) (H := H3) rfl (fun _ => rfl) (fun _ => rfl)) s3 (by omega) fun v H5 x4 s5 ⟨va, vx, ev, nva, h5, vl, vn⟩ => ?_
    rw [ev]
    have h1' : H5 ta = some (.lst (ts.map V.str)) := x4 _ _ nta (x3 _ _ nta (x2 _ _ nta h1))
    have hza' : H5 za = some (.lst ([V.int 2] ++ zs)) := x4 _ _ nza (x3 _ _ nza hza)
    have hca' : H5 ca = some (.lst (cs.map V.str)) := x4 _ _ nca h3
    -- the rows
    have rows := ed_lcR (sa := sa) (σ := [some (.ref sa), some (.ref ta), some (.ref za), some (.ref ca), some (.ref va), none, none, none]) (H := H5) (ta := tCons (tCB (rLenS K) (tCons (tVar 1) tNil)) tNil) (j := 6) (k0 := 0) (kk := 0) (N := ts.length) (vs := [6]) (Pm := fun m => m = ts.length) (R := fun D v H => RowAt sa H v ∧ ∀ a, v = .ref a → a ≠ D)
      (te := tTup (tCons (tOp (rIxL K) (tVar 1) (tVar 6)) (tCons (tOp (rIxL K) (tVar 2) (tVar 6)) tNil)))
      (fun H6 m x6 s6 _ Q q => (ea_cons (ev_len (K := K) (ev_var (i := 1) rfl) (sq_of (x6 _ _ nta h1'))) ea_nil) H6 (Ex.refl _) _ fun H7 e7 => by
        rw [List.length_map]
        exact q ts.length H7 (XB.ex e7) (s6.ex e7) rfl) (fun m hm => by omega) (by omega) (fun _ => rfl) (fun D y H H' h hk => by
          obtain ⟨⟨a, t, z, rfl, h1, h2, h3⟩, h4⟩ := h
          exact ⟨⟨a, t, z, rfl, h1, hk _ _ h1 (h4 a rfl) h2, h3⟩, h4⟩)
      (fun i D H6 ys m hi x6 _ hD s6 hm Q q => by
        have ht : (ts.map V.str)[i]? = some (.str ts[i]) := by rw [List.getElem?_map, List.getElem?_eq_getElem hi]; rfl
        obtain ⟨z, hz, hz3⟩ := zall _ (List.getElem_mem (l := [V.int 2] ++ zs) (n := i) (by omega))
        have hzi : ([V.int 2] ++ zs)[i]? = some (.int (z : Int)) := by rw [List.getElem?_eq_getElem (by omega), hz]
        have tu := eu_tup (σ := [some (.ref sa), some (.ref ta), some (.ref za), some (.ref ca), some (.ref va), none, some (.int (i : Int)), none]) (H := H6) (ea_cons (ev_op (ev_var (i := 1) rfl) (ev_var (i := 6) rfl) (rv_ixL (K := K) (sq_of (x6 _ _ nta h1')) (atI_nat ht))) (ea_cons (ev_op (ev_var (i := 2) rfl) (ev_var (i := 6) rfl) (rv_ixL (K := K) (sq_of (x6 _ _ nza hza')) (atI_nat hzi))) ea_nil)) (by decide : (2 : Nat) ≤ 100000)
        exact tu H6 (Ex.refl _) _ fun a H7 ha e7 h7 => q _ H7 (XB.ex e7) (s6.ex e7) ⟨⟨a, ts[i], z, rfl, s6.ne ha, h7, tn _ (List.getElem_mem _), hz3⟩, fun b eb => by
          cases eb
          intro e
          rw [e, hD] at ha
          cases ha⟩)
    refine q_asgD rows s5 (by omega) fun v H6 x6 s6 ⟨ra, rs, ev, hra, nra, h6, rl, rr⟩ => ?_
    rw [ev]
    have h5' : H6 va = some (.lst (vx.map V.str)) := x6 _ _ nva h5
    have hca6 := x6 _ _ nca hca'
    have h16 := x6 _ _ nta h1'
    have xA : XB sa H H6 := ((x1.trans x2).trans (x3.trans x4)).trans x6
    -- what is handed back
    have fin : ∀ H7 rs7, XB sa H H7 → Src H7 sa (n + 900) → H7 ra = some (.lst rs7) → 1 ≤ rs7.length ∧ rs7.length ≤ 10 → (∀ x ∈ rs7, RowAt sa H7 x) → H7 ca = some (.lst (cs.map V.str)) → H7 va = some (.lst (vx.map V.str)) → ∀ po H8, H7 po = none → Ex H7 H8 → H8 po = some (.lst [.ref ra, .ref ca, .ref va]) → Q (.ref po) H8 := fun H7 rs7 x7 s7 g1 g2 g3 g4 g5 po H8 hpo e8 h8 =>
      k po ra ca va rs7 cs vx H8 ⟨h8, e8 _ _ g1, e8 _ _ g4, e8 _ _ g5, s7.ne hpo, nra, nca, nva, g2, by omega, vl, fun x hx => (g3 x hx).mono (XB.ex e8), cn, vn⟩ (x7.trans (XB.ex e8)) ((s7.ex e8).mono (by omega))
    have t0 : ∃ t r, ts = t :: r ∧ nameS t = true := by
      cases ts with
      | nil =>
        have := tl
        simp at this
      | cons t r => exact ⟨t, r, rfl, tn t (List.mem_cons_self ..)⟩
    obtain ⟨t, tr, rfl, ht⟩ := t0
    refine q_ifD (ed_eqI (ed_draw (lim := 3) rfl (fun _ _ => ev_c) (by decide) (by decide)) (fun _ _ => ev_c)) s6 (by omega) (fun H7 x7 s7 => ?_) (fun H7 x7 s7 => ?_)
    · -- one more row
      have pk := ed_pick (K := K) (sa := sa) (k := 1) (σ := [some (.ref sa), some (.ref ta), some (.ref za), some (.ref ca), some (.ref va), some (.ref ra), none, none]) (H := H7) (ta := tLst (tCons (tC (.int 1)) (tCons (tC (.int 3)) (tCons (tC (.int 0)) (tCons (tC (.int 1)) tNil))))) (tb := tCall spDraw [] E0 (tCons (tVar 0) (tCons (tC (.int 4)) tNil))) (xs := [.int 1, .int 3, .int 0, .int 1]) (fun H2 _ => el_lst (ea_cons ev_c (ea_cons ev_c (ea_cons ev_c (ea_cons ev_c ea_nil)))) (by decide)) (ed_draw (lim := 4) rfl (fun H2 _ => ev_c) (by decide) (by decide))
      refine ⟨_, rfl, Or.inl ⟨rfl, rs, sq_of (x7 _ _ nra h6)⟩, _, rfl, ta, _, _, _, rfl, rfl, sq_of (x7 _ _ nta h16), atI_nat (j := 0) rfl, ?_⟩
      refine pk H7 _ (XB.refl _ _) s7 (by omega) _ fun v H8 x8 s8 hv => ?_
      obtain ⟨z, rfl, hz⟩ : ∃ z : Nat, v = .int (z : Int) ∧ z ≤ 3 := by
        simp only [List.mem_cons, List.not_mem_nil, or_false] at hv
        rcases hv with rfl | rfl | rfl | rfl
        · exact ⟨1, rfl, by decide⟩
        · exact ⟨3, rfl, by decide⟩
        · exact ⟨0, rfl, by decide⟩
        · exact ⟨1, rfl, by decide⟩
      refine ⟨sz_of (by show 2 ≤ 100000; decide), fun na2 hna2 => ?_⟩
      have nn2 := s8.ne hna2
      have h6' : upd H8 na2 (.tup [.str t, .int (z : Int)]) ra = some (.lst rs) := Ex.new hna2 _ _ (x8 _ _ nra (x7 _ _ nra h6))
      refine ⟨ra, rs, .ref na2, rfl, rfl, h6', sz_lt (by omega), ?_⟩
      have ne2 : na2 ≠ ra := fun e => by
        rw [e, x8 _ _ nra (x7 _ _ nra h6)] at hna2
        cases hna2
      have up : ∀ b o, b ≠ ra → H8 b = some o → upd (upd H8 na2 (.tup [.str t, .int (z : Int)])) ra (.lst (rs ++ [.ref na2])) b = some o := fun b o hb h => by
        rw [upd_ne hb]
        exact Ex.new hna2 _ _ h
      have h6n : H ra = none := by
        cases q : H ra with
        | none => rfl
        | some o =>
          have := ((x1.trans x2).trans (x3.trans x4)) _ _ nra q
          rw [hra] at this
          cases this
      have nca2 : ca ≠ ra := fun e => by
        rw [e, hra] at hca'
        cases hca'
      have nva2 : va ≠ ra := fun e => by
        rw [e, hra] at h5
        cases h5
      refine s_retL (el_lst (ea_cons (ev_var (i := 5) rfl) (ea_cons (ev_var (i := 3) rfl) (ea_cons (ev_var (i := 4) rfl) ea_nil))) (by decide : (3 : Nat) ≤ 100000)) fun po H9 hpo e9 h9 => fin _ (rs ++ [.ref na2]) ?_ ?_ upd_same ?_ (fun x hx => ?_) (up _ _ nca2 (x8 _ _ nca (x7 _ _ nca hca6))) (up _ _ nva2 (x8 _ _ nva (x7 _ _ nva h5'))) po H9 hpo e9 h9
      · intro b o hb h
        refine up b o (fun e => ?_) (x8 _ _ hb (x7 _ _ hb (xA b o hb h)))
        rw [e, h6n] at h
        cases h
      · exact ((s8.ex (Ex.new hna2)).keep fun o h => by rw [upd_ne (Ne.symm nra)]; exact h).mono (by omega)
      · rw [List.length_append, rl]
        have := tl
        simp only [List.length_cons, List.length_nil] at this ⊢
        omega
      · rcases List.mem_append.mp hx with hx | hx
        · obtain ⟨⟨a, t', z', rfl, h1, h2, h3⟩, h4⟩ := rr x hx
          exact ⟨a, t', z', rfl, h1, up _ _ (h4 a rfl) (x8 _ _ h1 (x7 _ _ h1 h2)), h3⟩
        · rw [List.mem_singleton.mp hx]
          refine ⟨na2, t, z, rfl, nn2, ?_, ht, hz⟩
          rw [upd_ne ne2]
          exact upd_same
    · refine s_retL (el_lst (ea_cons (ev_var (i := 5) rfl) (ea_cons (ev_var (i := 3) rfl) (ea_cons (ev_var (i := 4) rfl) ea_nil))) (by decide : (3 : Nat) ≤ 100000)) fun po H9 hpo e9 h9 => fin _ rs (xA.trans x7) (s7.mono (by omega)) (x7 _ _ nra h6) (by rw [rl]; omega) (fun x hx => (rr x hx).1.mono x7) (x7 _ _ nca hca6) (x7 _ _ nva h5') po H9 hpo e9 h9
end
end G39

namespace G39
open PySem PySem.Spec PyProof.Rows L2 Evl
abbrev s__law_term : Stmt := topS 20
abbrev n__law_term : List Str := ["_law_source_here", "_law_pool_here", "_law_variables_here", "_law_share"]
theorem sc__law_term : FnScope n__law_term ["_law_source_here", "_law_pool_here", "_law_variables_here", "_law_share"] (defScope s__law_term) := ⟨rfl, rfl, rfl, by decide +kernel, rfl, by decide +kernel, by decide +kernel⟩
abbrev s__law_pattern : Stmt := topS 21
abbrev n__law_pattern : List Str := ["_law_source_here", "_law_pool_here", "_law_variables_here", "_law_share", "_law_table", "_law_size", "_law_k"]
theorem sc__law_pattern : FnScope n__law_pattern ["_law_source_here", "_law_pool_here", "_law_variables_here", "_law_share"] (defScope s__law_pattern) := ⟨rfl, rfl, rfl, by decide +kernel, rfl, by decide +kernel, by decide +kernel⟩
abbrev s__law_lot : Stmt := topS 23
abbrev n__law_lot : List Str := ["_law_source_here", "_law_pool_here", "_law_variables_here", "_law_most", "_law_k"]
theorem sc__law_lot : FnScope n__law_lot ["_law_source_here", "_law_pool_here", "_law_variables_here", "_law_most"] (defScope s__law_lot) := ⟨rfl, rfl, rfl, by decide +kernel, rfl, by decide +kernel, by decide +kernel⟩
/-- the variables handed in: a list of them -/
def VarsAt (sa : Addr) (H : Hp) (a : Addr) (xs : List Str) : Prop := a ≠ sa ∧ H a = some (.lst (xs.map V.str)) ∧ xs.length ≤ 10 ∧ ∀ x ∈ xs, varS x = true
theorem VarsAt.mono {sa : Addr} {H H' : Hp} {a : Addr} {xs : List Str} (x : XB sa H H') (h : VarsAt sa H a xs) : VarsAt sa H' a xs := ⟨h.1, x _ _ h.1 h.2.1, h.2.2⟩
def spTerm : Sp := fun vs H Q _ => ∃ (sa po r c v va : Addr) (rows : List V) (cs xs ys : List Str) (n : Nat) (sh : Int), vs = [.ref sa, .ref po, .ref va, .int sh] ∧ Src H sa n ∧ n + 3 ≤ 100000 ∧ PoolAt sa H po r c v rows cs xs ∧ VarsAt sa H va ys ∧ ∀ x H', TermS x → XB sa H H' → Src H' sa (n + 3) → Q (.str x) H'
/-- a pattern: a tuple apart from the source -/
def PatAt (sa : Addr) (H : Hp) (v : V) (p : List Str) : Prop := ∃ a, v = .ref a ∧ a ≠ sa ∧ H a = some (.tup (p.map V.str)) ∧ GoodP p
theorem PatAt.mono {sa : Addr} {H H' : Hp} {v : V} {p : List Str} (x : XB sa H H') (h : PatAt sa H v p) : PatAt sa H' v p := by
  obtain ⟨a, rfl, h1, h2, h3⟩ := h
  exact ⟨a, rfl, h1, x _ _ h1 h2, h3⟩
theorem PatAt.pt {sa : Addr} {H : Hp} {v : V} {p : List Str} (h : PatAt sa H v p) : Pt H v p := by
  obtain ⟨a, rfl, h1, h2, h3⟩ := h
  exact ⟨a, rfl, h2⟩
def spPattern : Sp := fun vs H Q _ => ∃ (sa po r c v va : Addr) (rows : List V) (cs xs ys : List Str) (n : Nat) (sh : Int), vs = [.ref sa, .ref po, .ref va, .int sh] ∧ Src H sa n ∧ n + 10 ≤ 100000 ∧ PoolAt sa H po r c v rows cs xs ∧ VarsAt sa H va ys ∧ ∀ u p H', PatAt sa H' u p → XB sa H H' → Src H' sa (n + 10) → Q u H'
def spLot : Sp := fun vs H Q _ => ∃ (sa po r c v va : Addr) (rows : List V) (cs xs ys : List Str) (n m : Nat), vs = [.ref sa, .ref po, .ref va, .int (m : Int)] ∧ m ≤ 10 ∧ Src H sa n ∧ n + 101 ≤ 100000 ∧ PoolAt sa H po r c v rows cs xs ∧ VarsAt sa H va ys ∧
  ∀ l us H', H l = none → l ≠ sa → H' l = some (.lst us) → us.length ≤ m → (∀ u ∈ us, ∃ p, PatAt sa H' u p) → XB sa H H' → Src H' sa (n + 101) → Q (.ref l) H'
structure TG (K : PySem.W.Frag) (mg : Str → Option Value) : Prop where
  p : TP K mg
  _law_term : ∃ f fd, DefAt K mg "_law_term" s__law_term ["_law_source_here", "_law_pool_here", "_law_variables_here", "_law_share"] f fd
  _law_pattern : ∃ f fd, DefAt K mg "_law_pattern" s__law_pattern ["_law_source_here", "_law_pool_here", "_law_variables_here", "_law_share"] f fd
section
variable {P : Program} {w : World} {K : PySem.W.Frag} {mg : Str → Option Value} {base : Heap}
/-- xs != [], texts -/
theorem ev_neNilA {σ : L2.St} {H : Hp} {te : TE} {a : Addr} {l : List Str} (h : Ev te σ H (.ref a)) (ha : H a = some (.lst (l.map V.str))) (hs : ∀ x ∈ l, SOk x) : Ev (tOp (rNeD K) te (tLst tNil)) σ H (.bl (!l.isEmpty)) := fun H1 e Q q =>
  h H1 e _ fun H2 e2 => ⟨Nat.zero_le _, fun p hp => ⟨.list (l.map .str), .list [], (At.lst (Ex.new hp _ _ ((e.trans e2) _ _ ha)) (AtAll.strs l)).dp (shaped_list (strs_ok hs)), (At.lst upd_same .nil).dp (by decide), shaped_list (strs_ok hs), by decide, by
    rw [eqv_nil, List.isEmpty_map]
    exact q _ (e2.trans (Ex.new hp))⟩⟩
theorem ok_law_term {f : Addr} {fd : FuncData} (T : TD K mg) (F : Fun K "_law_term" "_law_term" s__law_term f fd) : FnOk P w K mg base CX0 2 f fd ["_law_source_here", "_law_pool_here", "_law_variables_here", "_law_share"] spTerm := by
  have m_len := T.m_len
  obtain ⟨fD, dD, D_law_draw⟩ := T._law_draw
  have G_law_draw : FnOk P w K mg base CX0 1 fD dD _ spDraw := ok_draw T.m_int D_law_draw.F
  refine F.ok sc__law_term (fun vs H Q E h => ?_) (fun cdv A outer s H vs Q E hr h => ?_)
  · obtain ⟨sa, po, r, c, v, va, rows, cs, xs, ys, n, sh, rfl, _⟩ := h
    rfl
  · obtain ⟨sa, po, r, c, v, va, rows, cs, xs, ys, n, sh, rfl, src, hn, pool, vars, k⟩ := h
    refine ⟨_, (pss_cons (ps_if (PW.pt (pw_and (pt_cmpR (op_neDK (K := K) rfl hr.units) (pv 2) (pe_lst pa_nil) (nomark _)) (pw_and1 (pt_cmpR op_lt (pe_call G_law_draw (hr.mono (by decide)) (by rfl) D_law_draw.g D_law_draw.F.kp D_law_draw.b .nil pass0 (pa_cons (pv 0) (pa_cons pe_int pa_nil))) (pv 3) (nomark _))))) (pss_one (ps_ret (pe_ix (ix_listK (K := K) rfl) (pv 2) (pe_call G_law_draw (hr.mono (by decide)) (by rfl) D_law_draw.g D_law_draw.F.kp D_law_draw.b .nil pass0 (pa_cons (pv 0) (pa_cons (pe_callB (call_len_seqK (K := K) rfl) (by rfl) m_len PySem.boot_len (pa_cons (pv 2) pa_nil)) pa_nil))) (fun _ _ => rfl)))) pss_nil)
      (pss_one (ps_ret (pe_ix (ix_listK (K := K) rfl) (pe_ix (ix_listK (K := K) rfl) (pv 1) pe_int (fun _ _ => rfl)) (pe_call G_law_draw (hr.mono (by decide)) (by rfl) D_law_draw.g D_law_draw.F.kp D_law_draw.b .nil pass0 (pa_cons (pv 0) (pa_cons (pe_callB (call_len_seqK (K := K) rfl) (by rfl) m_len PySem.boot_len (pa_cons (pe_ix (ix_listK (K := K) rfl) (pv 1) pe_int (fun _ _ => rfl)) pa_nil)) pa_nil))) (fun _ _ => rfl))))), ?_⟩
    -- a constant
    have cnst : ∀ {H1 : Hp} {m : Nat}, XB sa H H1 → Src H1 sa m → m + 1 ≤ n + 3 → tRet (tOp (rIxL K) (tOp (rIxL K) (tVar 1) (tC (.int 1))) (tCall spDraw [] E0 (tCons (tVar 0) (tCons (tCB (rLenS K) (tCons (tOp (rIxL K) (tVar 1) (tC (.int 1))) tNil)) tNil)))) { nx := fun x H' => Q V.non H', rt := Q } [some (.ref sa), some (.ref po), some (.ref va), some (.int sh)] H1 := fun {H1 m} x1 s1 hm => by
      have p1 := pool.mono x1
      have ix : ∀ {H2 : Hp}, XB sa H1 H2 → Ev (tOp (rIxL K) (tVar 1) (tC (.int 1))) [some (.ref sa), some (.ref po), some (.ref va), some (.int sh)] H2 (.ref c) := fun {H2} x2 => ev_op (ev_var rfl) ev_c (rv_ixL (sq_of (x2 _ _ p1.npo p1.hpo)) (atI_nat (j := 1) rfl))
      refine s_retD (ed_pickA (K := K) (xs := cs.map V.str) (l := c) (fun H2 x2 => ix x2) p1.hc p1.nc (ed_draw (lim := (cs.map V.str).length) rfl (fun H2 x2 => ev_len (K := K) (ix x2) (sq_of (x2 _ _ p1.nc p1.hc))) (by rw [List.length_map]; have := p1.cl; omega) (by rw [List.length_map]; have := p1.cl; omega))) s1 (by omega) fun v H2 x2 s2 hv => ?_
      obtain ⟨x, hx, rfl⟩ := List.mem_map.mp hv
      exact k x H2 (.inl (p1.hcs x hx)) (x1.trans x2) (s2.mono (by omega))
    have tst := ev_neNilA (K := K) (σ := [some (.ref sa), some (.ref po), some (.ref va), some (.int sh)]) (te := tVar 2) (ev_var rfl) vars.2.1 fun x hx => term_sok (.inr (vars.2.2.2 x hx))
    refine et_test tst H (Ex.refl _) _ fun H1 e1 => ?_
    cases hb : (!ys.isEmpty) with
    | false => exact cnst (XB.ex e1) (src.ex e1) (by omega)
    | true =>
      rw [if_pos rfl]
      have dr := ed_cmpI (sa := sa) (k := 1) (σ := [some (.ref sa), some (.ref po), some (.ref va), some (.int sh)]) (H := H1) (g := fun i j => decide (i < j)) (i := sh) (ta := tCall spDraw [] E0 (tCons (tVar 0) (tCons (tC (.int 6)) tNil))) (tb := tVar 3) (P := fun m => m < 6) (ed_draw (lim := 6) rfl (fun _ _ => ev_c) (by decide) (by decide)) (fun _ _ => ev_var rfl)
      refine dr H1 n (XB.refl _ _) (src.ex e1) (by omega) _ fun v H2 x2 s2 ⟨d, ev⟩ => ⟨d, ev, ?_⟩
      cases d with
      | false => exact cnst ((XB.ex e1).trans x2) s2 (by omega)
      | true =>
        rw [if_pos rfl]
        have v2 := (vars.mono (XB.ex e1)).mono x2
        have pos : 0 < ys.length := by
          cases ys with
          | nil => cases hb
          | cons _ _ => simp
        refine s_retD (ed_pickA (K := K) (xs := ys.map V.str) (l := va) (fun H3 x3 => ev_var rfl) v2.2.1 v2.1 (ed_draw (lim := (ys.map V.str).length) rfl (fun H3 x3 => ev_len (K := K) (ev_var rfl) (sq_of (x3 _ _ v2.1 v2.2.1))) (by rw [List.length_map]; omega) (by rw [List.length_map]; have := v2.2.2.1; omega))) s2 (by omega) fun v H3 x3 s3 hv => ?_
        obtain ⟨x, hx, rfl⟩ := List.mem_map.mp hv
        exact k x H3 (.inr (v2.2.2.2 x hx)) (((XB.ex e1).trans x2).trans x3) (s3.mono (by omega))
theorem ok_law_pattern {f : Addr} {fd : FuncData} (T : TG K mg) (F : Fun K "_law_pattern" "_law_pattern" s__law_pattern f fd) : FnOk P w K mg base CX0 3 f fd ["_law_source_here", "_law_pool_here", "_law_variables_here", "_law_share"] spPattern := by
  have m_len := T.p.d.m_len
  have m_range := T.p.d.m_range
  have m_tuple := T.p.d.m_tuple
  obtain ⟨fD, dD, D_law_draw⟩ := T.p.d._law_draw
  have G_law_draw : FnOk P w K mg base CX0 1 fD dD _ spDraw := ok_draw T.p.d.m_int D_law_draw.F
  obtain ⟨fT, dT, D_law_term⟩ := T._law_term
  have G_law_term : FnOk P w K mg base CX0 2 fT dT _ spTerm := ok_law_term T.p.d D_law_term.F
  refine F.ok sc__law_pattern (fun vs H Q E h => ?_) (fun cdv A outer s H vs Q E hr h => ?_)
  · obtain ⟨sa, po, r, c, v, va, rows, cs, xs, ys, n, sh, rfl, _⟩ := h
    rfl
  · obtain ⟨sa, po, r, c, v, va, rows, cs, xs, ys, n, sh, rfl, src, hn, pool, vars, k⟩ := h
    refine ⟨_, (pss_cons (ps_asg (pe_ix (ix_listK (K := K) rfl) (pe_ix (ix_listK (K := K) rfl) (pv 1) pe_int (fun _ _ => rfl)) (pe_call G_law_draw (hr.mono (by decide)) (by rfl) D_law_draw.g D_law_draw.F.kp D_law_draw.b .nil pass0 (pa_cons (pv 0) (pa_cons (pe_callB (call_len_seqK (K := K) rfl) (by rfl) m_len PySem.boot_len (pa_cons (pe_ix (ix_listK (K := K) rfl) (pv 1) pe_int (fun _ _ => rfl)) pa_nil)) pa_nil))) (fun _ _ => rfl)) (pg_tup (by rfl) (pgs_cons (pg_name (i := 4) sc__law_pattern.nd rfl (Or.inl rfl)) (pgs_cons (pg_name (i := 5) sc__law_pattern.nd rfl (Or.inl rfl)) pgs_nil))))
      (pss_one (ps_ret (pe_callTy (call_tuple_ofK (K := K) rfl) (by rfl) m_tuple (by decide +kernel) (pa_cons (pe_op op_cat (pe_lst (pa_cons (pv 4) pa_nil)) (pe_lc (own := [("_law_k", 6)]) (g := gName 6) (tt := tYes) rfl sc__law_pattern.nd (pi_range1 rfl m_range (pa_cons (pv 5) pa_nil)) (blkOk_by (N := n__law_pattern) (sc := defScope s__law_pattern) (by decide +kernel)) (fun _ _ _ _ _ => pg_name (i := 6) sc__law_pattern.nd rfl (Or.inl rfl)) (fun _ _ _ _ _ => pts_nil) (fun _ _ _ _ _ => (pe_call G_law_term (hr.mono (by decide)) (by rfl) D_law_term.g D_law_term.F.kp D_law_term.b .nil pass0 (pa_cons (pv 0) (pa_cons (pv 1) (pa_cons (pv 2) (pa_cons (pv 3) pa_nil)))))))) pa_nil))))), ?_⟩
    have ix : ∀ {H2 : Hp}, XB sa H H2 → Ev (tOp (rIxL K) (tVar 1) (tC (.int 0))) [some (.ref sa), some (.ref po), some (.ref va), some (.int sh), none, none, none] H2 (.ref r) := fun {H2} x2 => ev_op (ev_var rfl) ev_c (rv_ixL (sq_of (x2 _ _ pool.npo pool.hpo)) (atI_nat (j := 0) rfl))
    have pk := ed_pickA (K := K) (sa := sa) (xs := rows) (l := r) (σ := [some (.ref sa), some (.ref po), some (.ref va), some (.int sh), none, none, none]) (fun H2 x2 => ix x2) pool.hr pool.nr (ed_draw (i := 0) (lim := rows.length) rfl (fun H2 x2 => ev_len (K := K) (ix x2) (sq_of (x2 _ _ pool.nr pool.hr))) (by have := pool.rl; omega) (by have := pool.rl; omega))
    refine pk H n (XB.refl _ _) src (by omega) _ fun v H1 x1 s1 hv => ?_
    obtain ⟨ra, t, z, rfl, hne, hra, ht, hz⟩ := (pool.rs v hv).mono x1
    refine ⟨ra, _, rfl, st_of hra, rfl, _, _, rfl, _, _, rfl, rfl, ?_⟩
    -- the terms
    have p1 := pool.mono x1
    have v1 := vars.mono x1
    have lc := ed_lcR (sa := sa) (σ := [some (.ref sa), some (.ref po), some (.ref va), some (.int sh), some (.str t), some (.int (z : Int)), none]) (H := H1) (ta := tCons (tVar 5) tNil) (j := 6) (k0 := 0) (kk := 3) (N := 3) (vs := [6]) (Pm := fun m => m = z) (R := fun _ v _ => ∃ x : Str, v = .str x ∧ TermS x) (te := tCall spTerm [] E0 (tCons (tVar 0) (tCons (tVar 1) (tCons (tVar 2) (tCons (tVar 3) tNil)))))
      (fun H2 m x2 s2 _ Q q => ⟨_, rfl, q z H2 (XB.refl _ _) s2 rfl⟩) (fun m hm => by omega) (by decide) (fun _ => rfl) (fun _ _ _ _ h _ => h)
      (fun i D H3 us m _ x3 _ hD s3 hm Q q => ⟨_, rfl, _, rfl, _, rfl, _, rfl, sa, po, r, c, _, va, rows, cs, xs, ys, m, sh, rfl, s3, hm, p1.mono x3, v1.mono x3, fun x H4 hx x4 s4 => q _ H4 x4 s4 ⟨x, rfl, hx⟩⟩)
    have cat := ed_cat (xs := [.str t]) (ta := tLst (tCons (tVar 4) tNil)) (S := fun us _ => us.length = z ∧ ∀ u ∈ us, ∃ x : Str, u = .str x ∧ TermS x) (fun H2 _ => el_lst (ea_cons (ev_var rfl) ea_nil) (by decide : (1 : Nat) ≤ 100000)) (lc.imp fun v H2 ⟨D, us, ev, _, hne, hD, hl, hy⟩ => ⟨D, us, ev, hne, hD, hl, hy⟩) (fun _ _ _ _ h => h) (fun us _ h => by rw [h.1]; show 1 + z ≤ 100000; omega)
    have tup := ed_tuple (K := K) (S := fun us _ => ∃ p, us = p.map V.str ∧ GoodP p) (cat.imp fun v H2 ⟨l, us, ev, hne, hl, h1, h2⟩ => ⟨l, _, ev, hne, hl, by
      obtain ⟨q, hq, hq2⟩ : ∃ q : List Str, us = q.map V.str ∧ ∀ x ∈ q, TermS x := by
        clear h1 hl
        induction us with
        | nil => exact ⟨[], rfl, fun _ z => by cases z⟩
        | cons u us ih =>
          obtain ⟨q, h3, h4⟩ := ih fun u hu => h2 u (List.mem_cons_of_mem _ hu)
          obtain ⟨x, hx, hx2⟩ := h2 u (List.mem_cons_self ..)
          exact ⟨x :: q, by rw [hx, h3]; rfl, fun y hy => by
            rcases List.mem_cons.mp hy with rfl | hy
            · exact hx2
            · exact h4 y hy⟩
      refine ⟨t :: q, by rw [hq]; rfl, good_of ?_ ht hq2⟩
      rw [hq, List.length_map] at h1
      omega⟩) (fun _ _ _ _ h => h)
    exact s_retD tup s1 (by omega) fun v H2 x2 s2 ⟨l, us, ev, hne, hl, p, hp, hg⟩ => k v p H2 ⟨l, ev, hne, by rw [hl, hp], hg⟩ (x1.trans x2) (s2.mono (by omega))
theorem ok_law_lot {f : Addr} {fd : FuncData} (T : TG K mg) (F : Fun K "_law_lot" "_law_lot" s__law_lot f fd) : FnOk P w K mg base CX0 4 f fd ["_law_source_here", "_law_pool_here", "_law_variables_here", "_law_most"] spLot := by
  have m_range := T.p.d.m_range
  obtain ⟨fD, dD, D_law_draw⟩ := T.p.d._law_draw
  have G_law_draw : FnOk P w K mg base CX0 1 fD dD _ spDraw := ok_draw T.p.d.m_int D_law_draw.F
  obtain ⟨fT, dT, D_law_pattern⟩ := T._law_pattern
  have G_law_pattern : FnOk P w K mg base CX0 3 fT dT _ spPattern := ok_law_pattern T D_law_pattern.F
  refine F.ok sc__law_lot (fun vs H Q E h => ?_) (fun cdv A outer s H vs Q E hr h => ?_)
  · obtain ⟨sa, po, r, c, v, va, rows, cs, xs, ys, n, m, rfl, _⟩ := h
    rfl
  · obtain ⟨sa, po, r, c, v, va, rows, cs, xs, ys, n, m, rfl, hm, src, hn, pool, vars, k⟩ := h
    refine ⟨_, (pss_one (ps_ret (pe_lc (own := [("_law_k", 4)]) (g := gName 4) (tt := tYes) rfl sc__law_lot.nd (pi_range1 rfl m_range (pa_cons (pe_call G_law_draw (hr.mono (by decide)) (by rfl) D_law_draw.g D_law_draw.F.kp D_law_draw.b .nil pass0 (pa_cons (pv 0) (pa_cons (pe_op op_add (pv 3) pe_int) pa_nil))) pa_nil)) (blkOk_by (N := n__law_lot) (sc := defScope s__law_lot) (by decide +kernel)) (fun _ _ _ _ _ => pg_name (i := 4) sc__law_lot.nd rfl (Or.inl rfl)) (fun _ _ _ _ _ => pts_nil) (fun _ _ _ _ _ => (pe_call G_law_pattern (hr.mono (by decide)) (by rfl) D_law_pattern.g D_law_pattern.F.kp D_law_pattern.b .nil pass0 (pa_cons (pv 0) (pa_cons (pv 1) (pa_cons (pv 2) (pa_cons pe_int pa_nil))))))))), ?_⟩
    have dr := ed_draw (sa := sa) (σ := [some (.ref sa), some (.ref po), some (.ref va), some (.int (m : Int)), none]) (H := H) (i := 0) (tl := tOp (rI0 fun i j => .int (i + j)) (tVar 3) (tC (.int 1))) (lim := m + 1) rfl (fun H1 _ => ev_is (ev_op (ev_var rfl) ev_c rv_I0) (by simp)) (by omega) (by omega)
    have lc := ed_lcR (sa := sa) (σ := [some (.ref sa), some (.ref po), some (.ref va), some (.int (m : Int)), none]) (H := H) (ta := tCons (tCall spDraw [] E0 (tCons (tVar 0) (tCons (tOp (rI0 fun i j => .int (i + j)) (tVar 3) (tC (.int 1))) tNil))) tNil) (j := 4) (k0 := 1) (kk := 10) (N := 10) (vs := [4]) (Pm := fun u => u ≤ m) (R := fun D v H => ∃ p, PatAt sa H v p ∧ ∀ a, v = .ref a → a ≠ D) (te := tCall spPattern [] E0 (tCons (tVar 0) (tCons (tVar 1) (tCons (tVar 2) (tCons (tC (.int 4)) tNil)))))
      (fun H2 u x2 s2 hu Q q => dr H2 u x2 s2 hu _ fun v H3 x3 s3 ⟨j, ev, hj⟩ => by
        rw [ev]
        exact q j H3 x3 s3 (by omega)) (fun u hu => by omega) (by decide) (fun _ => rfl) (fun D y H H' ⟨p, ⟨a, ea, h1, h2, h3⟩, h4⟩ hk => ⟨p, ⟨a, ea, h1, hk _ _ h1 (h4 a ea) h2, h3⟩, h4⟩)
      (fun i D H3 us u _ x3 _ hD s3 hu Q q => ⟨_, rfl, _, rfl, _, rfl, sa, po, r, c, v, va, rows, cs, xs, ys, u, 4, rfl, s3, hu, pool.mono x3, vars.mono x3, fun y p H4 hp x4 s4 => q y H4 x4 s4 ⟨p, hp, fun a ea => by
        obtain ⟨b, eb, h1, h2, _⟩ := hp
        rw [ea] at eb
        cases eb
        intro e
        rw [e, x4 _ _ (by rw [← e]; exact h1) hD] at h2
        cases h2⟩⟩)
    exact s_retD lc src (by omega) fun v H2 x2 s2 ⟨D, us, ev, hD, hne, h2, hl, hu⟩ => by
      rw [ev]
      exact k D us H2 hD hne h2 hl (fun u hm => (hu u hm).elim fun p z => ⟨p, z.1⟩) x2 (s2.mono (by omega))
end
end G39

namespace G39
open PySem PySem.Spec PyProof.Rows L2 Evl
abbrev s__law_spoiled : Stmt := topS 33
abbrev n__law_spoiled : List Str := ["_law_source_here", "_law_text_here", "_law_place", "_law_sign"]
theorem sc__law_spoiled : FnScope n__law_spoiled ["_law_source_here", "_law_text_here"] (defScope s__law_spoiled) := ⟨rfl, rfl, rfl, by decide +kernel, rfl, by decide +kernel, by decide +kernel⟩
abbrev s__law_texts : Stmt := topS 34
abbrev n__law_texts : List Str := ["_law_source_here", "_law_pattern_here", "_law_text_here", "_law_k", "_law_near"]
theorem sc__law_texts : FnScope n__law_texts ["_law_source_here", "_law_pattern_here"] (defScope s__law_texts) := ⟨rfl, rfl, rfl, by decide +kernel, rfl, by decide +kernel, by decide +kernel⟩
def Asc (x : Str) : Prop := ∀ c ∈ x.cps.toList, c < 128
theorem asc_add {x y : Str} (hx : Asc x) (hy : Asc y) : Asc (x ++ y) := fun c hc => by
  rw [cps_add] at hc
  rcases List.mem_append.mp hc with hc | hc
  · exact hx c hc
  · exact hy c hc
def spSpoil : Sp := fun vs H Q _ => ∃ (sa : Addr) (n : Nat) (z : Str), vs = [.ref sa, .str z] ∧ Src H sa n ∧ n + 3 ≤ 100000 ∧ z.length ≤ 300 ∧ Asc z ∧ ∀ x H', x.length ≤ 700 → Asc x → XB sa H H' → Src H' sa (n + 3) → Q (.str x) H'
theorem readS_end {p : List Str} (h : GoodP p) : readS (textS p ++ " ") = none := by
  obtain ⟨t, r, rfl, h1, h2, h3⟩ := good_parts h
  have hc : cutAt 40 (textS (t :: r) ++ (" " : Str)).cps.toList = some (t.cps.toList, (Str.join comma r).cps.toList ++ [41, 32]) := by
    rw [cps_add, text_cps]
    have e : (" " : Str).cps.toList = [32] := rfl
    rw [e, List.append_assoc, List.cons_append, List.append_assoc]
    exact cutAt_of fun z => ((name_parts h2).2.2 40 z).2.1 rfl
  unfold readS
  rw [hc]
  simp [List.getLast?_append]
def spTexts : Sp := fun vs H Q _ => ∃ (sa : Addr) (n : Nat) (u : V) (p : List Str), vs = [.ref sa, u] ∧ Src H sa n ∧ n + 15 ≤ 100000 ∧ PatAt sa H u p ∧ ∀ H', XB sa H H' → Src H' sa (n + 15) → Q (.bl true) H'
structure TX (K : PySem.W.Frag) (mg : Str → Option Value) : Prop where
  d : TD K mg
  l : TL K mg
  read_pattern : ∃ f fd, DefAt K mg "read_pattern" s_read_pattern ["text"] f fd
  pattern_text : ∃ f fd, DefAt K mg "pattern_text" s_pattern_text ["pattern"] f fd
  _law_text : ∃ f fd, DefAt K mg "_law_text" s__law_text ["_law_pattern_here"] f fd
  _law_of_text : ∃ f fd, DefAt K mg "_law_of_text" s__law_of_text ["_law_text_here"] f fd
  _law_spoiled : ∃ f fd, DefAt K mg "_law_spoiled" s__law_spoiled ["_law_source_here", "_law_text_here"] f fd
def signs12 : List Str := ["", ",", "(", ")", "?", " ", "a", "7", "A", "()", ",,", "\n"]
theorem signs12_ok : ∀ x ∈ signs12, x.length ≤ 2 ∧ ∀ c ∈ x.cps.toList, c < 128 := by decide +kernel
section
variable {P : Program} {w : World} {K : PySem.W.Frag} {mg : Str → Option Value} {base : Heap}
theorem ed_addS {sa : Addr} {σ : L2.St} {H : Hp} {ta tb : TE} {k : Nat} {x : Str} {R : Str → Prop} (ha : ∀ H1, XB sa H H1 → Ev ta σ H1 (.str x)) (hb : Ed sa k tb σ H fun v _ => ∃ y, v = .str y ∧ R y) (hl : ∀ y, R y → x.length + y.length ≤ 100000) :
    Ed sa k (tOp (fun x y H Q => ∃ i j, x = .str i ∧ y = .str j ∧ i.length + j.length ≤ sizeLine ∧ Q (.str (i ++ j)) H) ta tb) σ H fun v _ => ∃ y, v = .str (x ++ y) ∧ R y := fun H1 n x1 s1 hn Q q =>
  ha H1 x1 H1 (Ex.refl _) _ fun H2 e2 => hb H2 n (x1.trans (XB.ex e2)) (s1.ex e2) hn _ fun v H3 x3 s3 ⟨y, ev, hy⟩ => ⟨x, y, rfl, ev, sz_of (hl y hy), q _ H3 ((XB.ex e2).trans x3) s3 ⟨y, rfl, hy⟩⟩
theorem ed_from {sa : Addr} {σ : L2.St} {H : Hp} {te tb : TE} {k : Nat} {z : Str} {R : Nat → Prop} (hz : ∀ H1, XB sa H H1 → Ev te σ H1 (.str z)) (hl : z.length ≤ 100000) (hb : Ed sa k tb σ H fun v _ => ∃ m : Nat, v = .int m ∧ R m) :
    Ed sa k (tSl rSlS te (tPart tb) tNoPart) σ H fun v _ => ∃ m : Nat, R m ∧ v = .str (cutS z (some (m : Int)) none) := fun H1 n x1 s1 hn Q q =>
  hz H1 x1 H1 (Ex.refl _) _ fun H2 e2 => hb H2 n (x1.trans (XB.ex e2)) (s1.ex e2) hn _ fun v H3 x3 s3 ⟨m, ev, hm⟩ => ⟨(m : Int), ev, z, rfl, sz_of hl, q _ H3 ((XB.ex e2).trans x3) s3 ⟨m, hm, rfl⟩⟩
theorem ok_law_spoiled {f : Addr} {fd : FuncData} (T : TD K mg) (F : Fun K "_law_spoiled" "_law_spoiled" s__law_spoiled f fd) : FnOk P w K mg base CX0 2 f fd ["_law_source_here", "_law_text_here"] spSpoil := by
  have m_len := T.m_len
  obtain ⟨fD, dD, D_law_draw⟩ := T._law_draw
  have G_law_draw : FnOk P w K mg base CX0 1 fD dD _ spDraw := ok_draw T.m_int D_law_draw.F
  refine F.ok sc__law_spoiled (fun vs H Q E h => ?_) (fun cdv A outer s H vs Q E hr h => ?_)
  · obtain ⟨sa, n, z, rfl, _⟩ := h
    rfl
  · obtain ⟨sa, n, z, rfl, src, hn, hz, hasc, k⟩ := h
    refine ⟨_, (pss_cons (ps_set (i := 2) sc__law_spoiled.nd rfl (Or.inl rfl) (pe_call G_law_draw (hr.mono (by decide)) (by rfl) D_law_draw.g D_law_draw.F.kp D_law_draw.b .nil pass0 (pa_cons (pv 0) (pa_cons (pe_op op_add (pe_callB call_len_str (by rfl) m_len PySem.boot_len (pa_cons (pv 1) pa_nil)) pe_int) pa_nil))))
      (pss_cons (ps_set (i := 3) sc__law_spoiled.nd rfl (Or.inl rfl) (pe_ix (ix_listK (K := K) rfl) (pe_lst (pa_cons pe_str (pa_cons pe_str (pa_cons pe_str (pa_cons pe_str (pa_cons pe_str (pa_cons pe_str (pa_cons pe_str (pa_cons pe_str (pa_cons pe_str (pa_cons pe_str (pa_cons pe_str (pa_cons pe_str pa_nil))))))))))))) (pe_call G_law_draw (hr.mono (by decide)) (by rfl) D_law_draw.g D_law_draw.F.kp D_law_draw.b .nil pass0 (pa_cons (pv 0) (pa_cons pe_int pa_nil))) (fun _ _ => rfl)))
      (pss_one (ps_ret (pe_op op_add_str (pe_op op_add_str (pe_slice sl_str (pv 1) po_none (po_some (pv 2))) (pv 3)) (pe_slice sl_str (pv 1) (po_some (pe_op op_add (pv 2) (pe_call G_law_draw (hr.mono (by decide)) (by rfl) D_law_draw.g D_law_draw.F.kp D_law_draw.b .nil pass0 (pa_cons (pv 0) (pa_cons pe_int pa_nil))))) po_none)))))), ?_⟩
    refine q_asgD (ed_draw (lim := z.length + 1) rfl (fun H1 _ => ev_is (ev_op (ev_lenS (ev_var rfl) (by omega)) ev_c rv_I0) (by simp)) (by omega) (by omega)) src (by omega) fun v H1 x1 s1 ⟨pl, ev, hpl⟩ => ?_
    rw [ev]
    refine q_asgD (ed_pick (K := K) (xs := signs12.map V.str) (fun H2 _ => el_lst (ea_cons ev_c (ea_cons ev_c (ea_cons ev_c (ea_cons ev_c (ea_cons ev_c (ea_cons ev_c (ea_cons ev_c (ea_cons ev_c (ea_cons ev_c (ea_cons ev_c (ea_cons ev_c (ea_cons ev_c ea_nil)))))))))))) (by decide)) (ed_draw (lim := 12) rfl (fun H2 _ => ev_c) (by decide) (by decide))) s1 (by omega) fun v H2 x2 s2 hv => ?_
    obtain ⟨sg, hsg, rfl⟩ := List.mem_map.mp hv
    obtain ⟨sg1, sg2⟩ := signs12_ok sg hsg
    have c1 := ev_slS (σ := [some (.ref sa), some (.str z), some (.int (pl : Int)), some (.str sg)]) (H := H2) (te := tVar 1) (z := z) (lo := none) (hi := some (pl : Int)) (ev_var rfl) eo_none (eo_some (ev_var (i := 2) rfl)) (by omega)
    have l1 : (cutS z none (some (pl : Int))).length ≤ z.length := by
      rw [← len_cps, cut_to z (by omega), List.length_take, len_cps]
      omega
    have a1 : Asc (cutS z none (some (pl : Int))) := fun c hc => by
      rw [cut_to z (by omega)] at hc
      exact hasc c (List.mem_of_mem_take hc)
    have c2 := ev_op c1 (ev_var (i := 3) rfl) (rv_addS (x := cutS z none (some (pl : Int))) (y := sg) (by omega))
    have l2 : (cutS z none (some (pl : Int)) ++ sg).length ≤ z.length + 2 := by
      rw [len_add]
      omega
    have l3 : ∀ m : Nat, (cutS z (some (m : Int)) none).length ≤ z.length := fun m => by
      rw [← len_cps, cut_from z m, List.length_drop, len_cps]
      omega
    have a3 : ∀ m : Nat, Asc (cutS z (some (m : Int)) none) := fun m c hc => by
      rw [cut_from z m] at hc
      exact hasc c (List.mem_of_mem_drop hc)
    have fr := ed_from (sa := sa) (k := 1) (σ := [some (.ref sa), some (.str z), some (.int (pl : Int)), some (.str sg)]) (H := H2) (te := tVar 1) (z := z) (R := fun _ => True) (fun _ _ => ev_var rfl) (by omega) ((ed_plus (i := pl) (lim := 2) (ta := tVar 2) (fun _ _ => ev_var rfl) (ed_draw (i := 0) (tl := tC (.int 2)) (lim := 2) rfl (fun _ _ => ev_c) (by decide) (by decide))).imp fun v _ ⟨m, ev, _⟩ => ⟨m, ev, trivial⟩)
    refine s_retD (ed_addS (R := fun y => y.length ≤ z.length ∧ Asc y) (fun H3 x3 => ev_op (ev_slS (ev_var rfl) eo_none (eo_some (ev_var (i := 2) rfl)) (by omega)) (ev_var (i := 3) rfl) (rv_addS (x := cutS z none (some (pl : Int))) (y := sg) (by omega))) (fr.imp fun v _ ⟨m, _, ev⟩ => ⟨_, ev, l3 m, a3 m⟩) (fun y hy => by omega)) s2 (by omega) fun v H4 x4 s4 ⟨y, ev, hy1, hy2⟩ => ?_
    rw [ev]
    refine k _ H4 ?_ (asc_add (asc_add a1 sg2) hy2) ((x1.trans x2).trans x4) (s4.mono (by omega))
    rw [len_add]
    omega
/-- what is read: none, or a pattern in a new tuple -/
def ReadR (x : Str) (v : V) (H : Hp) : Prop := (readS x = none ∧ v = .non) ∨ ∃ p a, readS x = some p ∧ v = .ref a ∧ H a = some (.tup (p.map V.str))
theorem ReadR.mono {x : Str} {v : V} {H H' : Hp} (e : Ex H H') (h : ReadR x v H) : ReadR x v H' := by
  rcases h with h | ⟨p, a, h1, h2, h3⟩
  · exact .inl h
  · exact .inr ⟨p, a, h1, h2, e _ _ h3⟩
theorem ep_read {σ : L2.St} {H : Hp} {te : TE} {x : Str} (h : Ev te σ H (.str x)) (hx : x.length ≤ 5000) : EvP (tCall spRead [] E0 (tCons te tNil)) σ H (ReadR x) := fun H1 e Q q =>
  h H1 e _ fun H2 e2 => ⟨x, rfl, hx, fun z H3 e3 => q _ H3 (e2.trans e3) (.inl ⟨z, rfl⟩), fun p z a H3 ha e3 h3 => q _ H3 (e2.trans e3) (.inr ⟨p, a, z, rfl, h3⟩)⟩
theorem ep_ofText {σ : L2.St} {H : Hp} {te : TE} {x : Str} (h : Ev te σ H (.str x)) (hx : x.length ≤ 5000) (hs : SOk x) : EvP (tCall (fun vs H Q E => spRead vs H Q E ∧ ∀ x, vs = [.str x] → (PyData.str x).canLay0 = true) [] E0 (tCons te tNil)) σ H (ReadR x) := fun H1 e Q q =>
  h H1 e _ fun H2 e2 => ⟨⟨x, rfl, hx, fun z H3 e3 => q _ H3 (e2.trans e3) (.inl ⟨z, rfl⟩), fun p z a H3 ha e3 h3 => q _ H3 (e2.trans e3) (.inr ⟨p, a, z, rfl, h3⟩)⟩, fun y ey => by
    cases ey
    exact hs⟩
theorem read_asc {x : Str} (hx : Asc x) {p : List Str} (h : readS x = some p) : ∀ y ∈ p, SOk y := by
  unfold readS at h
  cases hc : cutAt 40 x.cps.toList with
  | none =>
    rw [hc] at h
    cases h
  | some ab =>
    obtain ⟨a, b⟩ := ab
    rw [hc] at h
    obtain ⟨ex, _⟩ := cutAt_some hc
    simp only at h
    split at h
    · split at h
      · cases h
        intro y hy
        refine sok_of fun c hcy => ?_
        unfold partsC at hy
        rcases List.mem_cons.mp hy with rfl | hy
        · rw [ofC_cps] at hcy
          exact hx c (by rw [ex]; exact List.mem_append_left _ hcy)
        · by_cases q : b.dropLast = []
          · rw [if_pos q] at hy
            cases hy
          · rw [if_neg q] at hy
            have : c ∈ (ofC b.dropLast).cps.toList := split_mem hy hcy
            rw [ofC_cps] at this
            exact hx c (by rw [ex]; exact List.mem_append_right _ (List.mem_cons_of_mem _ (List.dropLast_subset b this)))
      · cases h
    · cases h
/-- two readings of the same text -/
theorem ne_read {H : Hp} {x : Str} {u v : V} {Q : VK} (hx : Asc x) (h1 : ReadR x u H) (h2 : ReadR x v H) (q : Q (.bl false) H) : rNeD K u v H Q := by
  rcases h1 with ⟨e1, rfl⟩ | ⟨p, a, e1, rfl, ha⟩
  · rcases h2 with ⟨e2, rfl⟩ | ⟨p2, b, e2, rfl, hb⟩
    · exact ⟨.none, .none, .non, .non, by decide, by decide, q⟩
    · rw [e1] at e2
      cases e2
  · rcases h2 with ⟨e2, rfl⟩ | ⟨p2, b, e2, rfl, hb⟩
    · rw [e1] at e2
      cases e2
    · rw [e1] at e2
      cases e2
      exact ne_tup ha hb (read_asc hx e1) q
theorem ev_read0 {σ : L2.St} {H : Hp} {te : TE} {x : Str} (h : Ev te σ H (.str x)) (hx : x.length ≤ 5000) (hr : readS x = none) : Ev (tOp (fun x y H Q => y = .non ∧ Q (.bl (decide (x = .non))) H) (tCall spRead [] E0 (tCons te tNil)) (tC .non)) σ H (.bl true) := fun H1 e Q q =>
  ep_read h hx H1 e _ fun v H2 e2 r => ⟨rfl, by
    rcases r with ⟨_, rfl⟩ | ⟨p, a, e1, _⟩
    · exact q H2 e2
    · rw [hr] at e1
      cases e1⟩
theorem ok_law_texts {f : Addr} {fd : FuncData} (T : TX K mg) (F : Fun K "_law_texts" "_law_texts" s__law_texts f fd) : FnOk P w K mg base CX0 5 f fd ["_law_source_here", "_law_pattern_here"] spTexts := by
  have m_range := T.d.m_range
  obtain ⟨f1, d1, Dread_pattern⟩ := T.read_pattern
  obtain ⟨f2, d2, Dpattern_text⟩ := T.pattern_text
  obtain ⟨f3, d3, D_law_text⟩ := T._law_text
  obtain ⟨f4, d4, D_law_of_text⟩ := T._law_of_text
  obtain ⟨f5, d5, D_law_spoiled⟩ := T._law_spoiled
  have Gread_pattern : FnOk P w K mg base CX0 4 f1 d1 _ spRead := ok_read_pattern T.l.n T.l.n.is_pattern Dread_pattern.F
  have Gpattern_text : FnOk P w K mg base CX0 1 f2 d2 _ spText := ok_pattern_text Dpattern_text.F
  have G_law_text : FnOk P w K mg base CX0 1 f3 d3 _ spText := ok_law_text T.d.m_list D_law_text.F
  have G_law_of_text := ok_law_of_text (P := P) (w := w) (base := base) T.l D_law_of_text.F
  have G_law_spoiled : FnOk P w K mg base CX0 2 f5 d5 _ spSpoil := ok_law_spoiled T.d D_law_spoiled.F
  refine F.ok sc__law_texts (fun vs H Q E h => ?_) (fun cdv A outer s H vs Q E hr h => ?_)
  · obtain ⟨sa, n, u, p, rfl, _⟩ := h
    rfl
  · obtain ⟨sa, n, u, p, rfl, src, hn, ⟨a, rfl, hne, ha, hg⟩, k⟩ := h
    refine ⟨_, (pss_cons (ps_set (i := 2) sc__law_texts.nd rfl (Or.inl rfl) (pe_call Gpattern_text (hr.mono (by decide)) (by rfl) Dpattern_text.g Dpattern_text.F.kp Dpattern_text.b .nil pass0 (pa_cons (pv 1) pa_nil)))
      (pss_cons (ps_if (PW.pt (pw_or (pt_cmpR op_ne (pv 2) (pe_call G_law_text (hr.mono (by decide)) (by rfl) D_law_text.g D_law_text.F.kp D_law_text.b .nil pass0 (pa_cons (pv 1) pa_nil)) (nomark _)) (pw_or1 (pt_cmpR (op_neDK (K := K) rfl hr.units) (pe_call Gread_pattern (hr.mono (by decide)) (by rfl) Dread_pattern.g Dread_pattern.F.kp Dread_pattern.b .nil pass0 (pa_cons (pv 2) pa_nil)) (pv 1) (nomark _))))) (pss_one (ps_ret pe_bl)) pss_nil)
      (pss_cons (ps_for PassesOwn.never rfl (pi_range1 rfl m_range (pa_cons pe_int pa_nil)) (pg_name (i := 3) sc__law_texts.nd rfl (Or.inl rfl)) (pss_cons (ps_set (i := 4) sc__law_texts.nd rfl (Or.inl rfl) (pe_call G_law_spoiled (hr.mono (by decide)) (by rfl) D_law_spoiled.g D_law_spoiled.F.kp D_law_spoiled.b .nil pass0 (pa_cons (pv 0) (pa_cons (pv 2) pa_nil))))
      (pss_one (ps_if (pt_cmpR (op_neDK (K := K) rfl hr.units) (pe_call Gread_pattern (hr.mono (by decide)) (by rfl) Dread_pattern.g Dread_pattern.F.kp Dread_pattern.b .nil pass0 (pa_cons (pv 4) pa_nil)) (pe_call G_law_of_text (hr.mono (by decide)) (by rfl) D_law_of_text.g D_law_of_text.F.kp D_law_of_text.b .nil pass0 (pa_cons (pv 4) pa_nil)) (nomark _)) (pss_one (ps_ret pe_bl)) pss_nil))))
      (pss_one (ps_ret (pe_and (pe_cmpR op_isN (pe_call Gread_pattern (hr.mono (by decide)) (by rfl) Dread_pattern.g Dread_pattern.F.kp Dread_pattern.b .nil pass0 (pa_cons pe_str pa_nil)) pe_non (nomark _)) (pe_one (pe_cmpR op_isN (pe_call Gread_pattern (hr.mono (by decide)) (by rfl) Dread_pattern.g Dread_pattern.F.kp Dread_pattern.b .nil pass0 (pa_cons (pe_op op_add_str (pv 2) pe_str) pa_nil)) pe_non (nomark _))))))))), ?_⟩
    obtain ⟨pb, pt⟩ := good_pb hg
    have tl := text_len pb
    have txt : ∀ {σ : L2.St} {H1 : Hp}, σ[1]? = some (some (.ref a)) → XB sa H H1 → Ev (tCall spText [] E0 (tCons (tVar 1) tNil)) σ H1 (.str (textS p)) := fun {σ H1} h1 x1 H2 e2 Q q => ⟨_, h1, .ref a, p, rfl, ⟨a, rfl, e2 _ _ (x1 _ _ hne ha)⟩, pb, fun H3 e3 => q H3 e3⟩
    refine q_asg (txt rfl (XB.refl _ _)) fun H1 e1 => ?_
    have c1 := ev_op (σ := [some (.ref sa), some (.ref a), some (.str (textS p)), none, none]) (H := H1) (ev_var (i := 2) rfl) (txt rfl (XB.ex e1)) (rv_ne (x := .str (textS p)) (y := .str (textS p)) rfl)
    have c2 : Ev (tOp (rNeD K) (tCall spRead [] E0 (tCons (tVar 2) tNil)) (tVar 1)) [some (.ref sa), some (.ref a), some (.str (textS p)), none, none] H1 (.bl false) := fun H2 e2 Q q =>
      ep_read (ev_var rfl) (by omega) H2 e2 _ fun v H3 e3 r => ⟨_, rfl, ne_read (x := textS p) (text_sok hg) r (.inr ⟨p, a, read_text hg, rfl, e3 _ _ (e2 _ _ (e1 _ _ ha))⟩) (q H3 e3)⟩
    refine q_when (b := false) (et_is (et_or (et_test c1) fun _ => et_test c2) (by simp)) (fun z => by cases z) (fun _ H2 e2 => ?_)
    refine q_forR1 (ea_cons ev_c ea_nil) ⟨by decide, by decide⟩ (fun i σ' H' => XB sa H H' ∧ Src H' sa (n + 3 * i) ∧ ∃ y3 y4, σ' = [some (.ref sa), some (.ref a), some (.str (textS p)), y3, y4]) (fun H3 e3 => ⟨XB.ex (e1.trans (e2.trans e3)), src.ex (e1.trans (e2.trans e3)), none, none, rfl⟩) ?_ ?_
    · rintro i σ' H' hi ⟨x3, s3, y3, y4, rfl⟩
      refine ⟨_, rfl, _, rfl, sa, n + 3 * i, textS p, rfl, s3, by omega, by omega, text_sok hg, fun x H4 hx ax x4 s4 => ?_⟩
      have c3 : Ev (tOp (rNeD K) (tCall spRead [] E0 (tCons (tVar 4) tNil)) (tCall (fun vs H Q E => spRead vs H Q E ∧ ∀ x, vs = [.str x] → (PyData.str x).canLay0 = true) [] E0 (tCons (tVar 4) tNil))) [some (.ref sa), some (.ref a), some (.str (textS p)), some (.int (i : Int)), some (.str x)] H4 (.bl false) := fun H5 e5 Q q =>
        ep_read (ev_var rfl) (by omega) H5 e5 _ fun v H6 e6 r => ep_ofText (te := tVar 4) (σ := [some (.ref sa), some (.ref a), some (.str (textS p)), some (.int (i : Int)), some (.str x)]) (H := H6) (ev_var rfl) (by omega) (sok_of ax) H6 (Ex.refl _) _ fun v2 H7 e7 r2 => ne_read ax (r.mono e7) r2 (q H7 (e6.trans e7))
      exact s_when (et_test c3) (fun z => by cases z) fun _ H5 e5 => ⟨x3.trans (x4.trans (XB.ex e5)), (s4.ex e5).mono (by omega), some (.int (i : Int)), some (.str x), rfl⟩
    · rintro σ' H' ⟨x3, s3, y3, y4, rfl⟩
      have c4 := ev_read0 (σ := [some (.ref sa), some (.ref a), some (.str (textS p)), y3, y4]) (H := H') (te := tC (.str "")) (x := "") ev_c (by decide) (by decide +kernel)
      have c5 := ev_read0 (σ := [some (.ref sa), some (.ref a), some (.str (textS p)), y3, y4]) (H := H') (x := textS p ++ (" " : Str)) (ev_op (ev_var (i := 2) rfl) (ev_c (v := .str " ")) (rv_addS (by show _ + 1 ≤ _; omega))) (by rw [len_add]; show _ + 1 ≤ _; omega) (readS_end hg)
      exact s_ret (ev_andV c4 fun _ => c5) fun H5 e5 => k H5 (x3.trans (XB.ex e5)) ((s3.ex e5).mono (by have : (5 : Int).toNat = 5 := rfl; omega))
end
end G39

/-! tuple * int, for any int -/
namespace G39
open PySem PySem.Spec PyProof.Rows L2
theorem tuple_mul1 (l : Addr) (items : Array Value) (n : Nat) (dd : Option Addr) (sl : Array (Option Value)) (x : Int) (u : Tok) (c0 : (decide (x < -(2 ^ 63)) || decide (x ≥ 2 ^ 63)) = false) (c1 : (items.isEmpty || x == 1) = true) :
    Meets (Builtin.«tuple.__mul__» ⟨[.ref l, .int x u], []⟩) (fun _ R s => s.heap.get? l = some { cls := .type "tuple", dict := dd, data := .seq items n, slots := sl } ∧ R (.ok (.ret (Value.ref l))) s) :=
  .of_wp fun prog w A R s h => by
    obtain ⟨hp, g, d, tk, os⟩ := s
    obtain ⟨hl, h⟩ := h
    have f1 := AutoSeq1.idx_int
    wp_walk using wpAny_loadPart' hl
    repeat (first
      | (refine wpAny_ite_false (decide_eq_false (by rw [c0]; exact Bool.false_ne_true)) ?_; wp_walk using wpAny_loadPart' hl)
      | (refine wpAny_ite_true (decide_eq_true c1) ?_; wp_walk using wpAny_loadPart' hl))
    exact ⟨_, rfl, h⟩
theorem tuple_mul0 (l : Addr) (items : Array Value) (n : Nat) (dd : Option Addr) (sl : Array (Option Value)) (x : Int) (u : Tok) (c0 : (decide (x < -(2 ^ 63)) || decide (x ≥ 2 ^ 63)) = false) (c1 : (items.isEmpty || x == 1) = false) (c2 : (decide (x ≤ 0) || items.isEmpty) = true) :
    Meets (Builtin.«tuple.__mul__» ⟨[.ref l, .int x u], []⟩) (fun _ R s => s.heap.get? l = some { cls := .type "tuple", dict := dd, data := .seq items n, slots := sl } ∧
      R (.ok (.ret (Value.ref s.heap.objs.size))) { s with heap := s.heap.push { cls := Value.type "tuple", data := Data.seq #[] }, toks := s.toks }) :=
  .of_wp fun prog w A R s h => by
    obtain ⟨hp, g, d, tk, os⟩ := s
    obtain ⟨hl, h⟩ := h
    have f1 := AutoSeq1.idx_int
    wp_walk using wpAny_loadPart' hl
    repeat (first
      | (refine wpAny_ite_false (decide_eq_false (by rw [c0]; exact Bool.false_ne_true)) ?_; wp_walk using wpAny_loadPart' hl)
      | (refine wpAny_ite_false (decide_eq_false (by rw [c1]; exact Bool.false_ne_true)) ?_; wp_walk using wpAny_loadPart' hl)
      | (refine wpAny_ite_true (decide_eq_true c2) ?_; wp_walk using wpAny_loadPart' hl))
    exact ⟨_, rfl, h⟩
/-- t * k, t not empty: none, t itself, or a new tuple -/
def rRepA (K : PySem.W.Frag) : R2 := fun x y H Q => ∃ l k xs, x = .ref l ∧ y = .int k ∧ SqT K H l xs ∧ xs ≠ [] ∧ 0 ≤ k ∧ k ≤ 1000 ∧ xs.length ≤ 1000 ∧ (k = 1 → Q (.ref l) H) ∧ (k ≠ 1 → ∀ p, H p = none → Q (.ref p) (upd H p (.tup (List.replicate k.toNat xs).flatten)))
theorem op_repA {X : Cx} : OpR X (binaryOp .Mult) (rRepA X.K) := by
  intro pins s σ H x y v u Q I rx ry h
  obtain ⟨l, k, xs, rfl, rfl, hT, hne, h0, h2, hz, q1, q⟩ := h
  by_cases hk : 2 ≤ k
  · exact op_repT pins s σ H _ _ v u Q I rx ry ⟨l, k, xs, rfl, rfl, hT, hne, hk, h2, hz, q (by omega)⟩
  cases rx
  obtain ⟨t, rfl⟩ := ry
  obtain ⟨its, r, ⟨⟨cls, dd, data, sl⟩, ho, hc, n, hd⟩, hs⟩ := I.tuple hT
  simp only at hc hd
  subst hc hd
  have hle : its.length = xs.length := r.length.symm
  have hn : its ≠ [] := fun e => hne (by
    rw [e] at hle
    exact List.eq_nil_of_length_eq_zero hle.symm)
  have hi : its.toArray.isEmpty = false := by
    cases its with
    | nil => exact absurd rfl hn
    | cons a b => rfl
  have c0 : (decide (k < -(2 ^ 63)) || decide (k ≥ 2 ^ 63)) = false := by
    rw [decide_eq_false (by omega), decide_eq_false (by omega)] <;> rfl
  by_cases e1 : k = 1
  · have c1 : (its.toArray.isEmpty || k == 1) = true := by
      rw [e1]
      simp
    exact wpAny_binaryOp_repeat_ref (T := "tuple") (U := "int") (by decide) ⟨_, ho, rfl⟩ (fun s' => typeIs_int s' k t) noFill_tuple_mul F.fills_int_mul F.slot_int_rmul repeat_tuple F.slot_int_index.lookup
      (call_meets F.slot_int_rmul (typeIs_int s k t) F.entry_int_rmul (F.args_int_rmul_2 _ _) (int_rmul_tuple k t l its.toArray n dd sl)
        ⟨ho, rfl, ⟨_, ho, rfl⟩, call_meets F.slot_tuple_mul ⟨_, ho, rfl⟩ F.entry_tuple_mul (F.args_tuple_mul_2 _ _) (tuple_mul1 l its.toArray n dd sl k t c0 c1) ⟨ho, ⟨.ref l, H, I, rfl, q1 e1⟩⟩⟩)
  · have ek : k = 0 := by omega
    have c1 : (its.toArray.isEmpty || k == 1) = false := by
      rw [hi, Bool.false_or]
      exact beq_eq_false_iff_ne.mpr e1
    have c2 : (decide (k ≤ 0) || its.toArray.isEmpty) = true := by
      rw [decide_eq_true (by omega)]
      rfl
    refine wpAny_binaryOp_repeat_ref (T := "tuple") (U := "int") (by decide) ⟨_, ho, rfl⟩ (fun s' => typeIs_int s' k t) noFill_tuple_mul F.fills_int_mul F.slot_int_rmul repeat_tuple F.slot_int_index.lookup
      (call_meets F.slot_int_rmul (typeIs_int s k t) F.entry_int_rmul (F.args_int_rmul_2 _ _) (int_rmul_tuple k t l its.toArray n dd sl)
        ⟨ho, rfl, ⟨_, ho, rfl⟩, call_meets F.slot_tuple_mul ⟨_, ho, rfl⟩ F.entry_tuple_mul (F.args_tuple_mul_2 _ _) (tuple_mul0 l its.toArray n dd sl k t c0 c1 c2) ⟨ho, ?_⟩⟩)
    have e0 : (List.replicate k.toNat xs).flatten = [] := by
      rw [ek]
      rfl
    have q := q e1
    rw [e0] at q
    refine ⟨.ref s.heap.objs.size, _, I.laid (t' := s.toks) (o := .tup []) (fun b ob q => Heap.get?_push_of_some _ q) (Nat.le_refl _) ?_, rfl, q _ (I.hok.fresh (Nat.le_refl _))⟩
    exact ⟨Nat.zero_le _, [], .nil, IsTup.new _ _⟩
theorem op_repTK {X : Cx} {K : PySem.W.Frag} (h : X.K = K) : OpR X (binaryOp .Mult) (rRepA K) := by
  subst h
  exact op_repA
end G39

namespace G39
open PySem PySem.Spec PyProof.Rows L2 Evl
abbrev s__law_odd : Stmt := topS 28
abbrev n__law_odd : List Str := ["_law_source_here", "_law_pattern_here", "_law_wrong", "_law_strange", "_law_place", "_law_way"]
theorem sc__law_odd : FnScope n__law_odd ["_law_source_here", "_law_pattern_here"] (defScope s__law_odd) := ⟨rfl, rfl, rfl, by decide +kernel, rfl, by decide +kernel, by decide +kernel⟩
/-- told as d, while what is new since H and the tuples stay -/
def Kp (H H' H'' : Hp) : Prop := ∀ b o, (H b = none ∨ ∃ xs, o = .tup xs) → H' b = some o → H'' b = some o
def Odd (H H' : Hp) (v : V) : Prop := ∃ d, Lay d ∧ ∀ H'', Kp H H' H'' → AnyT H'' v d
def spOdd : Sp := fun vs H Q _ => ∃ (sa : Addr) (n : Nat) (u : V) (p : List Str), vs = [.ref sa, u] ∧ Src H sa n ∧ n + 4 ≤ 100000 ∧ PatAt sa H u p ∧ ∀ v H', Odd H H' v → XB sa H H' → Src H' sa (n + 4) → Q v H'
/-- small data: can be told, and is bounded -/
def SmallD (d : PyData) : Prop := Lay d ∧ (∀ x, d = .str x → x.length ≤ 100) ∧ ∀ xs, d = .tuple xs → xs.length ≤ 100 ∧ ∀ x, .str x ∈ xs → x.length ≤ 100
theorem SmallD.any {H : Hp} {v : V} {d : PyData} (h : SmallD d) (ha : At H v d) : AnyT H v d :=
  ⟨⟨ha, fun x e => Nat.le_trans (h.2.1 x e) (by decide)⟩, fun xs e => ⟨Nat.le_trans (h.2.2 xs e).1 (by decide), fun x hx => Nat.le_trans ((h.2.2 xs e).2 x hx) (by decide)⟩⟩
/-- a strange value, while what is new since H and the tuples stay -/
def Sv (H H' : Hp) (v : V) (d : PyData) : Prop := (SmallD d ∧ d.canLay0 = true ∧ d.depth ≤ 10) ∧ ∀ H'', Kp H H' H'' → At H'' v d
theorem Sv.odd {H H' : Hp} {v : V} {d : PyData} (h : Sv H H' v d) : Odd H H' v := ⟨d, h.1.1.1, fun H'' k => h.1.1.any (h.2 H'' k)⟩
def strsW : List Str := ["", "A", "1a", "?", "??a", "a b", "a,", "?1", "abcdefghijklm", "?abcdefghijklm", "a\n", "abcdefghijkl", "?abcdefghijkl", "?a9", "a"]
theorem strsW_ok : ∀ x ∈ strsW, x.length ≤ 100 ∧ (PyData.str x).canLay0 = true := by
  have h : ∀ x ∈ strsW, x.length ≤ 100 ∧ ∀ c ∈ x.cps.toList, c < 128 := by decide +kernel
  exact fun x hx => ⟨(h x hx).1, sok_of (h x hx).2⟩
theorem small_str {x : Str} (h : x.length ≤ 100) (hs : SOk x) : SmallD (.str x) ∧ (PyData.str x).canLay0 = true ∧ (PyData.str x).depth ≤ 10 :=
  ⟨⟨.inr ⟨hs, by simp [PyData.depth]⟩, fun y e => by cases e; exact h, fun xs e => by cases e⟩, hs, by simp [PyData.depth]⟩
theorem sv_str {H H' : Hp} {x : Str} (h : x.length ≤ 100) (hs : SOk x) : Sv H H' (.str x) (.str x) := ⟨small_str h hs, fun _ _ => .str x⟩
/-- a tuple with one strange item -/
theorem small_tup {ds : List PyData} (h : ∀ d ∈ ds, SmallD d ∧ d.canLay0 = true ∧ d.depth ≤ 10) (hl : ds.length ≤ 100) : SmallD (.tuple ds) := by
  refine ⟨.inr ⟨?_, ?_⟩, (fun x e => by cases e), fun xs e => ?_⟩
  · simp only [PyData.canLay0]
    exact all_lay fun d hd => (h d hd).2.1
  · simp only [PyData.depth]
    have := depth_all fun d hd => (h d hd).2.2
    omega
  · cases e
    exact ⟨hl, fun x hx => (h _ hx).1.2.1 x rfl⟩
theorem odd_tup {H H' : Hp} {a : Addr} {vs : List V} {ds : List PyData} (ha : H' a = some (.tup vs)) (hv : ∀ H'', Kp H H' H'' → AtAll H'' vs ds) (h : ∀ d ∈ ds, SmallD d ∧ d.canLay0 = true ∧ d.depth ≤ 10) (hl : ds.length ≤ 100) : Odd H H' (.ref a) :=
  ⟨.tuple ds, (small_tup h hl).1, fun H'' k => (small_tup h hl).any (.tup (k _ _ (.inr ⟨_, rfl⟩) ha) (hv H'' k))⟩
theorem good_small {p : List Str} (hg : GoodP p) : ∀ d ∈ p.map PyData.str, SmallD d ∧ d.canLay0 = true ∧ d.depth ≤ 10 := fun d hd => by
  obtain ⟨x, hx, rfl⟩ := List.mem_map.mp hd
  have := (term_parts ((good_pb hg).2 x hx)).2.1
  exact small_str (by omega) (term_sok ((good_pb hg).2 x hx))
theorem Kp.of_xb {sa : Addr} {H H' H1 H'' : Hp} {n m : Nat} (s : Src H sa n) (s' : Src H' sa m) (x : XB sa H' H1) (k : Kp H H1 H'') : Kp H H' H'' := fun b o hb h => k b o hb (x b o (fun e => by
  obtain ⟨c, u, m, h1, _⟩ := s
  obtain ⟨c', u', m', h1', _⟩ := s'
  rw [e] at hb h
  rcases hb with hb | ⟨xs, rfl⟩
  · rw [h1] at hb
    cases hb
  · rw [h1'] at h
    cases h) h)
theorem Sv.mono {sa : Addr} {H H' H1 : Hp} {n m : Nat} {v : V} {d : PyData} (s : Src H sa n) (s' : Src H' sa m) (x : XB sa H' H1) (h : Sv H H' v d) : Sv H H1 v d := ⟨h.1, fun H'' k => h.2 H'' (Kp.of_xb s s' x k)⟩
theorem all_sv {H H' : Hp} : ∀ {vs : List V}, (∀ v ∈ vs, ∃ d, Sv H H' v d) → ∃ ds, ds.length = vs.length ∧ (∀ H'', Kp H H' H'' → AtAll H'' vs ds) ∧ ∀ d ∈ ds, SmallD d ∧ d.canLay0 = true ∧ d.depth ≤ 10
  | [], _ => ⟨[], rfl, fun _ _ => .nil, fun _ z => by cases z⟩
  | v :: vs, h => by
    obtain ⟨d, hd⟩ := h v (List.mem_cons_self ..)
    obtain ⟨ds, h1, h2, h3⟩ := all_sv fun u hu => h u (List.mem_cons_of_mem _ hu)
    exact ⟨d :: ds, by rw [List.length_cons, List.length_cons, h1], fun H'' k => .cons (hd.2 H'' k) (h2 H'' k), fun e he => by
      rcases List.mem_cons.mp he with rfl | he
      · exact hd.1
      · exact h3 e he⟩
theorem odd_items {H H' : Hp} {a : Addr} {vs : List V} (ha : H' a = some (.tup vs)) (h : ∀ v ∈ vs, ∃ d, Sv H H' v d) (hl : vs.length ≤ 100) : Odd H H' (.ref a) := by
  obtain ⟨ds, h1, h2, h3⟩ := all_sv h
  exact odd_tup ha h2 h3 (by omega)
theorem cut_in {xs : List V} {lo hi : Option Int} {v : V} (h : v ∈ cutV xs lo hi) : v ∈ xs := by
  unfold cutV at h
  exact List.mem_of_mem_drop (List.mem_of_mem_take h)
theorem cut_le (xs : List V) (lo hi : Option Int) : (cutV xs lo hi).length ≤ xs.length := by
  unfold cutV
  rw [List.length_take, List.length_drop]
  omega
theorem flat_rep (x : V) : ∀ k : Nat, (List.replicate k [x]).flatten = List.replicate k x
  | 0 => rfl
  | k + 1 => by
    rw [List.replicate_succ, List.flatten_cons, flat_rep x k]
    rfl
section
variable {K : PySem.W.Frag} {σ : L2.St} {H : Hp} {te ta tb : TE}
/-- a tuple of these -/
def TupP (xs : List V) (v : V) (H : Hp) : Prop := ∃ a, v = .ref a ∧ H a = some (.tup xs)
theorem ep_tupU {xs : List V} (h : EvU te σ H xs) : EvP te σ H (TupP xs) := fun H1 e Q q => h H1 e _ fun p H2 hp e2 h2 => q _ H2 e2 ⟨p, rfl, h2⟩
theorem ep_catT {xs ys : List V} (ha : EvP ta σ H (TupP xs)) (hb : EvP tb σ H (TupP ys)) (hl : xs.length + ys.length ≤ 100000) : EvP (tOp (rCatA K) ta tb) σ H (TupP (xs ++ ys)) := fun H1 e Q q =>
  ha H1 e _ fun v H2 e2 ⟨a, ev, h2⟩ => hb H2 (e.trans e2) _ fun u H3 e3 ⟨b, eu, h3⟩ => ⟨a, b, xs, ys, ev, eu, st_of (e3 _ _ h2), st_of h3, sz_of hl, fun z => q _ H3 (e2.trans e3) ⟨b, rfl, by rw [z]; exact h3⟩, fun _ z => q _ H3 (e2.trans e3) ⟨a, rfl, by rw [z, List.append_nil]; exact e3 _ _ h2⟩,
    fun _ _ p hp => q _ _ ((e2.trans e3).trans (Ex.new hp)) ⟨p, rfl, upd_same⟩⟩
theorem ep_slT {a : Addr} {xs : List V} {tl th : TO} {lo hi : Option Int} (h : Ev te σ H (.ref a)) (ha : H a = some (.tup xs)) (h1 : EvO tl σ H lo) (h2 : EvO th σ H hi) : EvP (tSl (rSlA K) te tl th) σ H (TupP (cutV xs lo hi)) := fun H1 e Q q =>
  h H1 e _ fun H2 e2 => h1 H2 (e.trans e2) _ fun H3 e3 => h2 H3 (e.trans (e2.trans e3)) _ fun H4 e4 => ⟨a, xs, rfl, st_of ((e.trans (e2.trans (e3.trans e4))) _ _ ha), fun hw => q _ H4 (e2.trans (e3.trans e4)) ⟨a, rfl, by
    unfold cutV
    rw [hw.1, hw.2, List.drop_zero, Nat.sub_zero, List.take_length]
    exact (e.trans (e2.trans (e3.trans e4))) _ _ ha⟩, fun _ p hp => q _ _ ((e2.trans (e3.trans e4)).trans (Ex.new hp)) ⟨p, rfl, upd_same⟩⟩
theorem ep_rep {x : V} {k : Nat} (ha : EvU ta σ H [x]) (hb : Ev tb σ H (.int (k : Int))) (hk : k ≤ 100) : EvP (tOp (rRepA K) ta tb) σ H (TupP (List.replicate k x)) := fun H1 e Q q =>
  ha H1 e _ fun l H2 hl e2 h2 => hb H2 (e.trans e2) _ fun H3 e3 => by
    have fl := flat_rep x k
    exact ⟨l, (k : Int), [x], rfl, rfl, st_of (e3 _ _ h2), by simp, by omega, by omega, by simp, fun e1 => q _ H3 (e2.trans e3) ⟨l, rfl, by
      have : k = 1 := by omega
      rw [this]
      exact e3 _ _ h2⟩, fun _ p hp => q _ _ ((e2.trans e3).trans (Ex.new hp)) ⟨p, rfl, by
      rw [upd_same]
      have : ((k : Int)).toNat = k := by simp
      rw [this, fl]⟩⟩
end
section
variable {P : Program} {w : World} {K : PySem.W.Frag} {mg : Str → Option Value} {base : Heap}
def w11 : List Str := ["", "A", "1a", "?", "??a", "a b", "a,", "?1", "abcdefghijklm", "?abcdefghijklm", "a\n"]
def w8 (t l : Addr) : List V := [.non, .int 3, .bl true, .ref t, .ref l, .str "abcdefghijkl", .str "?abcdefghijkl", .str "?a9"]
def w5 : List Str := ["abcdefghijkl", "?abcdefghijkl", "?a9", "a", "x"]
theorem w_ok : ∀ x ∈ w11 ++ w5, x.length ≤ 100 ∧ ∀ c ∈ x.cps.toList, c < 128 := by decide +kernel
theorem sv_w {H H' : Hp} {x : Str} (h : x ∈ w11 ++ w5) : Sv H H' (.str x) (.str x) := sv_str (w_ok x h).1 (sok_of (w_ok x h).2)
theorem sv_plain {H H' : Hp} {v : V} {d : PyData} (h : ∀ H'', At H'' v d) (h1 : d.canLay0 = true) (h2 : d.depth ≤ 10) (h3 : ∀ x, d ≠ .str x) (h4 : ∀ xs, d ≠ .tuple xs) : Sv H H' v d := ⟨⟨⟨.inr ⟨h1, by omega⟩, fun x e => absurd e (h3 x), fun xs e => absurd e (h4 xs)⟩, h1, h2⟩, fun H'' _ => h H''⟩
theorem ok_law_odd {f : Addr} {fd : FuncData} (T : TD K mg) (F : Fun K "_law_odd" "_law_odd" s__law_odd f fd) : FnOk P w K mg base CX0 2 f fd ["_law_source_here", "_law_pattern_here"] spOdd := by
  have m_len := T.m_len
  have m_list := T.m_list
  obtain ⟨fD, dD, D_law_draw⟩ := T._law_draw
  have G_law_draw : FnOk P w K mg base CX0 1 fD dD _ spDraw := ok_draw T.m_int D_law_draw.F
  refine F.ok sc__law_odd (fun vs H Q E h => ?_) (fun cdv A outer s H vs Q E hr h => ?_)
  · obtain ⟨sa, n, u, p, rfl, _⟩ := h
    rfl
  · obtain ⟨sa, n, u, p, rfl, src, hn, ⟨a, rfl, hne, ha, hg⟩, k⟩ := h
    refine ⟨_, (pss_cons (ps_set (i := 2) sc__law_odd.nd rfl (Or.inl rfl) (pe_lst (pa_cons pe_str (pa_cons pe_str (pa_cons pe_str (pa_cons pe_str (pa_cons pe_str (pa_cons pe_str (pa_cons pe_str (pa_cons pe_str (pa_cons pe_str (pa_cons pe_str (pa_cons pe_str pa_nil)))))))))))))
      (pss_cons (ps_set (i := 2) sc__law_odd.nd rfl (Or.inl rfl) (pe_op op_cat (pv 2) (pe_lst (pa_cons pe_non (pa_cons pe_int (pa_cons pe_bl (pa_cons (pe_tup (pa_cons pe_str pa_nil)) (pa_cons (pe_lst (pa_cons pe_str pa_nil)) (pa_cons pe_str (pa_cons pe_str (pa_cons pe_str pa_nil)))))))))))
      (pss_cons (ps_set (i := 3) sc__law_odd.nd rfl (Or.inl rfl) (pe_ix (ix_listK (K := K) rfl) (pv 2) (pe_call G_law_draw (hr.mono (by decide)) (by rfl) D_law_draw.g D_law_draw.F.kp D_law_draw.b .nil pass0 (pa_cons (pv 0) (pa_cons (pe_callB (call_len_seqK (K := K) rfl) (by rfl) m_len PySem.boot_len (pa_cons (pv 2) pa_nil)) pa_nil))) (fun _ _ => rfl)))
      (pss_cons (ps_set (i := 4) sc__law_odd.nd rfl (Or.inl rfl) (pe_call G_law_draw (hr.mono (by decide)) (by rfl) D_law_draw.g D_law_draw.F.kp D_law_draw.b .nil pass0 (pa_cons (pv 0) (pa_cons (pe_callB (call_len_seqK (K := K) rfl) (by rfl) m_len PySem.boot_len (pa_cons (pv 1) pa_nil)) pa_nil))))
      (pss_cons (ps_set (i := 5) sc__law_odd.nd rfl (Or.inl rfl) (pe_call G_law_draw (hr.mono (by decide)) (by rfl) D_law_draw.g D_law_draw.F.kp D_law_draw.b .nil pass0 (pa_cons (pv 0) (pa_cons pe_int pa_nil))))
      (pss_cons (ps_if (pt_cmpR op_eq (pv 5) pe_int (nomark _)) (pss_one (ps_ret (pe_callTy (call_list_ofK (K := K) rfl) (by rfl) m_list (by decide +kernel) (pa_cons (pv 1) pa_nil)))) pss_nil)
      (pss_cons (ps_if (pt_cmpR op_eq (pv 5) pe_int (nomark _)) (pss_one (ps_ret (pe_op (op_catAK (K := K) rfl) (pe_op (op_catAK (K := K) rfl) (pv 1) (pe_op (op_repTK (K := K) rfl) (pe_tup (pa_cons pe_str pa_nil)) (pe_op op_sub pe_int (pe_callB (call_len_seqK (K := K) rfl) (by rfl) m_len PySem.boot_len (pa_cons (pv 1) pa_nil))))) (pe_tup (pa_cons (pv 3) pa_nil))))) pss_nil)
      (pss_cons (ps_if (pt_cmpR op_eq (pv 5) pe_int (nomark _)) (pss_one (ps_ret (pe_ix (ix_listK (K := K) rfl) (pe_lst (pa_cons (pv 3) (pa_cons pe_non (pa_cons (pe_tup pa_nil) (pa_cons pe_str (pa_cons (pe_disp (pps_cons pe_str pe_int pps_nil) (by rfl) (by rfl) (fun z => by cases z) (by decide)) (pa_cons pe_int (pa_cons pe_bl pa_nil)))))))) (pe_call G_law_draw (hr.mono (by decide)) (by rfl) D_law_draw.g D_law_draw.F.kp D_law_draw.b .nil pass0 (pa_cons (pv 0) (pa_cons pe_int pa_nil))) (fun _ _ => rfl)))) pss_nil)
      (pss_cons (ps_if (pt_cmpR op_eq (pv 5) pe_int (nomark _)) (pss_one (ps_ret (pe_op (op_catAK (K := K) rfl) (pe_op (op_catAK (K := K) rfl) (pe_slice (sl_tupAK (K := K) rfl) (pv 1) po_none (po_some (pv 4))) (pe_tup (pa_cons (pe_op op_add_str pe_str (pe_ix (ix_tupK (K := K) rfl) (pv 1) pe_int (fun _ _ => rfl))) pa_nil))) (pe_slice (sl_tupAK (K := K) rfl) (pv 1) (po_some (pe_op op_add (pv 4) pe_int)) po_none)))) pss_nil)
      (pss_one (ps_ret (pe_op (op_catAK (K := K) rfl) (pe_op (op_catAK (K := K) rfl) (pe_slice (sl_tupAK (K := K) rfl) (pv 1) po_none (po_some (pv 4))) (pe_tup (pa_cons (pv 3) pa_nil))) (pe_slice (sl_tupAK (K := K) rfl) (pv 1) (po_some (pe_op op_add (pv 4) pe_int)) po_none))))))))))))), ?_⟩
    obtain ⟨pb, pt⟩ := good_pb hg
    obtain ⟨tt, rr, ep, _, hnt, _⟩ := good_parts hg
    have pl4 := pb.2.1
    have pl1 := pb.1
    refine q_asgL (xs := w11.map V.str) (el_lst (ea_cons ev_c (ea_cons ev_c (ea_cons ev_c (ea_cons ev_c (ea_cons ev_c (ea_cons ev_c (ea_cons ev_c (ea_cons ev_c (ea_cons ev_c (ea_cons ev_c (ea_cons ev_c ea_nil))))))))))) (by decide)) fun w1 H1 hw1 e1 h1 => ?_
    have sec : EvP (tOp rCat (tVar 2) (tLst (tCons (tC .non) (tCons (tC (.int 3)) (tCons (tC (.bl true)) (tCons (tTup (tCons (tC (.str "a")) tNil)) (tCons (tLst (tCons (tC (.str "a")) tNil)) (tCons (tC (.str "abcdefghijkl")) (tCons (tC (.str "?abcdefghijkl")) (tCons (tC (.str "?a9")) tNil)))))))))) [some (.ref sa), some (.ref a), some (.ref w1), none, none, none] H1
        fun v H' => ∃ b t l, v = .ref b ∧ b ≠ sa ∧ H' b = some (.lst (w11.map V.str ++ w8 t l)) ∧ H l = none ∧ H' t = some (.tup [.str "a"]) ∧ H' l = some (.lst [.str "a"]) := fun H2 e2 Q q => by
      refine ⟨_, rfl, sz_of (by show 1 ≤ 100000; decide), fun t ht => ⟨sz_of (by show 1 ≤ 100000; decide), fun l hl => ⟨sz_of (by show 8 ≤ 100000; decide), fun b hb => ?_⟩⟩⟩
      have x2 : Ex H2 (upd (upd (upd H2 t (.tup [.str "a"])) l (.lst [.str "a"])) b (.lst (w8 t l))) := (Ex.new ht).trans ((Ex.new hl).trans (Ex.new hb))
      refine ⟨w1, b, w11.map V.str, w8 t l, rfl, rfl, x2 _ _ (e2 _ _ h1), upd_same, sz_of (by show 11 + 8 ≤ 100000; decide), fun c hc => ?_⟩
      refine q _ _ (x2.trans (Ex.new hc)) ⟨c, t, l, rfl, ?_, upd_same, fresh_back ((e1.trans e2).trans (Ex.new ht)) hl, ?_, ?_⟩
      · exact (src.ex ((e1.trans e2).trans x2)).ne hc
      · exact Ex.new hc _ _ (Ex.new hb _ _ (Ex.new hl _ _ upd_same))
      · exact Ex.new hc _ _ (Ex.new hb _ _ upd_same)
    refine q_asgP sec fun v H2 e2 ⟨b, t, l, ev, hbs, hb, hl0, ht2, hl2⟩ => ?_
    rw [ev]
    have s2 := src.ex (e1.trans e2)
    -- the strange one
    refine q_asgD (ed_pickA (K := K) (sa := sa) (xs := w11.map V.str ++ w8 t l) (l := b) (fun H3 _ => ev_var rfl) hb hbs (ed_draw (lim := (w11.map V.str ++ w8 t l).length) rfl (fun H3 x3 => ev_len (K := K) (ev_var rfl) (sq_of (x3 _ _ hbs hb))) (by show 0 < 19; decide) (by show 19 ≤ 100000; decide))) s2 (by omega) fun sv H3 x3 s3 hsv => ?_
    have ntsa : t ≠ sa := s2.neT ht2
    have nlsa : l ≠ sa := src.ne hl0
    have hsv : ∃ d, Sv H H3 sv d := by
      rcases List.mem_append.mp hsv with h | h
      · obtain ⟨x, hx, rfl⟩ := List.mem_map.mp h
        exact ⟨_, sv_w (List.mem_append_left _ hx)⟩
      · simp only [w8, List.mem_cons, List.not_mem_nil, or_false] at h
        rcases h with rfl | rfl | rfl | rfl | rfl | rfl | rfl | rfl
        · exact ⟨.none, sv_plain (fun _ => .non) rfl (by decide) (fun _ e => by cases e) (fun _ e => by cases e)⟩
        · exact ⟨.int 3, sv_plain (fun _ => .int 3) rfl (by decide) (fun _ e => by cases e) (fun _ e => by cases e)⟩
        · exact ⟨.bool true, sv_plain (fun _ => .bl true) rfl (by decide) (fun _ e => by cases e) (fun _ e => by cases e)⟩
        · refine ⟨.tuple [.str "a"], ⟨small_tup (fun d hd => ?_) (by decide), by decide +kernel, by decide⟩, fun H'' kp => .tup (kp _ _ (.inr ⟨_, rfl⟩) (x3 _ _ ntsa ht2)) (.cons (.str _) .nil)⟩
          rw [List.mem_singleton.mp hd]
          exact small_str (by decide) (sok_of (by decide))
        · exact ⟨.list [.str "a"], ⟨⟨.inr ⟨by decide +kernel, by decide⟩, (fun x e => by cases e), (fun xs e => by cases e)⟩, by decide +kernel, by decide⟩, fun H'' kp => .lst (kp _ _ (.inl hl0) (x3 _ _ nlsa hl2)) (.cons (.str _) .nil)⟩
        · exact ⟨_, sv_w (List.mem_append_right _ (by decide +kernel))⟩
        · exact ⟨_, sv_w (List.mem_append_right _ (by decide +kernel))⟩
        · exact ⟨_, sv_w (List.mem_append_right _ (by decide +kernel))⟩
    have x03 : XB sa H H3 := (XB.ex (e1.trans e2)).trans x3
    refine q_asgD (ed_draw (lim := p.length) rfl (fun H4 x4 => fun H5 e5 Q q => ⟨_, rfl, a, p.map V.str, rfl, .inr (st_of (e5 _ _ (x4 _ _ hne (x03 _ _ hne ha)))), by rw [List.length_map]; exact q H5 (Ex.refl _)⟩) (by omega) (by omega)) s3 (by omega) fun v H4 x4 s4 ⟨pl, ev4, hpl⟩ => ?_
    rw [ev4]
    refine q_asgD (ed_draw (lim := 6) rfl (fun _ _ => ev_c) (by decide) (by decide)) s4 (by omega) fun v H5 x5 s5 ⟨wy, ev5, hwy⟩ => ?_
    rw [ev5]
    have x05 : XB sa H H5 := x03.trans (x4.trans x5)
    have ha5 := x05 _ _ hne ha
    obtain ⟨sd, hsd⟩ := hsv
    have hsd5 : Sv H H5 sv sd := hsd.mono src s3 (x4.trans x5)
    -- what is handed back
    have fin : ∀ v H6, XB sa H5 H6 → Src H6 sa (n + 4) → Odd H H6 v → Q v H6 := fun v H6 x6 s6 ho => k v H6 ho (x05.trans x6) s6
    have fe : ∀ v H6, Ex H5 H6 → Odd H H6 v → Q v H6 := fun v H6 e6 ho => fin v H6 (XB.ex e6) ((s5.ex e6).mono (by omega)) ho
    have items : ∀ {vs : List V} {H6 : Hp}, Ex H5 H6 → vs.length ≤ 100 → (∀ v ∈ vs, v ∈ p.map V.str ∨ v = sv ∨ v = .str "x" ∨ v = .str (("?" : Str) ++ tt)) → ∀ v, TupP vs v H6 → Q v H6 := fun {vs H6} e6 hl hv v ⟨b6, ev6, h6⟩ => by
      rw [ev6]
      refine fe _ H6 e6 (odd_items h6 (fun u hu => ?_) hl)
      rcases hv u hu with h | rfl | rfl | rfl
      · obtain ⟨x, hx, rfl⟩ := List.mem_map.mp h
        exact ⟨.str x, sv_str (by have := pb.2.2 x hx; omega) (term_sok (pt x hx))⟩
      · exact ⟨sd, hsd5.mono src s5 (XB.ex e6)⟩
      · exact ⟨_, sv_w (List.mem_append_right _ (by decide +kernel))⟩
      · have hv := var_of hnt
        have := (term_parts (.inr hv)).2.1
        exact ⟨_, sv_str (by omega) (term_sok (.inr hv))⟩
    have it : ∀ {c : Nat}, c < 6 → EvT (tTest (tOp rEq (tVar 5) (tC (.int (c : Int))))) [some (.ref sa), some (.ref a), some (.ref b), some sv, some (.int (pl : Int)), some (.int (wy : Int))] H5 (decide (V.int (wy : Int) = V.int (c : Int))) := fun _ => et_test (ev_op (ev_var rfl) ev_c (rv_eq rfl))
    have pv : ∀ {H6 : Hp}, Ex H5 H6 → EvP (tVar 1) [some (.ref sa), some (.ref a), some (.ref b), some sv, some (.int (pl : Int)), some (.int (wy : Int))] H6 (TupP (p.map V.str)) := fun e6 H7 e7 Q q => ⟨_, rfl, q _ H7 (Ex.refl _) ⟨a, rfl, e7 _ _ (e6 _ _ ha5)⟩⟩
    -- a list
    refine q_when (it (c := 0) (by decide)) (fun _ H6 e6 => ?_) (fun _ H6 e6 => ?_)
    · refine ⟨_, rfl, a, _, rfl, .inr (st_of (e6 _ _ ha5)), fun l6 hl6 => fe _ _ (e6.trans (Ex.new hl6)) ?_⟩
      have hl60 : H l6 = none := xb_back x05 (s5.ne (fresh_back e6 hl6)) (fresh_back e6 hl6)
      refine ⟨.list (p.map .str), .inr ⟨?_, ?_⟩, fun H'' kp => ⟨⟨.lst (kp _ _ (.inl hl60) upd_same) (AtAll.strs p), fun x e => by cases e⟩, fun xs e => by cases e⟩⟩
      · simp only [PyData.canLay0]
        exact all_lay fun d hd => (good_small hg d hd).2.1
      · simp only [PyData.depth]
        have := depth_all fun d hd => (good_small hg d hd).2.2
        omega
    -- too long
    refine q_when ((it (c := 1) (by decide)).mono e6) (fun _ H7 e7 => ?_) (fun _ H7 e7 => ?_)
    · have e57 := e6.trans e7
      have len : Ev (tOp (rI0 fun i j => .int (i - j)) (tC (.int 4)) (tCB (rLenS K) (tCons (tVar 1) tNil))) [some (.ref sa), some (.ref a), some (.ref b), some sv, some (.int (pl : Int)), some (.int (wy : Int))] H7 (.int ((4 - p.length : Nat) : Int)) := by
        refine ev_is (ev_op ev_c (fun H8 e8 Q q => ⟨_, rfl, a, p.map V.str, rfl, .inr (st_of (e8 _ _ (e57 _ _ ha5))), q H8 (Ex.refl _)⟩) (rv_I0 (g := fun i j => .int (i - j)))) ?_
        rw [List.length_map]
        congr 1
        omega
      have all := ep_catT (K := K) (ep_catT (K := K) (pv e57) (ep_rep (K := K) (k := 4 - p.length) (eu_tup (ea_cons (ev_c (v := .str "x")) ea_nil) (by decide : (1 : Nat) ≤ 100000)) len (by omega)) (by rw [List.length_map, List.length_replicate]; omega)) (ep_tupU (eu_tup (ea_cons (ev_var (i := 3) rfl) ea_nil) (by decide : (1 : Nat) ≤ 100000))) (by simp only [List.length_append, List.length_map, List.length_replicate, List.length_cons, List.length_nil]; omega)
      refine all H7 (Ex.refl _) _ fun v H8 e8 hv => items (e57.trans e8) (by simp only [List.length_append, List.length_map, List.length_replicate, List.length_cons, List.length_nil]; omega) (fun u hu => ?_) v hv
      rcases List.mem_append.mp hu with hu | hu
      · rcases List.mem_append.mp hu with hu | hu
        · exact .inl hu
        · exact .inr (.inr (.inl (List.mem_replicate.mp hu).2))
      · exact .inr (.inl (List.mem_singleton.mp hu))
    have e57 := e6.trans e7
    -- no tuple at all
    refine q_when ((it (c := 2) (by decide)).mono e57) (fun _ H8 e8 => ?_) (fun _ H8 e8 => ?_)
    · have e58 := e57.trans e8
      refine ⟨_, rfl, sz_of (by show 0 ≤ 100000; decide), fun t8 ht8 => fun d8 hd8 => ⟨upd_same, [(.inr "a", .int 1)], rfl, by decide, sz_of (by show 7 ≤ 100000; decide), fun l8 hl8 => ?_⟩⟩
      generalize hH9 : upd (upd (upd (upd H8 t8 (.tup [])) d8 (.dK [])) d8 (.dK (mergeK [] [(.inr "a", .int 1)]))) l8 _ = H9
      have e9 : Ex H8 H9 := by
        rw [← hH9, upd_upd]
        rw [upd_upd] at hl8
        exact (Ex.new ht8).trans ((Ex.new hd8).trans (Ex.new hl8))
      have s8 := s5.ex e58
      have s9 := s8.ex e9
      have nl8 : l8 ≠ sa := s8.ne (by
        rw [upd_upd] at hl8
        exact fresh_back ((Ex.new ht8).trans (Ex.new hd8)) hl8)
      have nd8 : d8 ≠ sa := s8.ne (fresh_back (Ex.new ht8) hd8)
      have hd80 : H d8 = none := xb_back (x05.trans (XB.ex e58)) nd8 (fresh_back (Ex.new ht8) hd8)
      have h9l : H9 l8 = some (.lst [sv, .non, .ref t8, .str "a", .ref d8, .int 7, .bl false]) := by
        rw [← hH9]
        exact upd_same
      have h9t : H9 t8 = some (.tup []) := by
        rw [← hH9, upd_upd]
        rw [upd_upd] at hl8
        exact Ex.new hl8 _ _ (Ex.new hd8 _ _ upd_same)
      have h9d : H9 d8 = some (.dK [(.inr "a", .int 1)]) := by
        rw [← hH9]
        exact Ex.new hl8 _ _ upd_same
      have dr := ed_draw (sa := sa) (σ := [some (.ref sa), some (.ref a), some (.ref b), some sv, some (.int (pl : Int)), some (.int (wy : Int))]) (H := H9) (i := 0) (tl := tC (.int 7)) (lim := 7) rfl (fun _ _ => ev_c) (by decide) (by decide)
      refine dr H9 _ (XB.refl _ _) s9 (by omega) _ fun v H10 x10 s10 ⟨m, ev10, hm⟩ => ?_
      have hm' : m < [sv, V.non, .ref t8, .str "a", .ref d8, .int 7, .bl false].length := hm
      refine ⟨l8, _, (m : Int), _, rfl, ev10, sq_of (x10 _ _ nl8 h9l), atI_nat (List.getElem?_eq_getElem hm'), ?_⟩
      have hmem := List.getElem_mem hm'
      generalize [sv, V.non, .ref t8, .str "a", .ref d8, .int 7, .bl false][m] = vv at hmem
      have fin' : Odd H H10 vv → Q vv H10 := fun ho => fin vv H10 ((XB.ex (e58.trans e9)).trans x10) (s10.mono (by omega)) ho
      simp only [List.mem_cons, List.not_mem_nil, or_false] at hmem
      rcases hmem with rfl | rfl | rfl | rfl | rfl | rfl | rfl
      · exact fin' (hsd5.mono src s5 ((XB.ex (e58.trans e9)).trans x10)).odd
      · exact fin' (sv_plain (d := .none) (fun _ => .non) rfl (by decide) (fun _ e => by cases e) (fun _ e => by cases e)).odd
      · exact fin' (odd_items (x10 _ _ (s9.neT h9t) h9t) (fun _ z => by cases z) (by decide))
      · exact fin' (sv_w (List.mem_append_right _ (by decide +kernel))).odd
      · exact fin' ⟨.dict [], .inl rfl, fun H'' kp => ⟨⟨.dic (kp _ _ (.inl hd80) (x10 _ _ nd8 h9d)), fun x e => by cases e⟩, fun xs e => by cases e⟩⟩
      · exact fin' (sv_plain (d := .int 7) (fun _ => .int 7) rfl (by decide) (fun _ e => by cases e) (fun _ e => by cases e)).odd
      · exact fin' (sv_plain (d := .bool false) (fun _ => .bl false) rfl (by decide) (fun _ e => by cases e) (fun _ e => by cases e)).odd
    have e58 := e57.trans e8
    have put : ∀ {te : TE} {x : V} {H9 : Hp}, Ex H5 H9 → Ev te [some (.ref sa), some (.ref a), some (.ref b), some sv, some (.int (pl : Int)), some (.int (wy : Int))] H9 x → (x = sv ∨ x = .str "x" ∨ x = .str (("?" : Str) ++ tt)) → ∀ Q' : VK, (∀ v H10, Ex H9 H10 → Q v H10 → Q' v H10) →
        tOp (rCatA K) (tOp (rCatA K) (tSl (rSlA K) (tVar 1) tNoPart (tPart (tVar 4))) (tTup (tCons te tNil))) (tSl (rSlA K) (tVar 1) (tPart (tOp (rI0 fun i j => .int (i + j)) (tVar 4) (tC (.int 1)))) tNoPart) [some (.ref sa), some (.ref a), some (.ref b), some sv, some (.int (pl : Int)), some (.int (wy : Int))] H9 Q' := fun {te x H9} e9 hx hx2 Q' kk => by
      have c1 := cut_le (p.map V.str) none (some (pl : Int))
      have c2 := cut_le (p.map V.str) (some ((pl : Int) + 1)) none
      rw [List.length_map] at c1 c2
      have all := ep_catT (K := K) (ep_catT (K := K) (ep_slT (K := K) (te := tVar 1) (ev_var rfl) (e9 _ _ ha5) eo_none (eo_some (ev_var (i := 4) rfl))) (ep_tupU (eu_tup (ea_cons hx ea_nil) (by decide : (1 : Nat) ≤ 100000))) (by simp only [List.length_cons, List.length_nil]; omega)) (ep_slT (K := K) (te := tVar 1) (ev_var rfl) (e9 _ _ ha5) (eo_some (ev_op (ev_var (i := 4) rfl) (ev_c (v := .int 1)) (rv_I0 (g := fun i j => .int (i + j))))) eo_none) (by simp only [List.length_append, List.length_cons, List.length_nil]; omega)
      refine all H9 (Ex.refl _) _ fun v H10 e10 hv => kk v H10 e10 (items (e9.trans e10) (by simp only [List.length_append, List.length_cons, List.length_nil]; omega) (fun u hu => ?_) v hv)
      rcases List.mem_append.mp hu with hu | hu
      · rcases List.mem_append.mp hu with hu | hu
        · exact .inl (cut_in hu)
        · exact .inr (by rw [List.mem_singleton.mp hu]; exact hx2)
      · exact .inl (cut_in hu)
    refine q_when ((it (c := 3) (by decide)).mono e58) (fun _ H9 e9 => ?_) (fun _ H9 e9 => ?_)
    · have e59 := e58.trans e9
      refine put (x := .str (("?" : Str) ++ tt)) e59 (ev_op (ev_c (v := .str "?")) (ev_op (ev_var (i := 1) rfl) (ev_c (v := .int 0)) (rv_ixT (K := K) (v := .str tt) (st_of (e59 _ _ ha5)) (atI_nat (j := 0) (by rw [ep]; rfl)))) (rv_addS (by
        have := pb.2.2 tt (by rw [ep]; exact List.mem_cons_self ..)
        show 1 + tt.length ≤ _
        omega))) (.inr (.inr rfl)) _ fun v H10 _ q => q
    · exact put (x := sv) (e58.trans e9) (ev_var (i := 3) rfl) (.inl rfl) _ fun v H10 _ q => q
end
end G39

/-! text * int, two or more -/
namespace G39
open PySem PySem.Spec PyProof.Rows L2
def repS (x : Str) (k : Nat) : Str := ⟨(List.replicate k x.cps).foldl (· ++ ·) #[]⟩
def rRepS : R2 := fun x y H Q => ∃ (z : Str) (k : Nat), x = .str z ∧ y = .int (k : Int) ∧ z.length ≠ 0 ∧ 2 ≤ k ∧ k ≤ 1000 ∧ z.length ≤ 1000 ∧ (repS z k).length ≤ sizeLine ∧ Q (.str (repS z k)) H
theorem op_repS {X : Cx} : OpR X (binaryOp .Mult) rRepS := by
  intro pins s σ H x y v u Q I rx ry h
  obtain ⟨z, k, rfl, rfl, h0, h2, h3, hz, hl, q⟩ := h
  obtain ⟨t, rfl⟩ := rx
  obtain ⟨t', rfl⟩ := ry
  have ek : ((k : Int)).toNat = k := by simp
  refine PySem.P.mul_str ?_ (fun _ _ => ?_) (fun _ _ => ?_) ?_
  · rw [decide_eq_false (by omega), decide_eq_false (by omega)]
    rfl
  · have hk : (1000 : Int) ≤ (2 ^ 63 - 1) / (k : Int) := by
      rw [Int.le_ediv_iff_mul_le (by omega)]
      omega
    omega
  · rw [ek]
    have : z.length * k ≤ 1000 * 1000 := Nat.mul_le_mul hz h3
    unfold Builtin.Str.tooLong
    exact decide_eq_false (by rw [sizeLine_eq]; omega)
  · rw [if_neg (by omega)]
    have c : ((k : Int) == 1 || z.length == 0) = false := by
      have e1 : ((k : Int) == 1) = false := beq_eq_false_iff_ne.mpr (by omega)
      have e2 : (z.length == 0) = false := beq_eq_false_iff_ne.mpr h0
      rw [e1, e2]
      rfl
    rw [if_neg (by rw [c]; exact Bool.false_ne_true), ek]
    exact ⟨hl, .str (repS z k), H, I.tok _, ⟨_, rfl⟩, q⟩
end G39

namespace G39
open PySem PySem.Spec PyProof.Rows L2 Evl
abbrev s_law : Stmt := topS 37
abbrev n_law : List Str := ["_law_script", "_law_cell", "_law_source_here", "_law_pool_here", "_law_lot_here", "_law_kept", "_law_pattern_here", "_law_values", "_law_k", "_law_value"]
theorem sc_law : FnScope n_law ["_law_script"] (defScope s_law) := ⟨rfl, rfl, rfl, by decide +kernel, rfl, by decide +kernel, by decide +kernel⟩
def spLaw (K : PySem.W.Frag) : Sp := fun vs H Q _ => ∃ (a : Addr) (ns : List Int), vs = [.ref a] ∧ SqL K H a (ns.map V.int) ∧ (∀ z ∈ ns, Builtin.Int.intBits z ≤ 1048576) ∧ ns.length ≤ 63 ∧ ∀ H', Q (.bl true) H'
structure TZ (K : PySem.W.Frag) (mg : Str → Option Value) : Prop where
  g : TG K mg
  x : TX K mg
  b : TB K mg
  m_list : mg "list" = none
  m_sorted : mg "sorted" = none
  is_name : ∃ f fd, DefAt K mg "is_name" s_is_name ["value"] f fd
  variables_of : ∃ f fd, DefAt K mg "variables_of" s_variables_of ["lot"] f fd
  filled : ∃ f fd, DefAt K mg "filled" s_filled ["pattern", "known"] f fd
  _law_source : ∃ f fd, DefAt K mg "_law_source" s__law_source ["_law_cell"] f fd
  _law_pool : ∃ f fd, DefAt K mg "_law_pool" s__law_pool ["_law_source_here"] f fd
  _law_lot : ∃ f fd, DefAt K mg "_law_lot" s__law_lot ["_law_source_here", "_law_pool_here", "_law_variables_here", "_law_most"] f fd
  _law_variables : ∃ f fd, DefAt K mg "_law_variables" s__law_variables ["_law_lot_here"] f fd
  _law_texts : ∃ f fd, DefAt K mg "_law_texts" s__law_texts ["_law_source_here", "_law_pattern_here"] f fd
  _law_told : ∃ f fd, DefAt K mg "_law_told" s__law_told ["_law_value"] f fd
  _law_due : ∃ f fd, DefAt K mg "_law_due" s__law_due ["_law_value"] f fd
  _law_odd : ∃ f fd, DefAt K mg "_law_odd" s__law_odd ["_law_source_here", "_law_pattern_here"] f fd
  _law_fills : ∃ f fd, DefAt K mg "_law_fills" s__law_fills ["_law_pool_here", "_law_pattern_here"] f fd
  _law_by_name : ∃ f fd, DefAt K mg "_law_by_name" s__law_by_name ["_law_pattern_here"] f fd
/-- the patterns of a lot -/
theorem pats_of {sa : Addr} {H : Hp} : ∀ {us : List V}, (∀ u ∈ us, ∃ p, PatAt sa H u p) → ∃ ps, Pts H us ps ∧ ps.length = us.length ∧ ∀ p ∈ ps, GoodP p
  | [], _ => ⟨[], .nil, rfl, fun _ z => by cases z⟩
  | u :: us, h => by
    obtain ⟨p, hp⟩ := h u (List.mem_cons_self ..)
    obtain ⟨ps, h1, h2, h3⟩ := pats_of fun x hx => h x (List.mem_cons_of_mem _ hx)
    refine ⟨p :: ps, .cons hp.pt h1, by rw [List.length_cons, List.length_cons, h2], fun q hq => ?_⟩
    rcases List.mem_cons.mp hq with rfl | hq
    · obtain ⟨a, _, _, _, hg⟩ := hp
      exact hg
    · exact h3 q hq
theorem good_terms {ps : List (List Str)} (h : ∀ p ∈ ps, GoodP p) : GoodT ps := fun x hx => by
  obtain ⟨p, hp, hx⟩ := List.mem_flatMap.mp hx
  exact (good_pb (h p hp)).2 x (List.mem_of_mem_drop hx)
theorem cut4 {xs : List Str} (h : xs.length = 9) : cutV (xs.map V.str) none (some 4) = (xs.take 4).map V.str := by
  unfold cutV
  have e : HT.sIx (xs.map V.str).length (xs.map V.str).length (some 4) = min 4 (xs.map V.str).length := HT.sIx_nat _ _ 4
  rw [e, HT.sIx_none, List.length_map, h, List.drop_zero, List.map_take]
  rfl
section
variable {P : Program} {w : World} {K : PySem.W.Frag} {mg : Str → Option Value} {base : Heap}
def lotD (ps : List (List Str)) : List PyData := ps.map fun p => .tuple (p.map .str)
theorem lot_at {H : Hp} : ∀ {us : List V} {ps : List (List Str)}, Pts H us ps → AtAll H us (lotD ps)
  | _, _, .nil => .nil
  | _, _, .cons h t => by
    obtain ⟨a, rfl, ha⟩ := h
    exact .cons (AtS ha) (lot_at t)
theorem lot_ok {ps : List (List Str)} (h : ∀ p ∈ ps, GoodP p) : ∀ d ∈ lotD ps, d.canLay0 = true ∧ d.depth ≤ 60 := fun d hd => by
  obtain ⟨p, hp, rfl⟩ := List.mem_map.mp hd
  have z := shaped_tup (strs_ok fun x hx => term_sok ((good_pb (h p hp)).2 x hx))
  have : PyData.depthAll (p.map PyData.str) ≤ 0 := depth_all fun d hd => by
    obtain ⟨y, hy, rfl⟩ := List.mem_map.mp hd
    simp [PyData.depth]
  exact ⟨SeqAt.canLay_of_shaped z, by simp only [PyData.depth]; omega⟩
theorem eqv_lot : ∀ (ps : List (List Str)), PyData.eqvAll (lotD ps) (lotD ps) = true
  | [] => rfl
  | p :: ps => by
    show (PyData.eqv (.tuple (p.map .str)) (.tuple (p.map .str)) && PyData.eqvAll (lotD ps) (lotD ps)) = true
    rw [eqv_lot ps, Bool.and_true]
    simp only [PyData.eqv]
    exact eqv_strs p
theorem ne_lot {H : Hp} {a b : Addr} {us : List V} {ps : List (List Str)} {Q : VK} (ha : H a = some (.lst us)) (hb : H b = some (.lst us)) (hp : Pts H us ps) (hg : ∀ p ∈ ps, GoodP p) (q : Q (.bl false) H) : rNeD K (.ref a) (.ref b) H Q := by
  refine ⟨.list (lotD ps), .list (lotD ps), (At.lst ha (lot_at hp)).dp (shaped_list (lot_ok hg)), (At.lst hb (lot_at hp)).dp (shaped_list (lot_ok hg)), shaped_list (lot_ok hg), shaped_list (lot_ok hg), ?_⟩
  have : PyData.eqv (.list (lotD ps)) (.list (lotD ps)) = true := by
    simp only [PyData.eqv]
    exact eqv_lot ps
  rw [this]
  exact q
/-- the variables told: a sorted list of them -/
def VarsR (ps : List (List Str)) (v : V) (H : Hp) : Prop := ∃ p ys, v = .ref p ∧ H p = some (.lst (ys.map V.str)) ∧ ys.Perm (varsOf ps) ∧ sortedS ys = true
theorem ne_vars {H : Hp} {u v : V} {ps : List (List Str)} {Q : VK} (h1 : VarsR ps u H) (h2 : VarsR ps v H) (q : Q (.bl false) H) : rNeD K u v H Q := by
  obtain ⟨p1, ys, rfl, g1, g2, g3⟩ := h1
  obtain ⟨p2, zs, rfl, k1, k2, k3⟩ := h2
  have ez : zs = ys := sorted_one k3 g3 (k2.trans g2.symm)
  rw [ez] at k1
  exact ne_lst g1 k1 (fun x hx => term_sok (.inr (vars_term (g2.mem_iff.mp hx)))) q
theorem VarsR.mono {ps : List (List Str)} {v : V} {H H' : Hp} (e : Ex H H') (h : VarsR ps v H) : VarsR ps v H' := by
  obtain ⟨p, ys, rfl, h1, h2⟩ := h
  exact ⟨p, ys, rfl, e _ _ h1, h2⟩
theorem ep_varsOf {σ : L2.St} {H : Hp} {te : TE} {ps : List (List Str)} (h : EvP te σ H fun v H' => Lot H' v ps) (lb : LB ps) : EvP (tCall spVars [] E0 (tCons te tNil)) σ H (VarsR ps) := fun H1 e Q q =>
  h H1 e _ fun v H2 e2 hl => ⟨v, ps, rfl, hl, lb, fun p ys H3 e3 h3 pm sr => q _ H3 (e2.trans e3) ⟨p, ys, rfl, h3, pm, sr⟩⟩
theorem ep_varsL {σ : L2.St} {H : Hp} {te : TE} {a : Addr} {us : List V} {ps : List (List Str)} (h : Ev te σ H (.ref a)) (ha : H a = some (.lst us)) (hp : Pts H us ps) (lb : LB ps) (hg : GoodT ps) : EvP (tCall spVarsL [] E0 (tCons te tNil)) σ H (VarsR ps) := fun H1 e Q q =>
  h H1 e _ fun H2 e2 => ⟨a, us, ps, rfl, (e.trans e2) _ _ ha, hp.mono (e.trans e2), lb, hg, fun p ys H3 e3 h3 pm sr => q _ H3 (e2.trans e3) ⟨p, ys, rfl, h3, pm, sr⟩⟩
theorem ev_neVars {σ : L2.St} {H : Hp} {ta tb : TE} {ps : List (List Str)} (ha : EvP ta σ H (VarsR ps)) (hb : EvP tb σ H (VarsR ps)) : Ev (tOp (rNeD K) ta tb) σ H (.bl false) := fun H1 e Q q =>
  ha H1 e _ fun u H2 e2 r2 => hb H2 (e.trans e2) _ fun v H3 e3 r3 => ne_vars (r2.mono e3) r3 (q H3 (e2.trans e3))
theorem EvP.imp {σ : L2.St} {H : Hp} {te : TE} {R R' : V → Hp → Prop} (h : EvP te σ H R) (hr : ∀ v H1, Ex H H1 → R v H1 → R' v H1) : EvP te σ H R' := fun H1 e Q q => h H1 e _ fun v H2 e2 r => q v H2 e2 (hr v H2 (e.trans e2) r)
/-- xs + [t], t a new tuple -/
theorem ep_more {σ : L2.St} {H : Hp} {ta te : TE} {l : Addr} {us ts : List V} (ha : Ev ta σ H (.ref l)) (hl : H l = some (.lst us)) (ht : EvU te σ H ts) (hu : us.length ≤ 1000) : EvP (tOp rCat ta (tLst (tCons te tNil))) σ H fun v H' => ∃ q t, v = .ref q ∧ H q = none ∧ H' q = some (.lst (us ++ [.ref t])) ∧ H' t = some (.tup ts) := fun H1 e Q q =>
  ha H1 e _ fun H2 e2 => ht H2 (e.trans e2) _ fun t H3 ht3 e3 h3 => ⟨sz_of (by show 1 ≤ 100000; decide), fun l2 hl2 => ⟨l, l2, us, [.ref t], rfl, rfl, (e.trans (e2.trans (e3.trans (Ex.new hl2)))) _ _ hl, upd_same, sz_of (by simp only [List.length_cons, List.length_nil]; omega), fun p hp =>
    q _ _ ((e2.trans e3).trans ((Ex.new hl2).trans (Ex.new hp))) ⟨p, t, rfl, fresh_back (e.trans (e2.trans (e3.trans (Ex.new hl2)))) hp, upd_same, Ex.new hp _ _ (Ex.new hl2 _ _ h3)⟩⟩⟩
/-- if, its test with draws, and false -/
theorem q_whenD {sa : Addr} {n : Nat} {tt : TT} {tu tz : TS} {D : Ends} {σ : L2.St} {H : Hp} (h : ∀ Q : Bool → Hp → Prop, (∀ H1, XB sa H H1 → Src H1 sa n → Q false H1) → tt σ H Q) (k : ∀ H1, XB sa H H1 → Src H1 sa n → tz D σ H1) : tSeq (tIfS tt tu tNext) tz D σ H :=
  h _ fun H1 x s => by
    rw [if_neg Bool.false_ne_true]
    exact k H1 x s
/-- a loop over a list that is known by S -/
theorem s_forQ {S : Addr → List V → Hp → Prop} {tl : TE} {g : L2.TG} {tu : TS} {D : Ends} {σ : L2.St} {H : Hp} (h : EvP tl σ H fun v H' => ∃ a vs, v = .ref a ∧ H' a = some (.lst vs) ∧ S a vs H') (Pv : Addr → List V → Nat → L2.St → Hp → Prop) (h0 : ∀ a vs H1, Ex H H1 → H1 a = some (.lst vs) → S a vs H1 → Pv a vs 0 σ H1) (hl : ∀ a vs i σ' H', i ≤ vs.length → Pv a vs i σ' H' → SqL K H' a vs)
    (hs : ∀ a vs i x σ' H', vs[i]? = some x → Pv a vs i σ' H' → g x σ' H' fun σ2 H2 => tu { D with nx := Pv a vs (i + 1), ct := Pv a vs (i + 1), bk := D.nx } σ2 H2) (hd : ∀ a vs σ' H', Pv a vs vs.length σ' H' → D.nx σ' H') : tFor (iList K tl) g tu D σ H :=
  h H (Ex.refl H) _ fun v H1 e ⟨a, vs, ev, ha, hS⟩ => ⟨a, ev, ⟨vs, sq_of ha⟩, for_list (Pv a vs) (h0 a vs H1 e ha hS) (hl a vs) (hs a vs) (hd a vs)⟩
/-- told(v) != due(v) -/
theorem ev_tell {σ : L2.St} {H : Hp} {te : TE} {v : V} {d : PyData} (h : Ev te σ H v) (hv : AnyT H v d) (hl : Lay d) : Ev (tOp (rNeD K) (tCall spTell [] E0 (tCons te tNil)) (tCall spTell [] E0 (tCons te tNil))) σ H (.bl false) := fun H1 e Q q =>
  h H1 e _ fun H2 e2 => ⟨v, d, rfl, hv.mono (e.trans e2), hl, fun p H3 hp e3 h3 => h H3 (e.trans (e2.trans e3)) _ fun H4 e4 => ⟨v, d, rfl, hv.mono (e.trans (e2.trans (e3.trans e4))), hl, fun p2 H5 hp2 e5 h5 => ne_bls (l := tellD d) (m := tellD d) ((e4.trans e5) _ _ h3) h5 (by
    rw [decide_eq_true rfl]
    exact q H5 (e2.trans (e3.trans (e4.trans e5))))⟩⟩
theorem rv_repS {H : Hp} {z : Str} {k : Nat} (h0 : z.length ≠ 0) (h2 : 2 ≤ k) (h3 : k ≤ 1000) (hz : z.length ≤ 1000) (hl : (repS z k).length ≤ 100000) : RV rRepS (.str z) (.int (k : Int)) H (.str (repS z k)) := rv_val fun H1 _ Q q => ⟨z, k, rfl, rfl, h0, h2, h3, hz, sz_of hl, q⟩
theorem ep_ofL {σ : L2.St} {H : Hp} {te : TE} {xs : List V} (h : EvL te σ H xs) : EvP te σ H fun v H' => ∃ a, v = .ref a ∧ H' a = some (.lst xs) := fun H1 e Q q => h H1 e _ fun p H2 hp e2 h2 => q _ H2 e2 ⟨p, rfl, h2⟩
theorem nest_names : ([nameS "nest", nameS (repS "a" 12), nameS (repS "a" 13)] : List Bool) = [true, true, false] := by decide +kernel
theorem ok_law {f : Addr} {fd : FuncData} (T : TZ K mg) (F : Fun K "law" "law" s_law f fd) : FnOk P w K mg base CX0 6 f fd ["_law_script"] (spLaw K) := by
  have m_list := T.m_list
  have m_sorted := T.m_sorted
  have m_range := T.x.d.m_range
  have m_tuple := T.x.d.m_tuple
  obtain ⟨f1, d1, Dis_name⟩ := T.is_name
  obtain ⟨f2, d2, Dvariables_of⟩ := T.variables_of
  obtain ⟨f3, d3, Dfilled⟩ := T.filled
  obtain ⟨f4, d4, D_law_source⟩ := T._law_source
  obtain ⟨f5, d5, D_law_pool⟩ := T._law_pool
  obtain ⟨f6, d6, D_law_lot⟩ := T._law_lot
  obtain ⟨f7, d7, D_law_variables⟩ := T._law_variables
  obtain ⟨f8, d8, D_law_texts⟩ := T._law_texts
  obtain ⟨f9, d9, D_law_told⟩ := T._law_told
  obtain ⟨f10, d10, D_law_due⟩ := T._law_due
  obtain ⟨f11, d11, D_law_odd⟩ := T._law_odd
  obtain ⟨f12, d12, D_law_fills⟩ := T._law_fills
  obtain ⟨f13, d13, D_law_by_name⟩ := T._law_by_name
  have Gis_name : FnOk P w K mg base CX0 1 f1 d1 _ (spB nameD) := ok_is_name T.x.l.n Dis_name.F
  have Gvariables_of : FnOk P w K mg base CX0 3 f2 d2 _ spVars := ok_variables_of T.b.v Dvariables_of.F
  have G_law_source : FnOk P w K mg base CX0 1 f4 d4 _ spSource := ok_source D_law_source.F
  have G_law_pool : FnOk P w K mg base CX0 4 f5 d5 _ spPool := ok_law_pool T.g.p D_law_pool.F
  have G_law_lot : FnOk P w K mg base CX0 4 f6 d6 _ spLot := ok_law_lot T.g D_law_lot.F
  have G_law_variables : FnOk P w K mg base CX0 1 f7 d7 _ spVarsL := ok_law_variables m_sorted D_law_variables.F
  have G_law_texts : FnOk P w K mg base CX0 5 f8 d8 _ spTexts := ok_law_texts T.x D_law_texts.F
  have G_law_told : FnOk P w K mg base CX0 5 f9 d9 _ spTell := ok_law_told T.x.l D_law_told.F
  have G_law_due : FnOk P w K mg base CX0 5 f10 d10 _ spTell := ok_law_due T.x.l D_law_due.F
  have G_law_odd : FnOk P w K mg base CX0 2 f11 d11 _ spOdd := ok_law_odd T.x.d D_law_odd.F
  have G_law_fills : FnOk P w K mg base CX0 2 f12 d12 _ spFills := ok_law_fills m_tuple Dfilled D_law_fills.F
  have G_law_by_name : FnOk P w K mg base CX0 5 f13 d13 _ spGood := ok_law_by_name T.b D_law_by_name.F
  refine F.ok sc_law (fun vs H Q E h => ?_) (fun cdv A outer s H vs Q E hr h => ?_)
  · obtain ⟨a, ns, rfl, _⟩ := h
    rfl
  · obtain ⟨a, ns, rfl, hS, hbits, hlen, k⟩ := h
    refine ⟨_, (pss_cons (ps_for PassesOwn.never rfl (pi_listK (K := K) rfl (pe_op op_cat (pe_slice (sl_listK (K := K) rfl) (pv 0) po_none (po_some pe_int)) (pe_lst (pa_cons pe_int pa_nil)))) (pg_name (i := 1) sc_law.nd rfl (Or.inl rfl)) (pss_cons (ps_set (i := 2) sc_law.nd rfl (Or.inr rfl) (pe_call G_law_source (hr.mono (by decide)) (by rfl) D_law_source.g D_law_source.F.kp D_law_source.b .nil pass0 (pa_cons (pv 1) pa_nil)))
      (pss_cons (ps_set (i := 3) sc_law.nd rfl (Or.inl rfl) (pe_call G_law_pool (hr.mono (by decide)) (by rfl) D_law_pool.g D_law_pool.F.kp D_law_pool.b .nil pass0 (pa_cons (pv 2) pa_nil)))
      (pss_cons (ps_set (i := 4) sc_law.nd rfl (Or.inl rfl) (pe_call G_law_lot (hr.mono (by decide)) (by rfl) D_law_lot.g D_law_lot.F.kp D_law_lot.b .nil pass0 (pa_cons (pv 2) (pa_cons (pv 3) (pa_cons (pe_slice (sl_listK (K := K) rfl) (pe_ix (ix_listK (K := K) rfl) (pv 3) pe_int (fun _ _ => rfl)) po_none (po_some pe_int)) (pa_cons pe_int pa_nil))))))
      (pss_cons (ps_set (i := 5) sc_law.nd rfl (Or.inl rfl) (pe_callTy (call_list_ofK (K := K) rfl) (by rfl) m_list (by decide +kernel) (pa_cons (pv 4) pa_nil)))
      (pss_cons (ps_if (PW.pt (pw_or (pt_cmpR (op_neDK (K := K) rfl hr.units) (pe_call Gvariables_of (hr.mono (by decide)) (by rfl) Dvariables_of.g Dvariables_of.F.kp Dvariables_of.b .nil pass0 (pa_cons (pv 4) pa_nil)) (pe_call G_law_variables (hr.mono (by decide)) (by rfl) D_law_variables.g D_law_variables.F.kp D_law_variables.b .nil pass0 (pa_cons (pv 4) pa_nil)) (nomark _)) (pw_or1 (pt_cmpR (op_neDK (K := K) rfl hr.units) (pe_call Gvariables_of (hr.mono (by decide)) (by rfl) Dvariables_of.g Dvariables_of.F.kp Dvariables_of.b .nil pass0 (pa_cons (pe_callTy (call_tuple_ofK (K := K) rfl) (by rfl) m_tuple (by decide +kernel) (pa_cons (pv 4) pa_nil)) pa_nil)) (pe_call G_law_variables (hr.mono (by decide)) (by rfl) D_law_variables.g D_law_variables.F.kp D_law_variables.b .nil pass0 (pa_cons (pv 4) pa_nil)) (nomark _))))) (pss_one (ps_ret pe_bl)) pss_nil)
      (pss_cons (ps_if (pt_cmpR (op_neDK (K := K) rfl hr.units) (pv 4) (pv 5) (nomark _)) (pss_one (ps_ret pe_bl)) pss_nil)
      (pss_one (ps_for PassesOwn.never rfl (pi_listK (K := K) rfl (pe_op op_cat (pv 4) (pe_lst (pa_cons (pe_tup (pa_cons (pe_ix (ix_tupK (K := K) rfl) (pe_ix (ix_listK (K := K) rfl) (pe_ix (ix_listK (K := K) rfl) (pv 3) pe_int (fun _ _ => rfl)) pe_int (fun _ _ => rfl)) pe_int (fun _ _ => rfl)) (pa_cons (pe_ix (ix_listK (K := K) rfl) (pe_ix (ix_listK (K := K) rfl) (pv 3) pe_int (fun _ _ => rfl)) pe_int (fun _ _ => rfl)) (pa_cons (pe_ix (ix_listK (K := K) rfl) (pe_ix (ix_listK (K := K) rfl) (pv 3) pe_int (fun _ _ => rfl)) pe_int (fun _ _ => rfl)) pa_nil)))) pa_nil)))) (pg_name (i := 6) sc_law.nd rfl (Or.inr rfl)) (pss_cons (ps_if (PW.pt (pw_or (pt_not (pt_val (pe_call G_law_texts (hr.mono (by decide)) (by rfl) D_law_texts.g D_law_texts.F.kp D_law_texts.b .nil pass0 (pa_cons (pv 2) (pa_cons (pv 6) pa_nil))))) (pw_or1 (pt_cmpR (op_neDK (K := K) rfl hr.units) (pe_call G_law_told (hr.mono (by decide)) (by rfl) D_law_told.g D_law_told.F.kp D_law_told.b .nil pass0 (pa_cons (pv 6) pa_nil)) (pe_call G_law_due (hr.mono (by decide)) (by rfl) D_law_due.g D_law_due.F.kp D_law_due.b .nil pass0 (pa_cons (pv 6) pa_nil)) (nomark _))))) (pss_one (ps_ret pe_bl)) pss_nil)
      (pss_cons (ps_set (i := 7) sc_law.nd rfl (Or.inl rfl) (pe_op op_cat (pe_lc (own := [("_law_k", 8)]) (g := gName 8) (tt := tYes) rfl sc_law.nd (pi_range1 rfl m_range (pa_cons pe_int pa_nil)) (blkOk_by (N := n_law) (sc := defScope s_law) (by decide +kernel)) (fun _ _ _ _ _ => pg_name (i := 8) sc_law.nd rfl (Or.inl rfl)) (fun _ _ _ _ _ => pts_nil) (fun _ _ _ _ _ => (pe_call G_law_odd (hr.mono (by decide)) (by rfl) D_law_odd.g D_law_odd.F.kp D_law_odd.b .nil pass0 (pa_cons (pv 2) (pa_cons (pv 6) pa_nil))))) (pe_callTy (call_list_ofK (K := K) rfl) (by rfl) m_list (by decide +kernel) (pa_cons (pv 6) pa_nil))))
      (pss_cons (ps_if (pt_cmpR (op_neDK (K := K) rfl hr.units) (pe_lc (own := [("_law_value", 9)]) (g := gName 9) rfl sc_law.nd (pi_listK (K := K) rfl (pv 7)) (blkOk_by (N := n_law) (sc := defScope s_law) (by decide +kernel)) (fun _ _ _ _ _ => pg_name (i := 9) sc_law.nd rfl (Or.inl rfl)) (fun _ _ _ _ _ => pts_one (pt_cmpR (op_neDK (K := K) rfl hr.units) (pe_call G_law_told (hr.mono (by decide)) (by rfl) D_law_told.g D_law_told.F.kp D_law_told.b .nil pass0 (pa_cons (pv 9) pa_nil)) (pe_call G_law_due (hr.mono (by decide)) (by rfl) D_law_due.g D_law_due.F.kp D_law_due.b .nil pass0 (pa_cons (pv 9) pa_nil)) (nomark _))) (fun _ _ _ _ _ => (pv 9))) (pe_lst pa_nil) (nomark _)) (pss_one (ps_ret pe_bl)) pss_nil)
      (pss_one (ps_if (PW.pt (pw_or (pt_not (pt_val (pe_call G_law_fills (hr.mono (by decide)) (by rfl) D_law_fills.g D_law_fills.F.kp D_law_fills.b .nil pass0 (pa_cons (pv 3) (pa_cons (pv 6) pa_nil))))) (pw_or1 (pt_not (pt_val (pe_call G_law_by_name (hr.mono (by decide)) (by rfl) D_law_by_name.g D_law_by_name.F.kp D_law_by_name.b .nil pass0 (pa_cons (pv 6) pa_nil))))))) (pss_one (ps_ret pe_bl)) pss_nil))))))))))))))
      (pss_one (ps_ret (pe_cmpR (op_eqDK (K := K) rfl hr.units) (pe_lc (own := [("_law_value", 9)]) (g := gName 9) (tt := tYes) rfl sc_law.nd (pi_listK (K := K) rfl (pe_lst (pa_cons pe_str (pa_cons (pe_op op_repS pe_str pe_int) (pa_cons (pe_op op_repS pe_str pe_int) pa_nil))))) (blkOk_by (N := n_law) (sc := defScope s_law) (by decide +kernel)) (fun _ _ _ _ _ => pg_name (i := 9) sc_law.nd rfl (Or.inl rfl)) (fun _ _ _ _ _ => pts_nil) (fun _ _ _ _ _ => (pe_call Gis_name (hr.mono (by decide)) (by rfl) Dis_name.g Dis_name.F.kp Dis_name.b .nil pass0 (pa_cons (pv 9) pa_nil)))) (pe_lst (pa_cons pe_bl (pa_cons pe_bl (pa_cons pe_bl pa_nil)))) (nomark _))))), ?_⟩
    have cells := el_cat (σ := [some (.ref a), none, none, none, none, none, none, none, none, none]) (H := H) (el_sl (K := K) (te := tVar 0) (lo := none) (hi := some 4) (ev_var rfl) eo_none (eo_some ev_c) hS) (el_lst (ea_cons (ev_c (v := .int 0)) ea_nil) (by decide : (1 : Nat) ≤ 100000)) (by
      have := cut_le (ns.map V.int) none (some 4)
      rw [List.length_map] at this
      simp only [List.length_cons, List.length_nil]
      omega)
    have cellok : ∀ v ∈ cutV (ns.map V.int) none (some 4) ++ [.int 0], ∃ c : Int, v = .int c ∧ Builtin.Int.intBits c ≤ 1048576 := fun v hv => by
      rcases List.mem_append.mp hv with hv | hv
      · obtain ⟨c, hc, rfl⟩ := List.mem_map.mp (cut_in hv)
        exact ⟨c, rfl, hbits c hc⟩
      · exact ⟨0, List.mem_singleton.mp hv, by decide⟩
    refine q_forNLn (K := K) cells (fun p i σ' H' => H' p = some (.lst (cutV (ns.map V.int) none (some 4) ++ [.int 0])) ∧ ∃ y1 y2 y3 y4 y5 y6 y7, σ' = [some (.ref a), y1, y2, y3, y4, y5, y6, y7, none, none]) (fun p H1 hp e1 h1 => ⟨h1, _, _, _, _, _, _, _, rfl⟩) (fun p i σ' H' _ q => sq_of q.1) ?_ ?_
    · rintro pl i x σ' H1 hi ⟨hpl, y1, y2, y3, y4, y5, y6, y7, rfl⟩
      obtain ⟨cell, rfl, hcell⟩ := cellok x (List.mem_of_getElem? hi)
      -- the source, the pool, the lot
      refine ⟨_, rfl, cell, rfl, hcell, fun sa H2 hsa e2 s2 => ?_⟩
      have npl : pl ≠ sa := fun e => by
        rw [← e, hpl] at hsa
        cases hsa
      refine ⟨_, rfl, sa, 0, rfl, s2, by decide, fun po r c v rows cs xs H3 pool x3 s3 => ?_⟩
      have sl := el_sl (K := K) (σ := [some (.ref a), some (.int cell), some (.ref sa), some (.ref po), y4, y5, y6, y7, none, none]) (H := H3) (te := tOp (rIxL K) (tVar 3) (tC (.int 2))) (lo := none) (hi := some 4) (ev_op (ev_var rfl) ev_c (rv_ixL (v := .ref v) (sq_of pool.hpo) (atI_nat (j := 2) rfl))) eo_none (eo_some ev_c) (sq_of pool.hv)
      rw [cut4 pool.vl] at sl
      refine ⟨_, rfl, _, rfl, sl H3 (Ex.refl _) _ fun va H4 hva e4 h4 => ?_⟩
      have nva := s3.ne hva
      refine ⟨sa, po, r, c, v, va, rows, cs, xs, xs.take 4, 0 + 1000, 5, rfl, by decide, s3.ex e4, by decide, pool.mono (XB.ex e4), ⟨nva, h4, by rw [List.length_take]; omega, fun x hx => pool.hxs x (List.mem_of_mem_take hx)⟩, fun l us H5 hl nl h5 hul hus x5 s5 => ?_⟩
      refine ⟨_, rfl, l, us, rfl, .inl (sq_of h5), fun kp hkp => ?_⟩
      generalize hH6 : upd H5 kp (.lst us) = H6
      have e6 : Ex H5 H6 := by
        rw [← hH6]
        exact Ex.new hkp
      have hk6 : H6 kp = some (.lst us) := by
        rw [← hH6]
        exact upd_same
      have s6 := s5.ex e6
      have nkp := s5.ne hkp
      have pool6 : PoolAt sa H6 po r c v rows cs xs := (pool.mono (XB.ex e4)).mono (x5.trans (XB.ex e6))
      have hus6 : ∀ u ∈ us, ∃ p, PatAt sa H6 u p := fun u hu => (hus u hu).elim fun p z => ⟨p, z.mono (XB.ex e6)⟩
      have h56 := e6 _ _ h5
      have hpl6 : H6 pl = some (.lst (cutV (ns.map V.int) none (some 4) ++ [.int 0])) := e6 _ _ (x5 _ _ npl (e4 _ _ (x3 _ _ npl (e2 _ _ hpl))))
      obtain ⟨ps, hps, hpsl, hpsg⟩ := pats_of hus6
      have lb : LB ps := ⟨by omega, fun p hp => (good_pb (hpsg p hp)).1⟩
      have gt := good_terms hpsg
      -- the variables
      have vl : EvP (tCall spVarsL [] E0 (tCons (tVar 4) tNil)) [some (.ref a), some (.int cell), some (.ref sa), some (.ref po), some (.ref l), some (.ref kp), y6, y7, none, none] H6 (VarsR ps) := ep_varsL (ev_var rfl) h56 hps lb gt
      have t1 := ev_neVars (K := K) (ep_varsOf (te := tVar 4) (fun H7 e7 Q q => ⟨_, rfl, q _ H7 (Ex.refl _) ⟨l, us, rfl, .inl (e7 _ _ h56), hps.mono e7⟩⟩) lb) vl
      have t2 := ev_neVars (K := K) (ep_varsOf (te := tCB (rTupS K) (tCons (tVar 4) tNil)) (fun H7 e7 Q q => ⟨_, rfl, l, us, rfl, .inl ⟨sq_of (e7 _ _ h56), fun t ht => q _ _ (Ex.new ht) ⟨t, us, rfl, .inr upd_same, (hps.mono e7).mono (Ex.new ht)⟩⟩⟩) lb) vl
      refine q_when (b := false) (et_or (et_test t1) fun _ => et_test t2) (fun z => by cases z) (fun _ H7 e7 => ?_)
      have t3 : Ev (tOp (rNeD K) (tVar 4) (tVar 5)) [some (.ref a), some (.int cell), some (.ref sa), some (.ref po), some (.ref l), some (.ref kp), y6, y7, none, none] H7 (.bl false) := ev_op (ev_var rfl) (ev_var rfl) (rv_val fun H8 e8 Q q => ne_lot ((e7.trans e8) _ _ h56) ((e7.trans e8) _ _ hk6) (hps.mono (e7.trans e8)) hpsg q)
      refine q_when (et_test t3) (fun z => by cases z) (fun _ H8 e8 => ?_)
      have e68 := e7.trans e8
      have s8 := s6.ex e68
      have pool8 := pool6.mono (XB.ex e68)
      have hus8 : ∀ u ∈ us, ∃ p, PatAt sa H8 u p := fun u hu => (hus6 u hu).elim fun p z => ⟨p, z.mono (XB.ex e68)⟩
      have h58 := e68 _ _ h56
      have hpl8 := e68 _ _ hpl6
      -- one pattern more
      obtain ⟨rw0, rwr, erw⟩ : ∃ r0 rr, rows = r0 :: rr := by
        cases rows with
        | nil => exact absurd pool8.rl.1 (by decide)
        | cons a b => exact ⟨a, b, rfl⟩
      obtain ⟨ra, tb, tz, era, nra, hra, htb, _⟩ := pool8.rs rw0 (by rw [erw]; exact List.mem_cons_self ..)
      obtain ⟨c0, cr, ecs⟩ : ∃ c0 cr, cs = c0 :: cr := by
        cases cs with
        | nil => exact absurd pool8.cl.1 (by decide)
        | cons a b => exact ⟨a, b, rfl⟩
      obtain ⟨v0, vr, exs⟩ : ∃ v0 vr, xs = v0 :: vr := by
        cases xs with
        | nil => exact absurd pool8.vl (by decide)
        | cons a b => exact ⟨a, b, rfl⟩
      have tup := eu_tup (σ := [some (.ref a), some (.int cell), some (.ref sa), some (.ref po), some (.ref l), some (.ref kp), y6, y7, none, none]) (H := H8)
        (ea_cons (ev_op (ev_op (ev_op (ev_var (i := 3) rfl) (ev_c (v := .int 0)) (rv_ixL (K := K) (v := .ref r) (sq_of pool8.hpo) (atI_nat (j := 0) rfl))) (ev_c (v := .int 0)) (rv_ixL (K := K) (v := .ref ra) (sq_of pool8.hr) (atI_nat (j := 0) (by rw [erw, era]; rfl)))) (ev_c (v := .int 0)) (rv_ixT (K := K) (v := .str tb) (st_of hra) (atI_nat (j := 0) rfl)))
        (ea_cons (ev_op (ev_op (ev_var (i := 3) rfl) (ev_c (v := .int 2)) (rv_ixL (K := K) (v := .ref v) (sq_of pool8.hpo) (atI_nat (j := 2) rfl))) (ev_c (v := .int 0)) (rv_ixL (K := K) (v := .str v0) (sq_of pool8.hv) (atI_nat (j := 0) (by rw [exs]; rfl))))
        (ea_cons (ev_op (ev_op (ev_var (i := 3) rfl) (ev_c (v := .int 1)) (rv_ixL (K := K) (v := .ref c) (sq_of pool8.hpo) (atI_nat (j := 1) rfl))) (ev_c (v := .int 0)) (rv_ixL (K := K) (v := .str c0) (sq_of pool8.hc) (atI_nat (j := 0) (by rw [ecs]; rfl)))) ea_nil))) (by decide : (3 : Nat) ≤ 100000)
      have gnew : GoodP [tb, v0, c0] := good_of (by simp) htb (fun x hx => by
        simp only [List.mem_cons, List.not_mem_nil, or_false] at hx
        rcases hx with rfl | rfl
        · exact .inr (pool8.hxs x (by rw [exs]; exact List.mem_cons_self ..))
        · exact .inl (pool8.hcs x (by rw [ecs]; exact List.mem_cons_self ..)))
      have all0 := ep_more (ta := tVar 4) (ev_var rfl) h58 tup (by omega)
      have all := EvP.imp all0 (R' := fun v H' => ∃ q ws, v = .ref q ∧ H' q = some (.lst ws) ∧ (q ≠ sa ∧ ws.length ≤ 6 ∧ ∀ u ∈ ws, ∃ p, PatAt sa H' u p)) fun v H9 e9 ⟨q, t, ev, hq, h9, ht9⟩ => ⟨q, us ++ [.ref t], ev, h9, s8.ne hq, by rw [List.length_append]; simp only [List.length_cons, List.length_nil]; omega, fun u hu => by
        rcases List.mem_append.mp hu with hu | hu
        · exact (hus8 u hu).elim fun p z => ⟨p, z.mono (XB.ex e9)⟩
        · rw [List.mem_singleton.mp hu]
          exact ⟨[tb, v0, c0], t, rfl, (s8.ex e9).neT ht9, ht9, gnew⟩⟩
      refine s_forQ (K := K) all (fun q ws i σ' H' => XB sa H8 H' ∧ Src H' sa (1101 + 35 * i) ∧ H' q = some (.lst ws) ∧ (q ≠ sa ∧ ws.length ≤ 6 ∧ ∀ u ∈ ws, ∃ p, PatAt sa H' u p) ∧ ∃ z6 z7, σ' = [some (.ref a), some (.int cell), some (.ref sa), some (.ref po), some (.ref l), some (.ref kp), z6, z7, none, none]) (fun q ws H9 e9 h9 hS => ⟨XB.ex e9, (s8.ex e9).mono (by decide), h9, hS, _, _, rfl⟩) (fun q ws i σ' H' _ z => sq_of z.2.2.1) ?_ (fun q ws σ' H' ⟨x9, s9, h9, hS, z6, z7, ez⟩ => ⟨x9 _ _ npl hpl8, _, _, _, _, _, _, _, ez⟩)
      rintro q ws i u σ' H9 hi ⟨x9, s9, h9, ⟨nq, hwl, hws⟩, z6, z7, rfl⟩
      obtain ⟨p, hp⟩ := hws u (List.mem_of_getElem? hi)
      have i6 : i < 6 := by
        have := (List.getElem?_eq_some_iff.mp hi).1
        omega
      obtain ⟨ua, rfl, nua, hua, hg⟩ := id hp
      have any9 := AnyGood hua hg
      have lay : Lay (.tuple (p.map .str)) := .inr ⟨SeqAt.canLay_of_shaped (shaped_tup (strs_ok fun x hx => term_sok ((good_pb hg).2 x hx))), by
        have : PyData.depthAll (p.map PyData.str) ≤ 0 := depth_all fun d hd => by
          obtain ⟨y, hy, rfl⟩ := List.mem_map.mp hd
          simp [PyData.depth]
        simp only [PyData.depth]
        omega⟩
      -- the texts, what is told
      refine q_whenD (sa := sa) (n := 1101 + 35 * i + 15) (fun Q0 q0 => ?_) (fun H10 x10 s10 => ?_)
      · refine ⟨_, rfl, _, rfl, sa, 1101 + 35 * i, .ref ua, p, rfl, s9, by omega, hp, fun H10 x10 s10 => ⟨true, rfl, ?_⟩⟩
        have tl := et_test (ev_tell (K := K) (σ := [some (.ref a), some (.int cell), some (.ref sa), some (.ref po), some (.ref l), some (.ref kp), some (.ref ua), z7, none, none]) (H := H10) (te := tVar 6) (ev_var rfl) (AnyGood (x10 _ _ nua hua) hg) lay)
        exact tl H10 (Ex.refl _) _ fun H11 e11 => q0 H11 (x10.trans (XB.ex e11)) (s10.ex e11)
      have hp10 := hp.mono x10
      have hua10 := x10 _ _ nua hua
      -- the odd ones
      have od := ed_lcR (sa := sa) (σ := [some (.ref a), some (.int cell), some (.ref sa), some (.ref po), some (.ref l), some (.ref kp), some (.ref ua), z7, none, none]) (H := H10) (ta := tCons (tC (.int 5)) tNil) (j := 8) (k0 := 0) (kk := 4) (N := 5) (vs := [8]) (Pm := fun m => m = 5) (R := fun D v H => ∃ d, Lay d ∧ ∀ H', (∀ b o, b ≠ sa → b ≠ D → H b = some o → H' b = some o) → AnyT H' v d) (te := tCall spOdd [] E0 (tCons (tVar 2) (tCons (tVar 6) tNil)))
        (fun H2 m x2 s2 _ Q q => q 5 H2 (XB.refl _ _) s2 rfl) (fun m hm => by omega) (by decide) (fun _ => rfl) (fun D y Ha Hb hR hk => by
          obtain ⟨d, hl, hd⟩ := hR
          exact ⟨d, hl, fun H'' h => hd H'' fun b o h1 h2 h3 => h b o h1 h2 (hk b o h1 h2 h3)⟩)
        (fun i D H3 ys m _ x3 hD0 hD s3 hm Q q => ⟨_, rfl, _, rfl, sa, m, .ref ua, p, rfl, s3, hm, hp10.mono x3, fun v H4 ⟨d, hl, hd⟩ x4 s4 => q v H4 x4 s4 ⟨d, hl, fun H'' h => hd H'' fun b o hb h4 => h b o (fun e => by
          rw [e] at hb h4
          rcases hb with hb | ⟨xs, rfl⟩
          · exact (s3.ne hb) rfl
          · exact (s4.neT h4) rfl) (fun e => by
          rw [e] at hb h4
          rcases hb with hb | ⟨xs, rfl⟩
          · rw [hD] at hb
            cases hb
          · rw [x4 _ _ (s10.ne hD0) hD] at h4
            cases h4) h4⟩⟩)
      have vals := ed_cat2 (sa := sa) (tb := tCB (rListS K) (tCons (tVar 6) tNil)) (xs := p.map V.str) (S := fun ys H => ys.length = 5 ∧ ∀ y ∈ ys, ∃ d, Lay d ∧ AnyT H y d) (od.imp fun v H2 ⟨D, ys, ev, _, hne, hD, hl, hy⟩ => ⟨D, ys, ev, hne, hD, hl, fun y hm => (hy y hm).elim fun d z => ⟨d, z.1, z.2 H2 fun _ _ _ _ h => h⟩⟩)
        (fun H2 x2 => fun H3 e3 Q q => ⟨_, rfl, ua, _, rfl, .inr (st_of (e3 _ _ (x2 _ _ nua hua10))), fun l3 hl3 => q l3 _ hl3 (Ex.new hl3) upd_same⟩) (fun ys Ha Hb e h => ⟨h.1, fun y hy => (h.2 y hy).elim fun d z => ⟨d, z.1, z.2.mono e⟩⟩) (fun ys _ h => by
          rw [h.1, List.length_map]
          have := (good_pb hg).1.2.1
          omega)
      refine q_asgD vals s10 (by omega) fun vv H11 x11 s11 ⟨vl, ys, evv, nvl, hvl, hys5, hys⟩ => ?_
      rw [evv]
      have hp11 := hp10.mono x11
      have hua11 := x11 _ _ nua hua10
      have pool11 := (pool8.mono x9).mono (x10.trans x11)
      -- all of them are told alike
      have each : ∀ y ∈ ys ++ p.map V.str, ∃ d, Lay d ∧ AnyT H11 y d := fun y hy => by
        rcases List.mem_append.mp hy with hy | hy
        · exact hys y hy
        · obtain ⟨x, hx, rfl⟩ := List.mem_map.mp hy
          have ht := (good_pb hg).2 x hx
          exact ⟨.str x, .inr ⟨term_sok ht, by simp [PyData.depth]⟩, AnyStr (Nat.le_trans (term_parts ht).2.1 (by decide)), fun xs e => by cases e⟩
      have lc0 := el_cL (K := K) (σ := [some (.ref a), some (.int cell), some (.ref sa), some (.ref po), some (.ref l), some (.ref kp), some (.ref ua), some (.ref vl), none, none]) (H := H11) (tl := tVar 7) (t := tTest (tOp (rNeD K) (tCall spTell [] E0 (tCons (tVar 9) tNil)) (tCall spTell [] E0 (tCons (tVar 9) tNil)))) (te := tVar 9) (xs := ys ++ p.map V.str) (f := fun _ => false) (g := id) (j := 9) (vs := [9])
        (fun H12 e12 Q q => ⟨_, rfl, q _ H12 (Ex.refl _) ⟨vl, rfl, e12 _ _ hvl⟩⟩) (by
          rw [List.length_append, List.length_map, hys5]
          have := (good_pb hg).1.2.1
          omega) (fun _ => rfl) (fun y hy H12 e12 => by
          obtain ⟨d, hd1, hd2⟩ := each y hy
          exact et_test (ev_tell (ev_var rfl) (hd2.mono e12) hd1)) (fun _ _ z => by cases z)
      rw [show (ys ++ p.map V.str).filter (fun _ => false) = [] from List.filter_eq_nil_iff.mpr fun _ _ => Bool.false_ne_true] at lc0
      have cmp := ev_neNil (K := K) (ds := []) lc0 .nil (fun _ z => by cases z)
      refine q_when (et_test cmp) (fun z => by cases z) (fun _ H12 e12 => ?_)
      have fl : Ev (tCall spFills [] E0 (tCons (tVar 3) (tCons (tVar 6) tNil))) [some (.ref a), some (.int cell), some (.ref sa), some (.ref po), some (.ref l), some (.ref kp), some (.ref ua), some (.ref vl), none, none] H12 (.bl true) := fun H13 e13 Q q =>
        have pl := pool11.mono (XB.ex (e12.trans e13))
        ⟨_, rfl, _, rfl, po, .ref ua, cs, xs, p, rfl, ⟨_, c, v, pl.hpo, pl.hc, pl.hv, pl.cl.1, pl.cl.2, pl.vl, pl.hcs, pl.hxs⟩, hp11.pt.mono (e12.trans e13), hg, fun H14 e14 => q H14 e14⟩
      have bn : Ev (tCall spGood [] E0 (tCons (tVar 6) tNil)) [some (.ref a), some (.int cell), some (.ref sa), some (.ref po), some (.ref l), some (.ref kp), some (.ref ua), some (.ref vl), none, none] H12 (.bl true) := fun H13 e13 Q q => ⟨_, rfl, .ref ua, p, rfl, hp11.pt.mono (e12.trans e13), hg, fun H14 e14 => q H14 e14⟩
      refine s_when (b := false) (et_is (et_or (et_not (et_B fl)) fun _ => et_not (et_B bn)) rfl) (fun z => by cases z) (fun _ H13 e13 => ?_)
      have xx : XB sa H9 H13 := x10.trans (x11.trans (XB.ex (e12.trans e13)))
      exact ⟨x9.trans xx, (s11.ex (e12.trans e13)).mono (by omega), xx _ _ nq h9, ⟨nq, hwl, fun u hu => (hws u hu).elim fun p z => ⟨p, z.mono xx⟩⟩, _, _, rfl⟩
    · rintro pl σ' H1 ⟨hpl, y1, y2, y3, y4, y5, y6, y7, rfl⟩
      have l0 := el_lst (σ := [some (.ref a), y1, y2, y3, y4, y5, y6, y7, none, none]) (H := H1) (ea_cons (ev_c (v := .str "nest")) (ea_cons (ev_op (ev_c (v := .str "a")) (ev_c (v := .int 12)) (rv_repS (z := "a") (k := 12) (by decide) (by decide) (by decide) (by decide) (by decide +kernel))) (ea_cons (ev_op (ev_c (v := .str "a")) (ev_c (v := .int 13)) (rv_repS (z := "a") (k := 13) (by decide) (by decide) (by decide) (by decide) (by decide +kernel))) ea_nil))) (by decide : (3 : Nat) ≤ 100000)
      have l1 := el_cL (K := K) (j := 9) (vs := [9]) (t := tYes) (te := tCall (spB nameD) [] E0 (tCons (tVar 9) tNil)) (f := fun _ => true) (g := fun v => match v with | .str x => .bl (nameS x) | _ => .bl false) (ep_ofL l0) (by decide) (fun _ => rfl) (fun _ _ H2 _ => fun H3 _ Q q => q H3 (Ex.refl _)) (fun y hy _ H2 e2 => by
        simp only [List.mem_cons, List.not_mem_nil, or_false] at hy
        rcases hy with rfl | rfl | rfl
        · exact ev_B (d := .str "nest") (ev_var rfl) (AnyStr (by decide))
        · exact ev_B (d := .str (repS "a" 12)) (ev_var rfl) (AnyStr (by decide +kernel))
        · exact ev_B (d := .str (repS "a" 13)) (ev_var rfl) (AnyStr (by decide +kernel)))
      have l2 := el_lst (σ := [some (.ref a), y1, y2, y3, y4, y5, y6, y7, none, none]) (H := H1) (ea_cons (ev_c (v := .bl true)) (ea_cons (ev_c (v := .bl true)) (ea_cons (ev_c (v := .bl false)) ea_nil))) (by decide : (3 : Nat) ≤ 100000)
      have c0 := ev_opLL (r := rEqD K) (z := .bl (decide ([nameS "nest", nameS (repS "a" 12), nameS (repS "a" 13)] = [true, true, false]))) l1 l2 fun p q H2 hp hq e => rv_val fun H3 e3 Q k => eq_bls (l := [nameS "nest", nameS (repS "a" 12), nameS (repS "a" 13)]) (m := [true, true, false]) (e3 _ _ hp) (e3 _ _ hq) k
      have c1 := ev_is c0 (w := .bl true) (by
        rw [nest_names]
        rfl)
      exact s_ret c1 fun H2 e2 => k H2
end
end G39

namespace G39
open PySem PySem.Spec PyProof.Rows L2 Evl
theorem mkD {K : PySem.W.Frag} {h : Heap} {mg : Str → Option Value} {x : Str} {ps : List Str} {st : Stmt} {f : Addr} {oc kV dc pm cd ct : Value} {od an : Option Addr} {sl : Array (Option Value)} (KX : K.In h) (G : h.Ns mainGlobals mg) (a : PySem.W.nsIn K mainGlobals x = some (some (.ref f)))
    (l : K.lookup f = some ⟨oc, od, .func (PySem.W.fnOf x x (defArgs st) (defBody st) (defScope st) .none kV dc pm an cd ct), sl⟩) (c : PySem.W.codeIn K cd x = true) (k : PySem.W.keepIn K (.ref f) = true)
    (hb : ∀ (kV doc pm : Value) (an : Option Addr) (cdv ct : Value) (us : List Value), us.length = ps.length → bindArgs (PySem.W.fnOf x x (defArgs st) (defBody st) (defScope st) .none kV doc pm an cdv ct) ⟨us, []⟩ = pure (ps.zip us)) :
    DefAt K mg x st ps f (PySem.W.fnOf x x (defArgs st) (defBody st) (defScope st) .none kV dc pm an cd ct) := by
  have F := fun_mk (st := st) l c k
  exact ⟨PySem.W.mg_of KX G a, F, F.binds hb⟩
theorem all_mk {l : PySem.W.OpenLaw} {w : World} {K : PySem.W.Frag} {h : Heap} {mg : Str → Option Value} {fa : Addr} (KX : K.In h) (G : h.Ns mainGlobals mg) (hfa : mg "law" = some (.ref fa))
    {fis_name : Addr} {ocis_name kVis_name dcis_name pmis_name cdis_name ctis_name : Value} {odis_name anis_name : Option Addr} {slis_name : Array (Option Value)}
    {fis_variable : Addr} {ocis_variable kVis_variable dcis_variable pmis_variable cdis_variable ctis_variable : Value} {odis_variable anis_variable : Option Addr} {slis_variable : Array (Option Value)}
    {fis_pattern : Addr} {ocis_pattern kVis_pattern dcis_pattern pmis_pattern cdis_pattern ctis_pattern : Value} {odis_pattern anis_pattern : Option Addr} {slis_pattern : Array (Option Value)}
    {fis_fact : Addr} {ocis_fact kVis_fact dcis_fact pmis_fact cdis_fact ctis_fact : Value} {odis_fact anis_fact : Option Addr} {slis_fact : Array (Option Value)}
    {fterms_of : Addr} {octerms_of kVterms_of dcterms_of pmterms_of cdterms_of ctterms_of : Value} {odterms_of anterms_of : Option Addr} {slterms_of : Array (Option Value)}
    {fvariables_of : Addr} {ocvariables_of kVvariables_of dcvariables_of pmvariables_of cdvariables_of ctvariables_of : Value} {odvariables_of anvariables_of : Option Addr} {slvariables_of : Array (Option Value)}
    {ffilled : Addr} {ocfilled kVfilled dcfilled pmfilled cdfilled ctfilled : Value} {odfilled anfilled : Option Addr} {slfilled : Array (Option Value)}
    {fpattern_text : Addr} {ocpattern_text kVpattern_text dcpattern_text pmpattern_text cdpattern_text ctpattern_text : Value} {odpattern_text anpattern_text : Option Addr} {slpattern_text : Array (Option Value)}
    {fread_pattern : Addr} {ocread_pattern kVread_pattern dcread_pattern pmread_pattern cdread_pattern ctread_pattern : Value} {odread_pattern anread_pattern : Option Addr} {slread_pattern : Array (Option Value)}
    {f_law_source : Addr} {oc_law_source kV_law_source dc_law_source pm_law_source cd_law_source ct_law_source : Value} {od_law_source an_law_source : Option Addr} {sl_law_source : Array (Option Value)}
    {f_law_draw : Addr} {oc_law_draw kV_law_draw dc_law_draw pm_law_draw cd_law_draw ct_law_draw : Value} {od_law_draw an_law_draw : Option Addr} {sl_law_draw : Array (Option Value)}
    {f_law_name : Addr} {oc_law_name kV_law_name dc_law_name pm_law_name cd_law_name ct_law_name : Value} {od_law_name an_law_name : Option Addr} {sl_law_name : Array (Option Value)}
    {f_law_names : Addr} {oc_law_names kV_law_names dc_law_names pm_law_names cd_law_names ct_law_names : Value} {od_law_names an_law_names : Option Addr} {sl_law_names : Array (Option Value)}
    {f_law_pool : Addr} {oc_law_pool kV_law_pool dc_law_pool pm_law_pool cd_law_pool ct_law_pool : Value} {od_law_pool an_law_pool : Option Addr} {sl_law_pool : Array (Option Value)}
    {f_law_term : Addr} {oc_law_term kV_law_term dc_law_term pm_law_term cd_law_term ct_law_term : Value} {od_law_term an_law_term : Option Addr} {sl_law_term : Array (Option Value)}
    {f_law_pattern : Addr} {oc_law_pattern kV_law_pattern dc_law_pattern pm_law_pattern cd_law_pattern ct_law_pattern : Value} {od_law_pattern an_law_pattern : Option Addr} {sl_law_pattern : Array (Option Value)}
    {f_law_lot : Addr} {oc_law_lot kV_law_lot dc_law_lot pm_law_lot cd_law_lot ct_law_lot : Value} {od_law_lot an_law_lot : Option Addr} {sl_law_lot : Array (Option Value)}
    {f_law_variables : Addr} {oc_law_variables kV_law_variables dc_law_variables pm_law_variables cd_law_variables ct_law_variables : Value} {od_law_variables an_law_variables : Option Addr} {sl_law_variables : Array (Option Value)}
    {f_law_is_name : Addr} {oc_law_is_name kV_law_is_name dc_law_is_name pm_law_is_name cd_law_is_name ct_law_is_name : Value} {od_law_is_name an_law_is_name : Option Addr} {sl_law_is_name : Array (Option Value)}
    {f_law_is_term : Addr} {oc_law_is_term kV_law_is_term dc_law_is_term pm_law_is_term cd_law_is_term ct_law_is_term : Value} {od_law_is_term an_law_is_term : Option Addr} {sl_law_is_term : Array (Option Value)}
    {f_law_is_pattern : Addr} {oc_law_is_pattern kV_law_is_pattern dc_law_is_pattern pm_law_is_pattern cd_law_is_pattern ct_law_is_pattern : Value} {od_law_is_pattern an_law_is_pattern : Option Addr} {sl_law_is_pattern : Array (Option Value)}
    {f_law_odd : Addr} {oc_law_odd kV_law_odd dc_law_odd pm_law_odd cd_law_odd ct_law_odd : Value} {od_law_odd an_law_odd : Option Addr} {sl_law_odd : Array (Option Value)}
    {f_law_told : Addr} {oc_law_told kV_law_told dc_law_told pm_law_told cd_law_told ct_law_told : Value} {od_law_told an_law_told : Option Addr} {sl_law_told : Array (Option Value)}
    {f_law_due : Addr} {oc_law_due kV_law_due dc_law_due pm_law_due cd_law_due ct_law_due : Value} {od_law_due an_law_due : Option Addr} {sl_law_due : Array (Option Value)}
    {f_law_text : Addr} {oc_law_text kV_law_text dc_law_text pm_law_text cd_law_text ct_law_text : Value} {od_law_text an_law_text : Option Addr} {sl_law_text : Array (Option Value)}
    {f_law_of_text : Addr} {oc_law_of_text kV_law_of_text dc_law_of_text pm_law_of_text cd_law_of_text ct_law_of_text : Value} {od_law_of_text an_law_of_text : Option Addr} {sl_law_of_text : Array (Option Value)}
    {f_law_spoiled : Addr} {oc_law_spoiled kV_law_spoiled dc_law_spoiled pm_law_spoiled cd_law_spoiled ct_law_spoiled : Value} {od_law_spoiled an_law_spoiled : Option Addr} {sl_law_spoiled : Array (Option Value)}
    {f_law_texts : Addr} {oc_law_texts kV_law_texts dc_law_texts pm_law_texts cd_law_texts ct_law_texts : Value} {od_law_texts an_law_texts : Option Addr} {sl_law_texts : Array (Option Value)}
    {f_law_fills : Addr} {oc_law_fills kV_law_fills dc_law_fills pm_law_fills cd_law_fills ct_law_fills : Value} {od_law_fills an_law_fills : Option Addr} {sl_law_fills : Array (Option Value)}
    {f_law_by_name : Addr} {oc_law_by_name kV_law_by_name dc_law_by_name pm_law_by_name cd_law_by_name ct_law_by_name : Value} {od_law_by_name an_law_by_name : Option Addr} {sl_law_by_name : Array (Option Value)}
    {flaw : Addr} {oclaw kVlaw dclaw pmlaw cdlaw ctlaw : Value} {odlaw anlaw : Option Addr} {sllaw : Array (Option Value)}
    {tLETTERS : Tok}
    {tDIGITS : Tok}
    {tMOST_SIGNS : Tok}
    {tMOST_TERMS : Tok}
    (ais_name : PySem.W.nsIn K mainGlobals "is_name" = some (some (.ref fis_name)))
    (lis_name : K.lookup fis_name = some ⟨ocis_name, odis_name, .func (PySem.W.fnOf "is_name" "is_name" (defArgs s_is_name) (defBody s_is_name) (defScope s_is_name) .none kVis_name dcis_name pmis_name anis_name cdis_name ctis_name), slis_name⟩)
    (ccis_name : PySem.W.codeIn K cdis_name "is_name" = true)
    (kfis_name : PySem.W.keepIn K (.ref fis_name) = true)
    (ais_variable : PySem.W.nsIn K mainGlobals "is_variable" = some (some (.ref fis_variable)))
    (lis_variable : K.lookup fis_variable = some ⟨ocis_variable, odis_variable, .func (PySem.W.fnOf "is_variable" "is_variable" (defArgs s_is_variable) (defBody s_is_variable) (defScope s_is_variable) .none kVis_variable dcis_variable pmis_variable anis_variable cdis_variable ctis_variable), slis_variable⟩)
    (ccis_variable : PySem.W.codeIn K cdis_variable "is_variable" = true)
    (kfis_variable : PySem.W.keepIn K (.ref fis_variable) = true)
    (ais_pattern : PySem.W.nsIn K mainGlobals "is_pattern" = some (some (.ref fis_pattern)))
    (lis_pattern : K.lookup fis_pattern = some ⟨ocis_pattern, odis_pattern, .func (PySem.W.fnOf "is_pattern" "is_pattern" (defArgs s_is_pattern) (defBody s_is_pattern) (defScope s_is_pattern) .none kVis_pattern dcis_pattern pmis_pattern anis_pattern cdis_pattern ctis_pattern), slis_pattern⟩)
    (ccis_pattern : PySem.W.codeIn K cdis_pattern "is_pattern" = true)
    (kfis_pattern : PySem.W.keepIn K (.ref fis_pattern) = true)
    (ais_fact : PySem.W.nsIn K mainGlobals "is_fact" = some (some (.ref fis_fact)))
    (lis_fact : K.lookup fis_fact = some ⟨ocis_fact, odis_fact, .func (PySem.W.fnOf "is_fact" "is_fact" (defArgs s_is_fact) (defBody s_is_fact) (defScope s_is_fact) .none kVis_fact dcis_fact pmis_fact anis_fact cdis_fact ctis_fact), slis_fact⟩)
    (ccis_fact : PySem.W.codeIn K cdis_fact "is_fact" = true)
    (kfis_fact : PySem.W.keepIn K (.ref fis_fact) = true)
    (aterms_of : PySem.W.nsIn K mainGlobals "terms_of" = some (some (.ref fterms_of)))
    (lterms_of : K.lookup fterms_of = some ⟨octerms_of, odterms_of, .func (PySem.W.fnOf "terms_of" "terms_of" (defArgs s_terms_of) (defBody s_terms_of) (defScope s_terms_of) .none kVterms_of dcterms_of pmterms_of anterms_of cdterms_of ctterms_of), slterms_of⟩)
    (ccterms_of : PySem.W.codeIn K cdterms_of "terms_of" = true)
    (kfterms_of : PySem.W.keepIn K (.ref fterms_of) = true)
    (avariables_of : PySem.W.nsIn K mainGlobals "variables_of" = some (some (.ref fvariables_of)))
    (lvariables_of : K.lookup fvariables_of = some ⟨ocvariables_of, odvariables_of, .func (PySem.W.fnOf "variables_of" "variables_of" (defArgs s_variables_of) (defBody s_variables_of) (defScope s_variables_of) .none kVvariables_of dcvariables_of pmvariables_of anvariables_of cdvariables_of ctvariables_of), slvariables_of⟩)
    (ccvariables_of : PySem.W.codeIn K cdvariables_of "variables_of" = true)
    (kfvariables_of : PySem.W.keepIn K (.ref fvariables_of) = true)
    (afilled : PySem.W.nsIn K mainGlobals "filled" = some (some (.ref ffilled)))
    (lfilled : K.lookup ffilled = some ⟨ocfilled, odfilled, .func (PySem.W.fnOf "filled" "filled" (defArgs s_filled) (defBody s_filled) (defScope s_filled) .none kVfilled dcfilled pmfilled anfilled cdfilled ctfilled), slfilled⟩)
    (ccfilled : PySem.W.codeIn K cdfilled "filled" = true)
    (kffilled : PySem.W.keepIn K (.ref ffilled) = true)
    (apattern_text : PySem.W.nsIn K mainGlobals "pattern_text" = some (some (.ref fpattern_text)))
    (lpattern_text : K.lookup fpattern_text = some ⟨ocpattern_text, odpattern_text, .func (PySem.W.fnOf "pattern_text" "pattern_text" (defArgs s_pattern_text) (defBody s_pattern_text) (defScope s_pattern_text) .none kVpattern_text dcpattern_text pmpattern_text anpattern_text cdpattern_text ctpattern_text), slpattern_text⟩)
    (ccpattern_text : PySem.W.codeIn K cdpattern_text "pattern_text" = true)
    (kfpattern_text : PySem.W.keepIn K (.ref fpattern_text) = true)
    (aread_pattern : PySem.W.nsIn K mainGlobals "read_pattern" = some (some (.ref fread_pattern)))
    (lread_pattern : K.lookup fread_pattern = some ⟨ocread_pattern, odread_pattern, .func (PySem.W.fnOf "read_pattern" "read_pattern" (defArgs s_read_pattern) (defBody s_read_pattern) (defScope s_read_pattern) .none kVread_pattern dcread_pattern pmread_pattern anread_pattern cdread_pattern ctread_pattern), slread_pattern⟩)
    (ccread_pattern : PySem.W.codeIn K cdread_pattern "read_pattern" = true)
    (kfread_pattern : PySem.W.keepIn K (.ref fread_pattern) = true)
    (a_law_source : PySem.W.nsIn K mainGlobals "_law_source" = some (some (.ref f_law_source)))
    (l_law_source : K.lookup f_law_source = some ⟨oc_law_source, od_law_source, .func (PySem.W.fnOf "_law_source" "_law_source" (defArgs s__law_source) (defBody s__law_source) (defScope s__law_source) .none kV_law_source dc_law_source pm_law_source an_law_source cd_law_source ct_law_source), sl_law_source⟩)
    (cc_law_source : PySem.W.codeIn K cd_law_source "_law_source" = true)
    (kf_law_source : PySem.W.keepIn K (.ref f_law_source) = true)
    (a_law_draw : PySem.W.nsIn K mainGlobals "_law_draw" = some (some (.ref f_law_draw)))
    (l_law_draw : K.lookup f_law_draw = some ⟨oc_law_draw, od_law_draw, .func (PySem.W.fnOf "_law_draw" "_law_draw" (defArgs s__law_draw) (defBody s__law_draw) (defScope s__law_draw) .none kV_law_draw dc_law_draw pm_law_draw an_law_draw cd_law_draw ct_law_draw), sl_law_draw⟩)
    (cc_law_draw : PySem.W.codeIn K cd_law_draw "_law_draw" = true)
    (kf_law_draw : PySem.W.keepIn K (.ref f_law_draw) = true)
    (a_law_name : PySem.W.nsIn K mainGlobals "_law_name" = some (some (.ref f_law_name)))
    (l_law_name : K.lookup f_law_name = some ⟨oc_law_name, od_law_name, .func (PySem.W.fnOf "_law_name" "_law_name" (defArgs s__law_name) (defBody s__law_name) (defScope s__law_name) .none kV_law_name dc_law_name pm_law_name an_law_name cd_law_name ct_law_name), sl_law_name⟩)
    (cc_law_name : PySem.W.codeIn K cd_law_name "_law_name" = true)
    (kf_law_name : PySem.W.keepIn K (.ref f_law_name) = true)
    (a_law_names : PySem.W.nsIn K mainGlobals "_law_names" = some (some (.ref f_law_names)))
    (l_law_names : K.lookup f_law_names = some ⟨oc_law_names, od_law_names, .func (PySem.W.fnOf "_law_names" "_law_names" (defArgs s__law_names) (defBody s__law_names) (defScope s__law_names) .none kV_law_names dc_law_names pm_law_names an_law_names cd_law_names ct_law_names), sl_law_names⟩)
    (cc_law_names : PySem.W.codeIn K cd_law_names "_law_names" = true)
    (kf_law_names : PySem.W.keepIn K (.ref f_law_names) = true)
    (a_law_pool : PySem.W.nsIn K mainGlobals "_law_pool" = some (some (.ref f_law_pool)))
    (l_law_pool : K.lookup f_law_pool = some ⟨oc_law_pool, od_law_pool, .func (PySem.W.fnOf "_law_pool" "_law_pool" (defArgs s__law_pool) (defBody s__law_pool) (defScope s__law_pool) .none kV_law_pool dc_law_pool pm_law_pool an_law_pool cd_law_pool ct_law_pool), sl_law_pool⟩)
    (cc_law_pool : PySem.W.codeIn K cd_law_pool "_law_pool" = true)
    (kf_law_pool : PySem.W.keepIn K (.ref f_law_pool) = true)
    (a_law_term : PySem.W.nsIn K mainGlobals "_law_term" = some (some (.ref f_law_term)))
    (l_law_term : K.lookup f_law_term = some ⟨oc_law_term, od_law_term, .func (PySem.W.fnOf "_law_term" "_law_term" (defArgs s__law_term) (defBody s__law_term) (defScope s__law_term) .none kV_law_term dc_law_term pm_law_term an_law_term cd_law_term ct_law_term), sl_law_term⟩)
    (cc_law_term : PySem.W.codeIn K cd_law_term "_law_term" = true)
    (kf_law_term : PySem.W.keepIn K (.ref f_law_term) = true)
    (a_law_pattern : PySem.W.nsIn K mainGlobals "_law_pattern" = some (some (.ref f_law_pattern)))
    (l_law_pattern : K.lookup f_law_pattern = some ⟨oc_law_pattern, od_law_pattern, .func (PySem.W.fnOf "_law_pattern" "_law_pattern" (defArgs s__law_pattern) (defBody s__law_pattern) (defScope s__law_pattern) .none kV_law_pattern dc_law_pattern pm_law_pattern an_law_pattern cd_law_pattern ct_law_pattern), sl_law_pattern⟩)
    (cc_law_pattern : PySem.W.codeIn K cd_law_pattern "_law_pattern" = true)
    (kf_law_pattern : PySem.W.keepIn K (.ref f_law_pattern) = true)
    (a_law_lot : PySem.W.nsIn K mainGlobals "_law_lot" = some (some (.ref f_law_lot)))
    (l_law_lot : K.lookup f_law_lot = some ⟨oc_law_lot, od_law_lot, .func (PySem.W.fnOf "_law_lot" "_law_lot" (defArgs s__law_lot) (defBody s__law_lot) (defScope s__law_lot) .none kV_law_lot dc_law_lot pm_law_lot an_law_lot cd_law_lot ct_law_lot), sl_law_lot⟩)
    (cc_law_lot : PySem.W.codeIn K cd_law_lot "_law_lot" = true)
    (kf_law_lot : PySem.W.keepIn K (.ref f_law_lot) = true)
    (a_law_variables : PySem.W.nsIn K mainGlobals "_law_variables" = some (some (.ref f_law_variables)))
    (l_law_variables : K.lookup f_law_variables = some ⟨oc_law_variables, od_law_variables, .func (PySem.W.fnOf "_law_variables" "_law_variables" (defArgs s__law_variables) (defBody s__law_variables) (defScope s__law_variables) .none kV_law_variables dc_law_variables pm_law_variables an_law_variables cd_law_variables ct_law_variables), sl_law_variables⟩)
    (cc_law_variables : PySem.W.codeIn K cd_law_variables "_law_variables" = true)
    (kf_law_variables : PySem.W.keepIn K (.ref f_law_variables) = true)
    (a_law_is_name : PySem.W.nsIn K mainGlobals "_law_is_name" = some (some (.ref f_law_is_name)))
    (l_law_is_name : K.lookup f_law_is_name = some ⟨oc_law_is_name, od_law_is_name, .func (PySem.W.fnOf "_law_is_name" "_law_is_name" (defArgs s__law_is_name) (defBody s__law_is_name) (defScope s__law_is_name) .none kV_law_is_name dc_law_is_name pm_law_is_name an_law_is_name cd_law_is_name ct_law_is_name), sl_law_is_name⟩)
    (cc_law_is_name : PySem.W.codeIn K cd_law_is_name "_law_is_name" = true)
    (kf_law_is_name : PySem.W.keepIn K (.ref f_law_is_name) = true)
    (a_law_is_term : PySem.W.nsIn K mainGlobals "_law_is_term" = some (some (.ref f_law_is_term)))
    (l_law_is_term : K.lookup f_law_is_term = some ⟨oc_law_is_term, od_law_is_term, .func (PySem.W.fnOf "_law_is_term" "_law_is_term" (defArgs s__law_is_term) (defBody s__law_is_term) (defScope s__law_is_term) .none kV_law_is_term dc_law_is_term pm_law_is_term an_law_is_term cd_law_is_term ct_law_is_term), sl_law_is_term⟩)
    (cc_law_is_term : PySem.W.codeIn K cd_law_is_term "_law_is_term" = true)
    (kf_law_is_term : PySem.W.keepIn K (.ref f_law_is_term) = true)
    (a_law_is_pattern : PySem.W.nsIn K mainGlobals "_law_is_pattern" = some (some (.ref f_law_is_pattern)))
    (l_law_is_pattern : K.lookup f_law_is_pattern = some ⟨oc_law_is_pattern, od_law_is_pattern, .func (PySem.W.fnOf "_law_is_pattern" "_law_is_pattern" (defArgs s__law_is_pattern) (defBody s__law_is_pattern) (defScope s__law_is_pattern) .none kV_law_is_pattern dc_law_is_pattern pm_law_is_pattern an_law_is_pattern cd_law_is_pattern ct_law_is_pattern), sl_law_is_pattern⟩)
    (cc_law_is_pattern : PySem.W.codeIn K cd_law_is_pattern "_law_is_pattern" = true)
    (kf_law_is_pattern : PySem.W.keepIn K (.ref f_law_is_pattern) = true)
    (a_law_odd : PySem.W.nsIn K mainGlobals "_law_odd" = some (some (.ref f_law_odd)))
    (l_law_odd : K.lookup f_law_odd = some ⟨oc_law_odd, od_law_odd, .func (PySem.W.fnOf "_law_odd" "_law_odd" (defArgs s__law_odd) (defBody s__law_odd) (defScope s__law_odd) .none kV_law_odd dc_law_odd pm_law_odd an_law_odd cd_law_odd ct_law_odd), sl_law_odd⟩)
    (cc_law_odd : PySem.W.codeIn K cd_law_odd "_law_odd" = true)
    (kf_law_odd : PySem.W.keepIn K (.ref f_law_odd) = true)
    (a_law_told : PySem.W.nsIn K mainGlobals "_law_told" = some (some (.ref f_law_told)))
    (l_law_told : K.lookup f_law_told = some ⟨oc_law_told, od_law_told, .func (PySem.W.fnOf "_law_told" "_law_told" (defArgs s__law_told) (defBody s__law_told) (defScope s__law_told) .none kV_law_told dc_law_told pm_law_told an_law_told cd_law_told ct_law_told), sl_law_told⟩)
    (cc_law_told : PySem.W.codeIn K cd_law_told "_law_told" = true)
    (kf_law_told : PySem.W.keepIn K (.ref f_law_told) = true)
    (a_law_due : PySem.W.nsIn K mainGlobals "_law_due" = some (some (.ref f_law_due)))
    (l_law_due : K.lookup f_law_due = some ⟨oc_law_due, od_law_due, .func (PySem.W.fnOf "_law_due" "_law_due" (defArgs s__law_due) (defBody s__law_due) (defScope s__law_due) .none kV_law_due dc_law_due pm_law_due an_law_due cd_law_due ct_law_due), sl_law_due⟩)
    (cc_law_due : PySem.W.codeIn K cd_law_due "_law_due" = true)
    (kf_law_due : PySem.W.keepIn K (.ref f_law_due) = true)
    (a_law_text : PySem.W.nsIn K mainGlobals "_law_text" = some (some (.ref f_law_text)))
    (l_law_text : K.lookup f_law_text = some ⟨oc_law_text, od_law_text, .func (PySem.W.fnOf "_law_text" "_law_text" (defArgs s__law_text) (defBody s__law_text) (defScope s__law_text) .none kV_law_text dc_law_text pm_law_text an_law_text cd_law_text ct_law_text), sl_law_text⟩)
    (cc_law_text : PySem.W.codeIn K cd_law_text "_law_text" = true)
    (kf_law_text : PySem.W.keepIn K (.ref f_law_text) = true)
    (a_law_of_text : PySem.W.nsIn K mainGlobals "_law_of_text" = some (some (.ref f_law_of_text)))
    (l_law_of_text : K.lookup f_law_of_text = some ⟨oc_law_of_text, od_law_of_text, .func (PySem.W.fnOf "_law_of_text" "_law_of_text" (defArgs s__law_of_text) (defBody s__law_of_text) (defScope s__law_of_text) .none kV_law_of_text dc_law_of_text pm_law_of_text an_law_of_text cd_law_of_text ct_law_of_text), sl_law_of_text⟩)
    (cc_law_of_text : PySem.W.codeIn K cd_law_of_text "_law_of_text" = true)
    (kf_law_of_text : PySem.W.keepIn K (.ref f_law_of_text) = true)
    (a_law_spoiled : PySem.W.nsIn K mainGlobals "_law_spoiled" = some (some (.ref f_law_spoiled)))
    (l_law_spoiled : K.lookup f_law_spoiled = some ⟨oc_law_spoiled, od_law_spoiled, .func (PySem.W.fnOf "_law_spoiled" "_law_spoiled" (defArgs s__law_spoiled) (defBody s__law_spoiled) (defScope s__law_spoiled) .none kV_law_spoiled dc_law_spoiled pm_law_spoiled an_law_spoiled cd_law_spoiled ct_law_spoiled), sl_law_spoiled⟩)
    (cc_law_spoiled : PySem.W.codeIn K cd_law_spoiled "_law_spoiled" = true)
    (kf_law_spoiled : PySem.W.keepIn K (.ref f_law_spoiled) = true)
    (a_law_texts : PySem.W.nsIn K mainGlobals "_law_texts" = some (some (.ref f_law_texts)))
    (l_law_texts : K.lookup f_law_texts = some ⟨oc_law_texts, od_law_texts, .func (PySem.W.fnOf "_law_texts" "_law_texts" (defArgs s__law_texts) (defBody s__law_texts) (defScope s__law_texts) .none kV_law_texts dc_law_texts pm_law_texts an_law_texts cd_law_texts ct_law_texts), sl_law_texts⟩)
    (cc_law_texts : PySem.W.codeIn K cd_law_texts "_law_texts" = true)
    (kf_law_texts : PySem.W.keepIn K (.ref f_law_texts) = true)
    (a_law_fills : PySem.W.nsIn K mainGlobals "_law_fills" = some (some (.ref f_law_fills)))
    (l_law_fills : K.lookup f_law_fills = some ⟨oc_law_fills, od_law_fills, .func (PySem.W.fnOf "_law_fills" "_law_fills" (defArgs s__law_fills) (defBody s__law_fills) (defScope s__law_fills) .none kV_law_fills dc_law_fills pm_law_fills an_law_fills cd_law_fills ct_law_fills), sl_law_fills⟩)
    (cc_law_fills : PySem.W.codeIn K cd_law_fills "_law_fills" = true)
    (kf_law_fills : PySem.W.keepIn K (.ref f_law_fills) = true)
    (a_law_by_name : PySem.W.nsIn K mainGlobals "_law_by_name" = some (some (.ref f_law_by_name)))
    (l_law_by_name : K.lookup f_law_by_name = some ⟨oc_law_by_name, od_law_by_name, .func (PySem.W.fnOf "_law_by_name" "_law_by_name" (defArgs s__law_by_name) (defBody s__law_by_name) (defScope s__law_by_name) .none kV_law_by_name dc_law_by_name pm_law_by_name an_law_by_name cd_law_by_name ct_law_by_name), sl_law_by_name⟩)
    (cc_law_by_name : PySem.W.codeIn K cd_law_by_name "_law_by_name" = true)
    (kf_law_by_name : PySem.W.keepIn K (.ref f_law_by_name) = true)
    (alaw : PySem.W.nsIn K mainGlobals "law" = some (some (.ref flaw)))
    (llaw : K.lookup flaw = some ⟨oclaw, odlaw, .func (PySem.W.fnOf "law" "law" (defArgs s_law) (defBody s_law) (defScope s_law) .none kVlaw dclaw pmlaw anlaw cdlaw ctlaw), sllaw⟩)
    (cclaw : PySem.W.codeIn K cdlaw "law" = true)
    (kflaw : PySem.W.keepIn K (.ref flaw) = true)
    (cLETTERS : PySem.W.nsIn K mainGlobals "LETTERS" = some (some (.str "abcdefghijklmnopqrstuvwxyz" tLETTERS)))
    (cDIGITS : PySem.W.nsIn K mainGlobals "DIGITS" = some (some (.str "0123456789" tDIGITS)))
    (cMOST_SIGNS : PySem.W.nsIn K mainGlobals "MOST_SIGNS" = some (some (.int 12 tMOST_SIGNS)))
    (cMOST_TERMS : PySem.W.nsIn K mainGlobals "MOST_TERMS" = some (some (.int 3 tMOST_TERMS)))
    (zisinstance : PySem.W.nsIn K mainGlobals "isinstance" = some none)
    (zstr : PySem.W.nsIn K mainGlobals "str" = some none)
    (ztuple : PySem.W.nsIn K mainGlobals "tuple" = some none)
    (zlen : PySem.W.nsIn K mainGlobals "len" = some none)
    (zall : PySem.W.nsIn K mainGlobals "all" = some none)
    (zsorted : PySem.W.nsIn K mainGlobals "sorted" = some none)
    (zint : PySem.W.nsIn K mainGlobals "int" = some none)
    (zrange : PySem.W.nsIn K mainGlobals "range" = some none)
    (zlist : PySem.W.nsIn K mainGlobals "list" = some none) :
    ∃ fd : FuncData, (∀ (s : Shared) (v : Value), BindsTo s fd ⟨[v], []⟩ [("_law_script", v)]) ∧ ∀ base : Heap, K.In base → base.Ns mainGlobals mg → FnOk l.prog w K mg base CX0 6 fa fd ["_law_script"] (spLaw K) := by
  have e := hfa.symm.trans (PySem.W.mg_of KX G alaw)
  cases e
  have D_is_name : ∃ f fd, DefAt K mg "is_name" s_is_name ["value"] f fd := ⟨_, _, mkD (ps := ["value"]) (st := s_is_name) KX G ais_name lis_name ccis_name kfis_name (fun _ _ _ _ _ _ us hl => match us, hl with | [_], _ => rfl)⟩
  have K_is_name : ∃ f fd, DefAt K mg "is_name" s_is_name ["value"] f fd ∧ KB1 K fd "value" := ⟨_, _, mkD (ps := ["value"]) (st := s_is_name) KX G ais_name lis_name ccis_name kfis_name (fun _ _ _ _ _ _ us hl => match us, hl with | [_], _ => rfl), kb1 fun _ => rfl⟩
  have D_is_variable : ∃ f fd, DefAt K mg "is_variable" s_is_variable ["value"] f fd := ⟨_, _, mkD (ps := ["value"]) (st := s_is_variable) KX G ais_variable lis_variable ccis_variable kfis_variable (fun _ _ _ _ _ _ us hl => match us, hl with | [_], _ => rfl)⟩
  have K_is_variable : ∃ f fd, DefAt K mg "is_variable" s_is_variable ["value"] f fd ∧ KB1 K fd "value" := ⟨_, _, mkD (ps := ["value"]) (st := s_is_variable) KX G ais_variable lis_variable ccis_variable kfis_variable (fun _ _ _ _ _ _ us hl => match us, hl with | [_], _ => rfl), kb1 fun _ => rfl⟩
  have D_is_pattern : ∃ f fd, DefAt K mg "is_pattern" s_is_pattern ["value"] f fd := ⟨_, _, mkD (ps := ["value"]) (st := s_is_pattern) KX G ais_pattern lis_pattern ccis_pattern kfis_pattern (fun _ _ _ _ _ _ us hl => match us, hl with | [_], _ => rfl)⟩
  have K_is_pattern : ∃ f fd, DefAt K mg "is_pattern" s_is_pattern ["value"] f fd ∧ KB1 K fd "value" := ⟨_, _, mkD (ps := ["value"]) (st := s_is_pattern) KX G ais_pattern lis_pattern ccis_pattern kfis_pattern (fun _ _ _ _ _ _ us hl => match us, hl with | [_], _ => rfl), kb1 fun _ => rfl⟩
  have D_is_fact : ∃ f fd, DefAt K mg "is_fact" s_is_fact ["value"] f fd := ⟨_, _, mkD (ps := ["value"]) (st := s_is_fact) KX G ais_fact lis_fact ccis_fact kfis_fact (fun _ _ _ _ _ _ us hl => match us, hl with | [_], _ => rfl)⟩
  have K_is_fact : ∃ f fd, DefAt K mg "is_fact" s_is_fact ["value"] f fd ∧ KB1 K fd "value" := ⟨_, _, mkD (ps := ["value"]) (st := s_is_fact) KX G ais_fact lis_fact ccis_fact kfis_fact (fun _ _ _ _ _ _ us hl => match us, hl with | [_], _ => rfl), kb1 fun _ => rfl⟩
  have D_terms_of : ∃ f fd, DefAt K mg "terms_of" s_terms_of ["lot"] f fd := ⟨_, _, mkD (ps := ["lot"]) (st := s_terms_of) KX G aterms_of lterms_of ccterms_of kfterms_of (fun _ _ _ _ _ _ us hl => match us, hl with | [_], _ => rfl)⟩
  have D_variables_of : ∃ f fd, DefAt K mg "variables_of" s_variables_of ["lot"] f fd := ⟨_, _, mkD (ps := ["lot"]) (st := s_variables_of) KX G avariables_of lvariables_of ccvariables_of kfvariables_of (fun _ _ _ _ _ _ us hl => match us, hl with | [_], _ => rfl)⟩
  have K_variables_of : ∃ f fd, DefAt K mg "variables_of" s_variables_of ["lot"] f fd ∧ KB1 K fd "lot" := ⟨_, _, mkD (ps := ["lot"]) (st := s_variables_of) KX G avariables_of lvariables_of ccvariables_of kfvariables_of (fun _ _ _ _ _ _ us hl => match us, hl with | [_], _ => rfl), kb1 fun _ => rfl⟩
  have D_filled : ∃ f fd, DefAt K mg "filled" s_filled ["pattern", "known"] f fd := ⟨_, _, mkD (ps := ["pattern", "known"]) (st := s_filled) KX G afilled lfilled ccfilled kffilled (fun _ _ _ _ _ _ us hl => match us, hl with | [_, _], _ => rfl)⟩
  have K_filled : ∃ f fd, DefAt K mg "filled" s_filled ["pattern", "known"] f fd ∧ KB2 K fd "pattern" "known" := ⟨_, _, mkD (ps := ["pattern", "known"]) (st := s_filled) KX G afilled lfilled ccfilled kffilled (fun _ _ _ _ _ _ us hl => match us, hl with | [_, _], _ => rfl), kb2 fun _ _ => rfl⟩
  have D_pattern_text : ∃ f fd, DefAt K mg "pattern_text" s_pattern_text ["pattern"] f fd := ⟨_, _, mkD (ps := ["pattern"]) (st := s_pattern_text) KX G apattern_text lpattern_text ccpattern_text kfpattern_text (fun _ _ _ _ _ _ us hl => match us, hl with | [_], _ => rfl)⟩
  have K_pattern_text : ∃ f fd, DefAt K mg "pattern_text" s_pattern_text ["pattern"] f fd ∧ KB1 K fd "pattern" := ⟨_, _, mkD (ps := ["pattern"]) (st := s_pattern_text) KX G apattern_text lpattern_text ccpattern_text kfpattern_text (fun _ _ _ _ _ _ us hl => match us, hl with | [_], _ => rfl), kb1 fun _ => rfl⟩
  have D_read_pattern : ∃ f fd, DefAt K mg "read_pattern" s_read_pattern ["text"] f fd := ⟨_, _, mkD (ps := ["text"]) (st := s_read_pattern) KX G aread_pattern lread_pattern ccread_pattern kfread_pattern (fun _ _ _ _ _ _ us hl => match us, hl with | [_], _ => rfl)⟩
  have K_read_pattern : ∃ f fd, DefAt K mg "read_pattern" s_read_pattern ["text"] f fd ∧ KB1 K fd "text" := ⟨_, _, mkD (ps := ["text"]) (st := s_read_pattern) KX G aread_pattern lread_pattern ccread_pattern kfread_pattern (fun _ _ _ _ _ _ us hl => match us, hl with | [_], _ => rfl), kb1 fun _ => rfl⟩
  have D__law_source : ∃ f fd, DefAt K mg "_law_source" s__law_source ["_law_cell"] f fd := ⟨_, _, mkD (ps := ["_law_cell"]) (st := s__law_source) KX G a_law_source l_law_source cc_law_source kf_law_source (fun _ _ _ _ _ _ us hl => match us, hl with | [_], _ => rfl)⟩
  have D__law_draw : ∃ f fd, DefAt K mg "_law_draw" s__law_draw ["_law_source_here", "_law_limit"] f fd := ⟨_, _, mkD (ps := ["_law_source_here", "_law_limit"]) (st := s__law_draw) KX G a_law_draw l_law_draw cc_law_draw kf_law_draw (fun _ _ _ _ _ _ us hl => match us, hl with | [_, _], _ => rfl)⟩
  have D__law_name : ∃ f fd, DefAt K mg "_law_name" s__law_name ["_law_source_here"] f fd := ⟨_, _, mkD (ps := ["_law_source_here"]) (st := s__law_name) KX G a_law_name l_law_name cc_law_name kf_law_name (fun _ _ _ _ _ _ us hl => match us, hl with | [_], _ => rfl)⟩
  have D__law_names : ∃ f fd, DefAt K mg "_law_names" s__law_names ["_law_source_here", "_law_many"] f fd := ⟨_, _, mkD (ps := ["_law_source_here", "_law_many"]) (st := s__law_names) KX G a_law_names l_law_names cc_law_names kf_law_names (fun _ _ _ _ _ _ us hl => match us, hl with | [_, _], _ => rfl)⟩
  have D__law_pool : ∃ f fd, DefAt K mg "_law_pool" s__law_pool ["_law_source_here"] f fd := ⟨_, _, mkD (ps := ["_law_source_here"]) (st := s__law_pool) KX G a_law_pool l_law_pool cc_law_pool kf_law_pool (fun _ _ _ _ _ _ us hl => match us, hl with | [_], _ => rfl)⟩
  have D__law_term : ∃ f fd, DefAt K mg "_law_term" s__law_term ["_law_source_here", "_law_pool_here", "_law_variables_here", "_law_share"] f fd := ⟨_, _, mkD (ps := ["_law_source_here", "_law_pool_here", "_law_variables_here", "_law_share"]) (st := s__law_term) KX G a_law_term l_law_term cc_law_term kf_law_term (fun _ _ _ _ _ _ us hl => match us, hl with | [_, _, _, _], _ => rfl)⟩
  have D__law_pattern : ∃ f fd, DefAt K mg "_law_pattern" s__law_pattern ["_law_source_here", "_law_pool_here", "_law_variables_here", "_law_share"] f fd := ⟨_, _, mkD (ps := ["_law_source_here", "_law_pool_here", "_law_variables_here", "_law_share"]) (st := s__law_pattern) KX G a_law_pattern l_law_pattern cc_law_pattern kf_law_pattern (fun _ _ _ _ _ _ us hl => match us, hl with | [_, _, _, _], _ => rfl)⟩
  have D__law_lot : ∃ f fd, DefAt K mg "_law_lot" s__law_lot ["_law_source_here", "_law_pool_here", "_law_variables_here", "_law_most"] f fd := ⟨_, _, mkD (ps := ["_law_source_here", "_law_pool_here", "_law_variables_here", "_law_most"]) (st := s__law_lot) KX G a_law_lot l_law_lot cc_law_lot kf_law_lot (fun _ _ _ _ _ _ us hl => match us, hl with | [_, _, _, _], _ => rfl)⟩
  have D__law_variables : ∃ f fd, DefAt K mg "_law_variables" s__law_variables ["_law_lot_here"] f fd := ⟨_, _, mkD (ps := ["_law_lot_here"]) (st := s__law_variables) KX G a_law_variables l_law_variables cc_law_variables kf_law_variables (fun _ _ _ _ _ _ us hl => match us, hl with | [_], _ => rfl)⟩
  have D__law_is_name : ∃ f fd, DefAt K mg "_law_is_name" s__law_is_name ["_law_value"] f fd := ⟨_, _, mkD (ps := ["_law_value"]) (st := s__law_is_name) KX G a_law_is_name l_law_is_name cc_law_is_name kf_law_is_name (fun _ _ _ _ _ _ us hl => match us, hl with | [_], _ => rfl)⟩
  have D__law_is_term : ∃ f fd, DefAt K mg "_law_is_term" s__law_is_term ["_law_value", "_law_open_too"] f fd := ⟨_, _, mkD (ps := ["_law_value", "_law_open_too"]) (st := s__law_is_term) KX G a_law_is_term l_law_is_term cc_law_is_term kf_law_is_term (fun _ _ _ _ _ _ us hl => match us, hl with | [_, _], _ => rfl)⟩
  have D__law_is_pattern : ∃ f fd, DefAt K mg "_law_is_pattern" s__law_is_pattern ["_law_value", "_law_open_too"] f fd := ⟨_, _, mkD (ps := ["_law_value", "_law_open_too"]) (st := s__law_is_pattern) KX G a_law_is_pattern l_law_is_pattern cc_law_is_pattern kf_law_is_pattern (fun _ _ _ _ _ _ us hl => match us, hl with | [_, _], _ => rfl)⟩
  have D__law_odd : ∃ f fd, DefAt K mg "_law_odd" s__law_odd ["_law_source_here", "_law_pattern_here"] f fd := ⟨_, _, mkD (ps := ["_law_source_here", "_law_pattern_here"]) (st := s__law_odd) KX G a_law_odd l_law_odd cc_law_odd kf_law_odd (fun _ _ _ _ _ _ us hl => match us, hl with | [_, _], _ => rfl)⟩
  have D__law_told : ∃ f fd, DefAt K mg "_law_told" s__law_told ["_law_value"] f fd := ⟨_, _, mkD (ps := ["_law_value"]) (st := s__law_told) KX G a_law_told l_law_told cc_law_told kf_law_told (fun _ _ _ _ _ _ us hl => match us, hl with | [_], _ => rfl)⟩
  have D__law_due : ∃ f fd, DefAt K mg "_law_due" s__law_due ["_law_value"] f fd := ⟨_, _, mkD (ps := ["_law_value"]) (st := s__law_due) KX G a_law_due l_law_due cc_law_due kf_law_due (fun _ _ _ _ _ _ us hl => match us, hl with | [_], _ => rfl)⟩
  have D__law_text : ∃ f fd, DefAt K mg "_law_text" s__law_text ["_law_pattern_here"] f fd := ⟨_, _, mkD (ps := ["_law_pattern_here"]) (st := s__law_text) KX G a_law_text l_law_text cc_law_text kf_law_text (fun _ _ _ _ _ _ us hl => match us, hl with | [_], _ => rfl)⟩
  have D__law_of_text : ∃ f fd, DefAt K mg "_law_of_text" s__law_of_text ["_law_text_here"] f fd := ⟨_, _, mkD (ps := ["_law_text_here"]) (st := s__law_of_text) KX G a_law_of_text l_law_of_text cc_law_of_text kf_law_of_text (fun _ _ _ _ _ _ us hl => match us, hl with | [_], _ => rfl)⟩
  have D__law_spoiled : ∃ f fd, DefAt K mg "_law_spoiled" s__law_spoiled ["_law_source_here", "_law_text_here"] f fd := ⟨_, _, mkD (ps := ["_law_source_here", "_law_text_here"]) (st := s__law_spoiled) KX G a_law_spoiled l_law_spoiled cc_law_spoiled kf_law_spoiled (fun _ _ _ _ _ _ us hl => match us, hl with | [_, _], _ => rfl)⟩
  have D__law_texts : ∃ f fd, DefAt K mg "_law_texts" s__law_texts ["_law_source_here", "_law_pattern_here"] f fd := ⟨_, _, mkD (ps := ["_law_source_here", "_law_pattern_here"]) (st := s__law_texts) KX G a_law_texts l_law_texts cc_law_texts kf_law_texts (fun _ _ _ _ _ _ us hl => match us, hl with | [_, _], _ => rfl)⟩
  have D__law_fills : ∃ f fd, DefAt K mg "_law_fills" s__law_fills ["_law_pool_here", "_law_pattern_here"] f fd := ⟨_, _, mkD (ps := ["_law_pool_here", "_law_pattern_here"]) (st := s__law_fills) KX G a_law_fills l_law_fills cc_law_fills kf_law_fills (fun _ _ _ _ _ _ us hl => match us, hl with | [_, _], _ => rfl)⟩
  have D__law_by_name : ∃ f fd, DefAt K mg "_law_by_name" s__law_by_name ["_law_pattern_here"] f fd := ⟨_, _, mkD (ps := ["_law_pattern_here"]) (st := s__law_by_name) KX G a_law_by_name l_law_by_name cc_law_by_name kf_law_by_name (fun _ _ _ _ _ _ us hl => match us, hl with | [_], _ => rfl)⟩
  have c_LETTERS : ∃ t, mg "LETTERS" = some (.str "abcdefghijklmnopqrstuvwxyz" t) := ⟨_, PySem.W.mg_of KX G cLETTERS⟩
  have c_DIGITS : ∃ t, mg "DIGITS" = some (.str "0123456789" t) := ⟨_, PySem.W.mg_of KX G cDIGITS⟩
  have c_MOST_SIGNS : ∃ t, mg "MOST_SIGNS" = some (.int 12 t) := ⟨_, PySem.W.mg_of KX G cMOST_SIGNS⟩
  have c_MOST_TERMS : ∃ t, mg "MOST_TERMS" = some (.int 3 t) := ⟨_, PySem.W.mg_of KX G cMOST_TERMS⟩
  have z_isinstance : mg "isinstance" = none := PySem.W.mg_none_of KX G zisinstance
  have z_str : mg "str" = none := PySem.W.mg_none_of KX G zstr
  have z_tuple : mg "tuple" = none := PySem.W.mg_none_of KX G ztuple
  have z_len : mg "len" = none := PySem.W.mg_none_of KX G zlen
  have z_all : mg "all" = none := PySem.W.mg_none_of KX G zall
  have z_sorted : mg "sorted" = none := PySem.W.mg_none_of KX G zsorted
  have z_int : mg "int" = none := PySem.W.mg_none_of KX G zint
  have z_range : mg "range" = none := PySem.W.mg_none_of KX G zrange
  have z_list : mg "list" = none := PySem.W.mg_none_of KX G zlist
  have T : TZ K mg := have n : TN K mg := { m_isinstance := z_isinstance, m_str := z_str, m_tuple := z_tuple, m_len := z_len, m_all := z_all, c_LETTERS := c_LETTERS, c_DIGITS := c_DIGITS, c_MOST_SIGNS := c_MOST_SIGNS, c_MOST_TERMS := c_MOST_TERMS, is_name := D_is_name, is_variable := D_is_variable, is_pattern := D_is_pattern }
    have v : TV K mg := { n := n, m_sorted := z_sorted, terms_of := D_terms_of }
    have l : TL K mg := { n := n, is_fact := D_is_fact, _law_is_name := D__law_is_name, _law_is_term := D__law_is_term, _law_is_pattern := D__law_is_pattern }
    have d : TD K mg := { m_int := z_int, m_range := z_range, m_len := z_len, m_str := z_str, m_tuple := z_tuple, m_list := z_list, _law_draw := D__law_draw, _law_name := D__law_name }
    have p : TP K mg := { d := d, _law_names := D__law_names }
    { g := { p := p, _law_term := D__law_term, _law_pattern := D__law_pattern }, x := { d := d, l := l, read_pattern := D_read_pattern, pattern_text := D_pattern_text, _law_text := D__law_text, _law_of_text := D__law_of_text, _law_spoiled := D__law_spoiled }, b := { v := v, l := l, is_name := K_is_name, is_variable := K_is_variable, is_pattern := K_is_pattern, is_fact := K_is_fact, variables_of := K_variables_of, filled := K_filled, read_pattern := K_read_pattern, pattern_text := K_pattern_text }, m_list := z_list, m_sorted := z_sorted, is_name := D_is_name, variables_of := D_variables_of, filled := D_filled, _law_source := D__law_source, _law_pool := D__law_pool, _law_lot := D__law_lot, _law_variables := D__law_variables, _law_texts := D__law_texts, _law_told := D__law_told, _law_due := D__law_due, _law_odd := D__law_odd, _law_fills := D__law_fills, _law_by_name := D__law_by_name }
  have F := fun_mk (st := s_law) llaw cclaw kflaw
  exact ⟨_, fun s v => .of_eq rfl, fun base _ _ => ok_law T F⟩
theorem walk {l : PySem.W.OpenLaw} {q : Program} {loose : List Str} {XP : (Str → Option Value) → Heap → Prop} {YP : World → Heap → Prop} {d : DefRec} {K : Params → PySem.W.Frag} (hn : l.most = some 63) (hdf : d.params.defaults = [])
    (hY : ∀ (w : World) (h : Heap), YP w h → (K w.params).In h)
    (F : ∀ (w : World) (mg : Str → Option Value) (fa : Addr) (h : Heap), (K w.params).In h → h.Ns mainGlobals mg → mg d.name = some (.ref fa) →
      ∃ fd : FuncData, (∀ (s : Shared) (u : Value), BindsTo s fd ⟨[u], []⟩ [("_law_script", u)]) ∧ ∀ base : Heap, (K w.params).In base → base.Ns mainGlobals mg → FnOk l.prog w (K w.params) mg base CX0 6 fa fd ["_law_script"] (spLaw (K w.params))) :
    PySem.W.WalkO q loose XP YP l.row.toRowW d [] (fun f vs => PySem.call f vs) :=
  L2.walk_ofB (n := 63) (k := 6) (x := "_law_script") (CX := fun _ => CX0) (sp := fun w => spLaw (K w.params)) hn (by decide) hdf ⟨rfl, by decide, by decide⟩ hY F (fun w H a ns hl hb _ hS => ⟨a, ns, rfl, hS, hb, hl, fun _ => rfl⟩) fun _ _ _ _ _ z => z
end G39

open PySem PySem.W PyProof.Rows
set_option maxRecDepth 100000 in
set_option maxHeartbeats 0 in
theorem PySem.Challenge.cw_fullestrows_k01_names_and_patterns_holds : PySem.Challenge.rw_fullestrows_k01_names_and_patterns.Holds := by
  w_on; o_law; k_head; (case hw => w_witness2)
  k_fill
  refine G39.walk (l := PySem.Challenge.rw_fullestrows_k01_names_and_patterns) rfl rfl (fun w h Y => PySem.W.kIn_of Y) ?F
  case F =>
    intro w mg fa h KX G hmg
    refine' G39.all_mk KX G hmg ?ais_name ?lis_name ?ccis_name ?kfis_name ?ais_variable ?lis_variable ?ccis_variable ?kfis_variable ?ais_pattern ?lis_pattern ?ccis_pattern ?kfis_pattern ?ais_fact ?lis_fact ?ccis_fact ?kfis_fact ?aterms_of ?lterms_of ?ccterms_of ?kfterms_of ?avariables_of ?lvariables_of ?ccvariables_of ?kfvariables_of ?afilled ?lfilled ?ccfilled ?kffilled ?apattern_text ?lpattern_text ?ccpattern_text ?kfpattern_text ?aread_pattern ?lread_pattern ?ccread_pattern ?kfread_pattern ?a_law_source ?l_law_source ?cc_law_source ?kf_law_source ?a_law_draw ?l_law_draw ?cc_law_draw ?kf_law_draw ?a_law_name ?l_law_name ?cc_law_name ?kf_law_name ?a_law_names ?l_law_names ?cc_law_names ?kf_law_names ?a_law_pool ?l_law_pool ?cc_law_pool ?kf_law_pool ?a_law_term ?l_law_term ?cc_law_term ?kf_law_term ?a_law_pattern ?l_law_pattern ?cc_law_pattern ?kf_law_pattern ?a_law_lot ?l_law_lot ?cc_law_lot ?kf_law_lot ?a_law_variables ?l_law_variables ?cc_law_variables ?kf_law_variables ?a_law_is_name ?l_law_is_name ?cc_law_is_name ?kf_law_is_name ?a_law_is_term ?l_law_is_term ?cc_law_is_term ?kf_law_is_term ?a_law_is_pattern ?l_law_is_pattern ?cc_law_is_pattern ?kf_law_is_pattern ?a_law_odd ?l_law_odd ?cc_law_odd ?kf_law_odd ?a_law_told ?l_law_told ?cc_law_told ?kf_law_told ?a_law_due ?l_law_due ?cc_law_due ?kf_law_due ?a_law_text ?l_law_text ?cc_law_text ?kf_law_text ?a_law_of_text ?l_law_of_text ?cc_law_of_text ?kf_law_of_text ?a_law_spoiled ?l_law_spoiled ?cc_law_spoiled ?kf_law_spoiled ?a_law_texts ?l_law_texts ?cc_law_texts ?kf_law_texts ?a_law_fills ?l_law_fills ?cc_law_fills ?kf_law_fills ?a_law_by_name ?l_law_by_name ?cc_law_by_name ?kf_law_by_name ?alaw ?llaw ?cclaw ?kflaw ?cLETTERS ?cDIGITS ?cMOST_SIGNS ?cMOST_TERMS ?zisinstance ?zstr ?ztuple ?zlen ?zall ?zsorted ?zint ?zrange ?zlist
    (case ais_name => k_is)
    (case lis_name => k_is)
    (case ccis_name => k_is)
    (case kfis_name => k_is)
    (case ais_variable => k_is)
    (case lis_variable => k_is)
    (case ccis_variable => k_is)
    (case kfis_variable => k_is)
    (case ais_pattern => k_is)
    (case lis_pattern => k_is)
    (case ccis_pattern => k_is)
    (case kfis_pattern => k_is)
    (case ais_fact => k_is)
    (case lis_fact => k_is)
    (case ccis_fact => k_is)
    (case kfis_fact => k_is)
    (case aterms_of => k_is)
    (case lterms_of => k_is)
    (case ccterms_of => k_is)
    (case kfterms_of => k_is)
    (case avariables_of => k_is)
    (case lvariables_of => k_is)
    (case ccvariables_of => k_is)
    (case kfvariables_of => k_is)
    (case afilled => k_is)
    (case lfilled => k_is)
    (case ccfilled => k_is)
    (case kffilled => k_is)
    (case apattern_text => k_is)
    (case lpattern_text => k_is)
    (case ccpattern_text => k_is)
    (case kfpattern_text => k_is)
    (case aread_pattern => k_is)
    (case lread_pattern => k_is)
    (case ccread_pattern => k_is)
    (case kfread_pattern => k_is)
    (case a_law_source => k_is)
    (case l_law_source => k_is)
    (case cc_law_source => k_is)
    (case kf_law_source => k_is)
    (case a_law_draw => k_is)
    (case l_law_draw => k_is)
    (case cc_law_draw => k_is)
    (case kf_law_draw => k_is)
    (case a_law_name => k_is)
    (case l_law_name => k_is)
    (case cc_law_name => k_is)
    (case kf_law_name => k_is)
    (case a_law_names => k_is)
    (case l_law_names => k_is)
    (case cc_law_names => k_is)
    (case kf_law_names => k_is)
    (case a_law_pool => k_is)
    (case l_law_pool => k_is)
    (case cc_law_pool => k_is)
    (case kf_law_pool => k_is)
    (case a_law_term => k_is)
    (case l_law_term => k_is)
    (case cc_law_term => k_is)
    (case kf_law_term => k_is)
    (case a_law_pattern => k_is)
    (case l_law_pattern => k_is)
    (case cc_law_pattern => k_is)
    (case kf_law_pattern => k_is)
    (case a_law_lot => k_is)
    (case l_law_lot => k_is)
    (case cc_law_lot => k_is)
    (case kf_law_lot => k_is)
    (case a_law_variables => k_is)
    (case l_law_variables => k_is)
    (case cc_law_variables => k_is)
    (case kf_law_variables => k_is)
    (case a_law_is_name => k_is)
    (case l_law_is_name => k_is)
    (case cc_law_is_name => k_is)
    (case kf_law_is_name => k_is)
    (case a_law_is_term => k_is)
    (case l_law_is_term => k_is)
    (case cc_law_is_term => k_is)
    (case kf_law_is_term => k_is)
    (case a_law_is_pattern => k_is)
    (case l_law_is_pattern => k_is)
    (case cc_law_is_pattern => k_is)
    (case kf_law_is_pattern => k_is)
    (case a_law_odd => k_is)
    (case l_law_odd => k_is)
    (case cc_law_odd => k_is)
    (case kf_law_odd => k_is)
    (case a_law_told => k_is)
    (case l_law_told => k_is)
    (case cc_law_told => k_is)
    (case kf_law_told => k_is)
    (case a_law_due => k_is)
    (case l_law_due => k_is)
    (case cc_law_due => k_is)
    (case kf_law_due => k_is)
    (case a_law_text => k_is)
    (case l_law_text => k_is)
    (case cc_law_text => k_is)
    (case kf_law_text => k_is)
    (case a_law_of_text => k_is)
    (case l_law_of_text => k_is)
    (case cc_law_of_text => k_is)
    (case kf_law_of_text => k_is)
    (case a_law_spoiled => k_is)
    (case l_law_spoiled => k_is)
    (case cc_law_spoiled => k_is)
    (case kf_law_spoiled => k_is)
    (case a_law_texts => k_is)
    (case l_law_texts => k_is)
    (case cc_law_texts => k_is)
    (case kf_law_texts => k_is)
    (case a_law_fills => k_is)
    (case l_law_fills => k_is)
    (case cc_law_fills => k_is)
    (case kf_law_fills => k_is)
    (case a_law_by_name => k_is)
    (case l_law_by_name => k_is)
    (case cc_law_by_name => k_is)
    (case kf_law_by_name => k_is)
    (case alaw => k_is)
    (case llaw => k_is)
    (case cclaw => k_is)
    (case kflaw => k_is)
    (case cLETTERS => k_is)
    (case cDIGITS => k_is)
    (case cMOST_SIGNS => k_is)
    (case cMOST_TERMS => k_is)
    (case zisinstance => k_is)
    (case zstr => k_is)
    (case ztuple => k_is)
    (case zlen => k_is)
    (case zall => k_is)
    (case zsorted => k_is)
    (case zint => k_is)
    (case zrange => k_is)
    (case zlist => k_is)
