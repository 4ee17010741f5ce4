import PyProof.Rows.All
import Wide.All
import OpenK.AllK
import Wide.FinOn
import HandS.ForMost
import HandS.Set
import HandS.SetBool
import HandS.More
import HandS.EndBits
import HandS.Evl
import HandS.IsInst
import HandS.TupAny
import HandS.TupMul
import HandS.Star
import HandS.FStr
import HandS.RaiseMore
import HandS.TryOnly
import HandS.Walk
import PyProof.Rows.StrPartPair
import PyProof.StrLawsTight
import PyProof.StrLawsChain
import PyProof.Rows.StrItems
import PyProof.Rows.StrSplitJoin
import PyProof.StrOps2
import HandS.TupSets
import HandS.SortOrd
import PyProof.WalksMore
import PyProof.TupleIter
import HandS.DictComp
import HandS.SlotsOwn
import PyProof.InstNe
import PyProof.FactsAll.object_2
import HandS.DeepEq
import HandS.Flow
import HandS.Style
import HandS.Defaults
import HandS.Deep
import KE.LtSeq
import HandS.Property
import HandS.ExcInit
import HandS.ExcField
import HandS.ClsMeth
import HandS.WordsExc
import HandS.OwnEq
import HandS.Zip
import KE.KEqDict
import KE.KSortTup
import KE.KDictPairs
import HandS.Finally
import PySem.Challenge.RW_fullestrows_k07_maps_themselves
set_option Elab.async false
set_option linter.all false
set_option maxRecDepth 100000
set_option maxHeartbeats 4000000
/-! sets of texts: made by a comprehension, sorted -/
namespace G39
open PySem PySem.Spec PyProof.Rows L2
/-- a row of a set of texts -/
def keyT (e : Int × Value) : Str := match e.2 with | .str k _ => k | _ => Str.empty
def RowT (w : World) (e : Int × Value) : Prop := ∃ k tk, e.2 = Value.str k tk ∧ e.1 = hashStr w k
/-- the set of texts at a: its members as they came first, each once; its table rises and can be walked -/
def SetT (w : World) (h : Heap) (a : Addr) (L : List Str) : Prop :=
  ∃ o es ep t, h.get? a = some o ∧ o.ExactSet ∧ o.data = .set es ep t ∧ (∀ e ∈ es.toList, RowT w e) ∧ L.Nodup ∧ (es.toList.map keyT).Perm L ∧
    es.size < scanBound ∧ t.fits es.size = true ∧ Ris t.place.toList ∧ (w.params.followText "set-order" = true ∨ t.led = true)
section
variable {P : Program} {w : World} {A : Around} {E : Value → Shared → Prop} {s : Shared} {a : Addr} {L : List Str}
theorem SetT.at {h h' : Heap} (R : SetT w h a L) (k : ∀ o, h.get? a = some o → h'.get? a = some o) : SetT w h' a L := by
  obtain ⟨o, es, ep, t, ho, r⟩ := R
  exact ⟨o, es, ep, t, k o ho, r⟩
theorem SetT.len {h : Heap} (R : SetT w h a L) : ∃ o es ep t, h.get? a = some o ∧ o.data = .set es ep t ∧ es.size = L.length := by
  obtain ⟨o, es, ep, t, ho, _, hd, _, _, pm, _⟩ := R
  refine ⟨o, es, ep, t, ho, hd, ?_⟩
  rw [← pm.length_eq, List.length_map, Array.length_toList]
theorem row_elems {l : List (Int × Value)} (g : ∀ e ∈ l, RowT w e) : ElemsOf (strKind P w) l := fun e he => by
  obtain ⟨k, tk, h1, h2⟩ := g e he
  exact ⟨⟨k, by rw [h1]; exact strKind_is P w k tk, h2⟩, by rw [h1] <;> rfl⟩
theorem row_is {e : Int × Value} (g : RowT w e) (k : Str) : (strKind P w).is k e.2 = true ↔ keyT e = k := by
  obtain ⟨k0, tk, h1, _⟩ := g
  unfold keyT
  rw [h1]
  show (decide (k0 = k) = true) ↔ k0 = k
  exact decide_eq_true_iff
theorem row_mem {l : List (Int × Value)} (g : ∀ e ∈ l, RowT w e) (k : Str) : k ∈ l.map keyT ↔ ∃ e ∈ l, (strKind P w).is k e.2 = true := by
  rw [List.mem_map]
  constructor
  · rintro ⟨e, he, q⟩
    exact ⟨e, he, (row_is (g e he) k).2 q⟩
  · rintro ⟨e, he, q⟩
    exact ⟨e, he, (row_is (g e he) k).1 q⟩
theorem putRow_at {h : Heap} {o : Obj} {es es' : Array (Int × Value)} {ep : Nat} {t t' : SetTable} (ho : h.get? a = some o) (hd : o.data = .set es ep t) :
    (h.update a (Obj.putSet es' t')).get? a = some { o with data := .set es' (ep + 1) t' } := by
  have q := Heap.get?_update_self (Obj.putSet es' t') ho (by rw [putSet_of es' t' hd]; rfl)
  rw [putSet_of es' t' hd] at q
  exact q
/-- the rows are laid, and the table grows where it is too full -/
theorem setT_tail {g : Bool → Sem Unit} (hg : ∀ (b : Bool) (s₁ : Shared) (Q' : Unit → Shared → Prop), Q' () s₁ → wpAny (model P w) A (g b) Q' E s₁)
    {o : Obj} {es : Array (Int × Value)} {ep : Nat} {t : SetTable} (ho : s.heap.get? a = some o) (hex : o.ExactSet) (hd : o.data = .set es ep t)
    {es1 : Array (Int × Value)} {t2 : SetTable} {M : List Str} (g1 : ∀ e ∈ es1.toList, RowT w e) (nd : M.Nodup) (m1 : (es1.toList.map keyT).Perm M)
    (hb1 : es1.size < scanBound) (hf2 : t2.fits es1.size = true) (hr : Ris t2.place.toList) (hl : w.params.followText "set-order" = true ∨ t2.led = true) {wasDummy : Bool} {R : Option Bool → Shared → Prop}
    (hR : ∀ h', Heap.SameBut a s.heap h' → SetT w h' a M → R (some true) { s with heap := h' }) :
    wpAny (model P w) A (do
        storeSet a es1 t2
        if (!wasDummy && t2.tooFull) = true then do
            g (relayAll t2 es1 (SetTable.grown es1.size)).2.2
            storeSet a (relayAll t2 es1 (SetTable.grown es1.size)).1 (relayAll t2 es1 (SetTable.grown es1.size)).2.1
            pure (some true)
          else pure (some true)) R E s := by
  refine wpAny_bind (wpAny_storeSet_of ho hd ?_ (fits_of_scanBound hb1))
  have o1 := putRow_at (es' := es1) (t' := t2) ho hd
  have b1 := Heap.SameBut.update s.heap a (Obj.putSet es1 t2)
  split
  · have pm := relayAll_perm t2 es1 (SetTable.grown es1.size)
    have f3 := relayAll_fits t2 es1 (SetTable.grown es1.size)
    have r3 := relayAll_ris t2 es1 (SetTable.grown es1.size)
    have l3 := relayAll_led t2 es1 (SetTable.grown es1.size)
    generalize relayAll t2 es1 (SetTable.grown es1.size) = Z at pm f3 r3 l3 ⊢
    obtain ⟨es2, t3, gave⟩ := Z
    dsimp only at pm f3 r3 l3 ⊢
    have hsz : es2.size = es1.size := by
      rw [← Array.length_toList, pm.length_eq, Array.length_toList]
    have hb2 : es2.size < scanBound := by
      rw [hsz]
      exact hb1
    refine wpAny_bind (hg _ _ _ ?_)
    refine wpAny_bind (wpAny_storeSet_of o1 rfl ?_ (fits_of_scanBound hb2))
    have o2 := putRow_at (es' := es2) (t' := t3) o1 rfl
    refine wpAny_pure (hR _ (b1.trans (Heap.SameBut.update _ a _)) ?_)
    exact ⟨_, es2, _, t3, o2, hex, rfl, fun e he => g1 e (pm.mem_iff.mp he), nd, (pm.map keyT).trans m1, hb2, f3, r3, hl.imp id fun z => by rw [l3]; exact z⟩
  · exact wpAny_pure (hR _ b1 ⟨_, es1, _, t2, o1, hex, rfl, g1, nd, m1, hb1, hf2, hr, hl⟩)
/-- the members with one more, behind the others -/
def plus (L : List Str) (k : Str) : List Str := if k ∈ L then L else L ++ [k]
theorem setT_hashed {k : Str} {tk : Tok} {Q : Bool → Shared → Prop} (R : SetT w s.heap a L) (room : L.length + 1 < scanBound)
    (hQ : ∀ (b : Bool) h', Heap.SameBut a s.heap h' → SetT w h' a (plus L k) → Q b { s with heap := h' }) :
    wpAny (model P w) A (setAddHashed a (.str k tk) ((strKind P w).hash k)) Q E s := by
  obtain ⟨o, es, ep, t, ho, hex, hd, g, nd, pL, hb, hf, hr, hl⟩ := R
  have hkey : (strKind P w).is k (.str k tk) = true := strKind_is P w k tk
  have hsc : (Value.str k tk).scannable = true := rfl
  have hel : ElemsOf (strKind P w) es.toList := row_elems g
  have hlen : es.size = L.length := by
    rw [← pL.length_eq, List.length_map, Array.length_toList]
  unfold setAddHashed setAddHashedIn
  refine wpAny_holding (wpAny_bind (wpAny_setState_of ho hd hf ?_))
  dsimp only
  rw [byScan_of hsc hb hel]
  simp only [↓reduceIte]
  unfold setAddByScan
  refine wpAny_bind ?_
  refine wpAny_bind (wpAny_rule ?_)
  refine wpAny_bind (wpAny_setScan_of hkey ho hd hf hel ?_)
  cases hfi : List.findIdx? (fun e => (strKind P w).is k e.2) es.toList with
  | some j =>
    dsimp only
    obtain ⟨hj, pj, _⟩ := List.findIdx?_eq_some_iff_getElem.mp hfi
    have hk : k ∈ L := pL.mem_iff.mp ((row_mem (P := P) g k).2 ⟨es.toList[j], List.getElem_mem hj, pj⟩)
    refine wpAny_pure (wpAny_pure ?_)
    refine hQ false s.heap (Heap.SameBut.refl a s.heap) ?_
    rw [plus, if_pos hk]
    exact ⟨o, es, ep, t, ho, hex, hd, g, nd, pL, hb, hf, hr, hl⟩
  | none =>
    dsimp only
    have hk : k ∉ L := fun z => by
      obtain ⟨e, he, q⟩ := (row_mem (P := P) g k).1 (pL.mem_iff.mpr z)
      have c := List.findIdx?_eq_none_iff.mp hfi e he
      rw [q] at c
      cases c
    have gw : ∀ (b : Bool) {s₁ : Shared} {Q' : Unit → Shared → Prop}, Q' () s₁ → wpAny (model P w) A (match b with | true => rule "set.scan.the-table-gave-way" | false => pure ()) Q' E s₁ :=
      fun b s₁ Q' q => by cases b <;> first | exact wpAny_pure q | exact wpAny_rule q
    have pm := layNew_perm t es ((strKind P w).hash k) (.str k tk)
    have f1 := layNew_fits t es ((strKind P w).hash k) (.str k tk)
    have r1 := layNew_ris t es ((strKind P w).hash k) (.str k tk) hr
    have l1 := layNew_led t es ((strKind P w).hash k) (.str k tk)
    generalize layNew t es ((strKind P w).hash k) (.str k tk) = Z at pm f1 r1 l1 ⊢
    obtain ⟨es1, t1, wasDummy, gave⟩ := Z
    dsimp only at pm f1 r1 l1 ⊢
    rw [Array.toList_push] at pm
    have pc : es1.toList.Perm (((strKind P w).hash k, Value.str k tk) :: es.toList) := pm.trans (List.perm_append_singleton _ _)
    have pk : (es1.toList.map keyT).Perm (L ++ [k]) := (pc.map keyT).trans ((pL.cons k).trans (List.perm_append_singleton _ _).symm)
    have g1 : ∀ e ∈ es1.toList, RowT w e := fun e he => by
      rcases List.mem_cons.mp (pc.mem_iff.mp he) with z | z
      · rw [z]
        exact ⟨k, tk, rfl, rfl⟩
      · exact g e z
    have nd1 : (L ++ [k]).Nodup := (List.perm_append_singleton _ _).nodup_iff.mpr (List.nodup_cons.mpr ⟨hk, nd⟩)
    have hsz : es1.size = L.length + 1 := by
      rw [← Array.length_toList, pc.length_eq, List.length_cons, Array.length_toList, hlen]
    have hb1 : es1.size < scanBound := by
      rw [hsz]
      exact room
    have led : w.params.followText "set-order" = true ∨ t1.led = true := hl.imp id fun z => by
      rw [l1]
      exact z
    have fin : ∀ h', Heap.SameBut a s.heap h' → SetT w h' a (L ++ [k]) → Q true { s with heap := h' } := fun h' sb r => hQ true h' sb (by rw [plus, if_neg hk]; exact r)
    refine wpAny_bind (gw _ ?_)
    split
    · refine wpAny_bind ?_
      rw [hashByValue_scannable 8 hsc]
      refine wpAny_pure ?_
      refine setT_tail ?_ ho hex hd g1 nd1 pk hb1 ?_ ?_ ?_ ?_
      · intro b s₁ Q' q
        cases b <;> first | exact wpAny_pure q | exact wpAny_rule q
      · first | (split <;> first | exact f1 | exact SetTable.fits_plain_off f1) | exact f1
      · first | (split <;> exact r1) | exact r1
      · first | (split <;> exact led) | exact led
      · intro h' sb r
        dsimp only
        exact wpAny_pure (fin h' sb r)
    · refine wpAny_bind (wpAny_pure ?_)
      simp only [↓reduceIte]
      refine setT_tail ?_ ho hex hd g1 nd1 pk hb1 f1 r1 led ?_
      · intro b s₁ Q' q
        cases b <;> first | exact wpAny_pure q | exact wpAny_rule q
      · intro h' sb r
        dsimp only
        exact wpAny_pure (fin h' sb r)
end
end G39

/-! a set comprehension over any walk, for any description of the growing set -/
namespace G39
open PySem PySem.Spec PyProof.Rows L2
/-- how a growing set is described: what stands at D at first, and what it takes to put a value in -/
structure Bag (X : Cx) (zero : Addr → HO) (add : V → Hp → Addr → (Hp → Prop) → Prop) : Prop where
  new : ∀ (h : Heap) (H : Hp), ObjOk X.prog X.w H (h.push { cls := .type "set", dict := none, data := .set #[] 0 (.fresh 0 0 (!X.w.params.followText "set-order")) }) h.objs.size (zero h.objs.size)
  put : ∀ (Y : Cx), Y.prog = X.prog → Y.w = X.w → Y.A = X.A → Y.K = X.K → ∀ (pins : List (Addr × Obj)) (s : Shared) (σ : L2.St) (H : Hp) (D : Addr) (y : V) (u : Value) (Nx : Hp → Prop) (Q : Value → Shared → Prop) (E : Value → Shared → Prop),
    Inv Y pins σ H s → RelV y u → add y H D Nx → (∀ s' H', Inv Y pins σ H' s' → Nx H' → Q .none s') → wpAny (model Y.prog Y.w) Y.A (call (.builtin "set.add") [.ref D, u]) Q E s
/-- {elt for target in iter if ..}: D the new set -/
def tSg (zero : Addr → HO) (add : V → Hp → Addr → (Hp → Prop) → Prop) (wi : TI) (g : TG) (tt : TT) (te : TE) (vs : List Nat) : TE := fun σ H Q => wi σ H fun J H1 => ∀ D, H1 D = none →
  ∃ W : Nat → Nat → Hp → Prop, (∃ m, W 0 m (upd H1 D (zero D))) ∧ ∀ i m H, W i m H →
  (J.stop i H ∧ Q (.ref D) H) ∨ (J.go i H ∧ ∃ Nx : Hp → Prop, (∀ H', Nx H' → ∃ m', m' < m ∧ W (i + 1) m' H') ∧ ∀ x H', J.yld i H x H' → g x (wipe σ vs) H' fun σ2 H2 => wipe σ2 vs = wipe σ vs ∧ tt σ2 H2 fun b H3 =>
    if b = true then te σ2 H3 fun y H4 => add y H4 D Nx else Nx H3)
section
variable {X : Cx} {zero : Addr → HO} {add : V → Hp → Addr → (Hp → Prop) → Prop} {elt tg iter : Expr} {ifs : List Expr} {scope : Scope} {own : List (PySem.Str × Nat)} {pos : Pos} {wi : TI} {g : TG} {tt : TT} {te : TE}
theorem pe_sg (B : Bag X zero add) (hc : X.calm = true) (hN : X.N.Nodup) (hi : PI X tg iter wi) (ok : BlkOk X.N X.env.scope scope own)
    (hg : ∀ (s : Shared) (H : Hp) (C : Addr) (cl : List (PySem.Str × Addr)) (fp : List Addr), PG (X.blk s H scope (compEnvC scope cl C X.env) fp) tg g)
    (ht : ∀ (s : Shared) (H : Hp) (C : Addr) (cl : List (PySem.Str × Addr)) (fp : List Addr), PTs (X.blk s H scope (compEnvC scope cl C X.env) fp) ifs tt)
    (he : ∀ (s : Shared) (H : Hp) (C : Addr) (cl : List (PySem.Str × Addr)) (fp : List Addr), PE (X.blk s H scope (compEnvC scope cl C X.env) fp) elt te)
    (hs : ∀ x, foldedSetIterable iter X.env x = pure x := by intro _; rfl) :
    PE X (.SetComp elt [⟨tg, iter, ifs, 0⟩] scope pos) (tSg zero add wi g tt te (own.map (·.2))) := by
  refine ⟨fun pins s σ H Q I h => ?_⟩
  rw [PpSet.eval_SetComp]
  refine wpAny_comprehension_free rfl hs (closure_ok fun y hy e => ?_) ok.kind (fun y hy e => by rw [ok.uniq y hy, e]) (thn (hi.run pins s σ H _ I h) fun xv s1 hx => thn hx fun itv s2 h2 => ?_)
  · rcases ok.free y hy e with k | k
    · exact I.ok.has _ (.inl k)
    · exact I.ok.has _ (.inr k)
  obtain ⟨it, fp, tn, J, H2, rfl, I2, T, st2, f2, q⟩ := h2
  refine PpSet.newSet_ok (newEnv_comp ?_)
  have hDn : H2 s2.heap.objs.size = none := I2.hok.fresh (Nat.le_refl _)
  obtain ⟨W, ⟨m0, w0⟩, turn⟩ := q s2.heap.objs.size hDn
  have J3 : Inv X pins σ (upd H2 s2.heap.objs.size (zero s2.heap.objs.size)) { s2 with heap := s2.heap.push { cls := .type "set", dict := none, data := .set #[] 0 (.fresh 0 0 (!X.w.params.followText "set-order")) } } :=
    I2.laid (t' := s2.toks) (fun b o e => Heap.get?_push_of_some _ e) (Nat.le_refl _) (B.new _ _)
  generalize hs3 : ({ s2 with heap := s2.heap.push { cls := .type "set", dict := none, data := .set #[] 0 (.fresh 0 0 (!X.w.params.followText "set-order")) } } : Shared) = s3 at J3
  have h3 : s3.heap = s2.heap.push { cls := .type "set", dict := none, data := .set #[] 0 (.fresh 0 0 (!X.w.params.followText "set-order")) } := by rw [← hs3]
  have low : ∀ b ∈ fp, b < s2.heap.objs.size := fun b hb => by
    obtain ⟨o, e, _⟩ := T.obj _ _ st2 b hb
    exact Heap.lt_size e
  have f3 : ∀ b ∈ fp, FpOk X pins (upd H2 s2.heap.objs.size (zero s2.heap.objs.size)) b ∧ b < s3.heap.objs.size := fun b hb => by
    have hlt := low b hb
    refine ⟨⟨?_, (f2 b hb).2⟩, by rw [h3, Heap.size_push]; exact Nat.lt_succ_of_lt hlt⟩
    rw [upd_ne (Nat.ne_of_lt hlt)]
    exact (f2 b hb).1
  have st3 : tn 0 s3.heap := T.keep _ _ _ st2 fun b _ o e => by
    rw [h3]
    exact Heap.get?_push_of_some _ e
  generalize s2.heap.objs.size = D at hDn w0 J3 f3 turn ⊢
  generalize hH3 : upd H2 D (zero D) = H3 at J3 f3 w0
  have I4 := block_start J3 ok hN f3
  have pg := hg s3 H3 s3.heap.objs.size (cellsFrom (s3.heap.objs.size + 1) scope.names (cloFrom X.env.cells scope.names [])) fp
  have pt := ht s3 H3 s3.heap.objs.size (cellsFrom (s3.heap.objs.size + 1) scope.names (cloFrom X.env.cells scope.names [])) fp
  have pe := he s3 H3 s3.heap.objs.size (cellsFrom (s3.heap.objs.size + 1) scope.names (cloFrom X.env.cells scope.names [])) fp
  have nfp : ∀ b ∈ fp, H3 b = none := fun b hb => (f3 b hb).1.1
  show codeAny _ _ (.compStart (.SetComp elt [⟨tg, iter, ifs, 0⟩] scope pos) 0 (.ref it) (.ref D) (compEnvC scope (cellsFrom (s3.heap.objs.size + 1) scope.names (cloFrom X.env.cells scope.names [])) s3.heap.objs.size X.env)) _ { s3 with heap := pushCells (s3.heap.push { cls := .type "dict", data := .dict #[] }) scope.names }
  generalize hce : compEnvC scope (cellsFrom (s3.heap.objs.size + 1) scope.names (cloFrom X.env.cells scope.names [])) s3.heap.objs.size X.env = ce at I4 pg pt pe ⊢
  have cL : ce.locals = s3.heap.objs.size := by
    subst hce
    rfl
  generalize hs4 : ({ s3 with heap := pushCells (s3.heap.push { cls := .type "dict", data := .dict #[] }) scope.names } : Shared) = s4 at I4 ⊢
  have st4 : tn 0 s4.heap := T.keep _ _ _ st3 fun b _ o e => by
    rw [← hs4]
    exact pushCells_keeps _ _ _ _ (Heap.get?_push_of_some _ e)
  have stat : ∀ {σ' : L2.St} {H' : Hp} {s' : Shared}, Inv (X.blk s3 H3 scope ce fp) [] σ' H' s' → (∀ b ∈ fp, H' b = none) → ∀ b ∈ fp, FpOk (X.blk s3 H3 scope ce fp) [] H' b := fun {σ' H' s'} I' hn b hb =>
    ⟨hn b hb, (I'.ok.exf b hb).1, I'.ok.exfs b hb, .inl hb, fun x c e => (I'.ok.exf b hb).2 x c e, fun p hp => absurd (show p ∈ ([] : List (Addr × Obj)) ++ [] from hp) (by simp)⟩
  have loop : codeAny (model X.prog X.w) X.A (.compLoop (.SetComp elt [⟨tg, iter, ifs, 0⟩] scope pos) 0 (.ref it) (.ref D) ce) (compPost (model X.prog X.w) X.A X.xe none (EP X pins σ Q) (.ref D) s3.heap.objs.size) s4 := by
    refine PpSet.compLoopS_any (fun n s' => ∃ i H', Inv (X.blk s3 H3 scope ce fp) [] (wipe σ (own.map (·.2))) H' s' ∧ tn i s'.heap ∧ (∀ b ∈ fp, H' b = none) ∧ W i n H') ?_ m0 ⟨0, H3, I4, st4, nfp, w0⟩
    rintro n s5 ⟨i, H5, I5, st5, n5, w5⟩
    rcases turn i n H5 w5 with ⟨stop, qq⟩ | ⟨go, Nx, hNx, step⟩
    · refine thnF (T.done (X.blk s3 H3 scope ce fp) rfl rfl rfl hc i [] s5 _ H5 (fun _ _ => False) I5 (stat I5 n5) st5 stop) fun r s6 ⟨hr, I6⟩ => ?_
      subst hr
      have I7 : Inv X pins σ H5 s6 := J3.call' (ch := fp) I6.os I6.base I6.hok I6.bare fun b hb => ⟨(f3 b hb).1.2.2.2.1, (f3 b hb).1.2.1, (f3 b hb).1.2.2.2.2.1, (f3 b hb).1.2.2.2.2.2⟩
      have nC : H5 s3.heap.objs.size = none := by
        have z : H5 ce.locals = none := I6.free
        rwa [cL] at z
      obtain ⟨m, hn, _⟩ := I6.loc
      have hn : s6.heap.Ns ce.locals m := hn
      rw [cL] at hn
      obtain ⟨g0, g1, g2, g3, g4, g5⟩ := J3.fpOk (Nat.le_refl _) nC
      exact ⟨m, hn, fun h'' sb => ⟨.ref D, H5, I7.turned (t' := s6.toks) (fun b o hb e => (sb.2 b hb).trans e) g0 g1 g3 g4 g5, rfl, qq⟩⟩
    · refine thnF (T.item (X.blk s3 H3 scope ce fp) rfl rfl rfl hc i [] s5 _ H5 (fun _ _ => False) I5 (stat I5 n5) st5 go) fun r s6 ⟨u, hr, h6⟩ => ?_
      subst hr
      refine thnF h6 fun _ s7 ⟨x, H7, I7, r7, y7, st7, n7⟩ => ?_
      have I7' := I7.pinned (stat I7 n7) (T.obj _ _ st7)
      refine thnF (pg.run _ s7 _ H7 x u _ I7' r7 (step x H7 y7)) fun _ s8 ⟨σ8, H8, I8, hw8, q8⟩ => ?_
      refine thnF (pt.run _ s8 σ8 H8 _ I8 q8) fun b s9 ⟨H9, I9, q9⟩ => ?_
      have fin : ∀ {s' : Shared} {H' : Hp}, Inv (X.blk s3 H3 scope ce fp) ([] ++ pinsAt fp s7.heap) σ8 H' s' → Nx H' →
          ∃ m, m < n ∧ ∃ i H', Inv (X.blk s3 H3 scope ce fp) [] (wipe σ (own.map (·.2))) H' s' ∧ tn i s'.heap ∧ (∀ b ∈ fp, H' b = none) ∧ W i m H' := fun {s' H'} I' nx => by
        obtain ⟨m', hm, w'⟩ := hNx H' nx
        have pin' : ∀ b ∈ fp, ∀ o, s7.heap.get? b = some o → s'.heap.get? b = some o ∧ H' b = none := fun b hb o e =>
          let z := I'.pin (b, o) (List.mem_append_right _ (List.mem_append_right _ (mem_pinsAt hb e)))
          ⟨z.1, z.2.1⟩
        have hl : (wipe σ (own.map (·.2))).length = σ8.length := by rw [← hw8, wipe_length]
        refine ⟨m', hm, i + 1, H', (I'.unpinned (pins := [])).weak hl (fun j v e => ?_), T.keep _ _ _ st7 fun b hb o e => (pin' b hb o e).1, fun b hb => ?_, w'⟩
        · rw [← hw8] at e
          exact (wipe_some e).1
        · obtain ⟨o, e, _⟩ := T.obj _ _ st7 b hb
          exact (pin' b hb o e).2
      cases b with
      | false =>
        simp only [Bool.false_eq_true, if_false] at q9 ⊢
        exact fin I9 q9
      | true =>
        simp only [if_true] at q9 ⊢
        refine thnF (pe.run _ s9 σ8 H9 _ I9 q9) fun z s10 ⟨yv, H10, I10, r10, ad⟩ => ?_
        exact B.put (X.blk s3 H3 scope ce fp) rfl rfl rfl rfl _ s10 σ8 H10 D yv z Nx _ _ I10 r10 ad fun s11 H11 I11 nx => fin I11 nx
  exact PpSet.codeAny_compStart_set loop (T.self X.A 0 _ _ _ st4 loop)
end
/-- at a: the set of the texts L -/
def SetTx (w : World) (a : Addr) (L : List Str) : HO := .ext fun h => SetT w h a L
theorem setTx_ok {w : World} {P : Program} {H : Hp} {h : Heap} {a : Addr} {L : List Str} (R : SetT w h a L) : ObjOk P w H h a (SetTx w a L) := by
  have ⟨o, _, _, _, ho, _⟩ := R
  exact ⟨R, ⟨o, ho⟩, fun h1 h2 p k => SetT.at p k⟩
theorem setT_fresh {h : Heap} (w : World) : SetT w (h.push { cls := .type "set", dict := none, data := .set #[] 0 (.fresh 0 0 (!w.params.followText "set-order")) }) h.objs.size [] := by
  refine ⟨_, #[], 0, _, Heap.get?_push_size _ rfl, ⟨rfl, rfl, rfl⟩, rfl, (fun e he => by simp at he), .nil, .nil, by decide, by rfl, List.Pairwise.nil, ?_⟩
  show _ ∨ (!w.params.followText "set-order") = true
  cases w.params.followText "set-order"
  · exact .inr rfl
  · exact .inl rfl
def addTx (w : World) : V → Hp → Addr → (Hp → Prop) → Prop := fun y H D Nx => ∃ (k : Str) (L : List Str), y = .str k ∧ H D = some (SetTx w D L) ∧ L.length ≤ 1000 ∧ Nx (upd H D (SetTx w D (plus L k)))
theorem bagTx {X : Cx} : Bag X (fun D => SetTx X.w D []) (addTx X.w) := by
  refine ⟨fun h H => setTx_ok (setT_fresh X.w), ?_⟩
  intro Y e1 e2 e3 e4 pins s σ H D y u Nx Q E I r ad hq
  obtain ⟨k, L, rfl, hD, hl, nx⟩ := ad
  obtain ⟨tk, rfl⟩ := r
  rw [← e2] at hD nx
  have R : SetT Y.w s.heap D L := (I.hok D _ hD).1
  obtain ⟨o, es, ep, t, ho, hex, hd, _⟩ := id R
  refine wpAny_call_entry F.slot_set_add ⟨o, ho, hex.1⟩ F.entry_set_add ?_ (F.args_set_add_2 _ _)
  unfold Builtin.«set.add» Builtin.Frozenset.oneOther
  simp only [List.isEmpty_nil, bind_assoc]
  unfold Builtin.Frozenset.addrOf setAdd
  refine wpAny_bind (wpAny_pure ?_)
  try dsimp only
  refine wpAny_bind (wpAny_pure ?_)
  try dsimp only
  refine wpAny_bind ?_
  refine wpAny_holding ?_
  refine wpAny_bind ((strKind Y.prog Y.w).pyHash (strKind_is Y.prog Y.w k tk) ?_)
  refine setT_hashed (s := { s with toks := s.toks + 1 }) R (Nat.lt_of_le_of_lt (Nat.succ_le_succ hl) (by decide)) fun b h' sb new => ?_
  show wpAny _ _ (ret Value.none) _ _ _
  have hv : ∃ v, h'.get? D = some v := by
    obtain ⟨o', _, _, _, ho', _⟩ := new
    exact ⟨o', ho'⟩
  exact wpAny_pure ⟨_, rfl, hq _ _ (I.write (e := D) (t' := s.toks + 1) (by rw [hD]; trivial) (.inl rfl) (fun b u hb hu => (sb.2 b hb).trans hu) hv (setTx_ok new)) nx⟩
end G39

namespace G39
open PySem PySem.Spec PyProof.Rows L2
/-- the texts of rows -/
theorem rows_strs {w : World} : ∀ (l : List Value), (∀ v ∈ l, ∃ k tk, v = Value.str k tk) → StrsAre l (l.map fun v => match v with | .str k _ => k | _ => Str.empty)
  | [], _ => .nil
  | v :: l, h => by
    obtain ⟨k, tk, rfl⟩ := h v List.mem_cons_self
    exact .cons k tk (rows_strs (w := w) l fun u hu => h u (List.mem_cons_of_mem _ hu))
/-- sorted(a set of texts) -/
def rSortTx (w : World) : List V → Hp → VK → Prop := fun vs H Q => ∃ (a : Addr) (L : List Str), vs = [V.ref a] ∧ H a = some (SetTx w a L) ∧ L.length < 64 ∧ ∀ (ys : List Str) (p : Addr), ys.Perm L → sortedS ys = true → H p = none → Q (.ref p) (upd H p (.lst (ys.map V.str)))
theorem cr_sortTx {X : Cx} (hc : X.calm = true) : CallR X (.builtin "sorted") (rSortTx X.w) := by
  intro pins s σ H vs us Q I r h
  obtain ⟨a, L, rfl, ha, h64, q⟩ := h
  have R : SetT X.w s.heap a L := (I.hok a _ ha).1
  rw [Vals.ref1 r]
  obtain ⟨o, es, ep, t, ho, hex, hd, g, nd, pL, hb, hf, hr, hl⟩ := R
  refine Calls.call_function_entry PyProof.Rows.kind_sorted PyProof.Rows.plain_sorted PyProof.Rows.entry_sorted (PyProof.Rows.args_sorted1 _) ?_
  unfold Builtin.«sorted»
  refine wpAny_bind (m := checkCount "sorted" 1 1 _) (wpAny_pure ?_)
  refine wpAny_bind (collect_set (A := X.A.in1) (I.ok.hd hc) ⟨o, ho, hex.1, hd⟩ hf hb hr hl fun s1 us k1 hz g1 o1 pm => ?_)
  have hS : StrsAre us (us.map fun v => match v with | .str k _ => k | _ => Str.empty) := rows_strs (w := X.w) us fun v hv => by
    obtain ⟨e, he, z⟩ := List.mem_map.mp (pm.mem_iff.mp hv)
    obtain ⟨k, tk, h1, _⟩ := g e he
    exact ⟨k, tk, by rw [← z]; exact h1⟩
  have pk : (us.map fun v => match v with | .str k _ => k | _ => Str.empty).Perm L := by
    have z := pm.map (fun v : Value => match v with | .str k _ => k | _ => Str.empty)
    rw [List.map_map] at z
    exact z.trans pL
  have hlen : us.length < 64 := by
    have z := pk.length_eq
    rw [List.length_map] at z
    omega
  have I1 : Inv X pins σ H s1 := I.call' (ch := []) o1 (Un.kept k1) (I.hok.kept k1) (by rw [g1]; exact I.bare) (fun _ z => nomatch z)
  refine wpAny_bind (wpAny_newList ?_ (by rw [sizeLine_eq]; omega))
  obtain ⟨h', gg, dd, tk, os⟩ := s1
  have hoL : (h'.push (seqObj "list" us.toArray 0)).get? h'.objs.size = some (seqObj "list" us.toArray 0) := Heap.get?_push_size _ rfl
  refine wpAny_bind (wpAny_holding (wpAny_call_entry PyProof.Rows.slot_list_sort ⟨_, hoL, rfl⟩ PyProof.Rows.entry_list_sort
    (list_sort_treeK strKind_oneLt hoL hS.keysOf (fun v₁ v₂ rest e => keyKind_strs (by rw [← e]; exact hS)) hlen fun st' hp hs => ⟨_, rfl, ?_⟩) (PyProof.Rows.args_list_sort _)))
  obtain ⟨ys, y1, y2, y3⟩ := sorted_out_str hS hp hs
  obtain ⟨e', he'⟩ := PyProof.Rows.sortedHeap_at (vs := us) (out := (arrOf st').map (·.2)) hoL
  have hz2 : (ys.map V.str).length ≤ sizeLine := by
    rw [List.length_map, y2.length_eq, List.length_map, sizeLine_eq]
    omega
  refine wpAny_pure ⟨_, rfl, .ref h'.objs.size, upd H h'.objs.size (.lst (ys.map V.str)), I1.laid (t' := tk) (fun b u e => ?_) (Nat.le_refl _)
    (show ObjOk X.prog X.w _ _ _ (.lst (ys.map V.str)) from ⟨hz2, ((arrOf st').map (·.2)).toList, e', vals_of_strs y1, by rw [Array.toArray_toList]; exact he'⟩), rfl, q ys _ (y2.trans pk) y3 (I1.hok.fresh (Nat.le_refl _))⟩
  have hb : b < h'.objs.size := Heap.lt_size e
  rw [PyProof.Rows.sortedHeap_old (Nat.ne_of_lt hb) (by rw [size_push']; exact Nat.lt_succ_of_lt hb)]
  exact Heap.get?_push_of_some _ e
end G39

namespace G39
open PySem PySem.Spec PyProof.Rows L2
/-! whole numbers of many bits -/
theorem bits_of_lt {x : Int} {n : Nat} (h : x.natAbs < 2 ^ n) : Builtin.Int.intBits x ≤ n := by
  unfold Builtin.Int.intBits
  split
  · exact Nat.zero_le _
  · rename_i hx
    have h0 : x.natAbs ≠ 0 := by
      intro e
      apply hx
      have : x = 0 := by omega
      subst this
      rfl
    have := (Nat.log2_lt h0).mpr h
    omega
theorem lt_of_bits {x : Int} {n : Nat} (h : Builtin.Int.intBits x ≤ n) : x.natAbs < 2 ^ n := by
  unfold Builtin.Int.intBits at h
  split at h
  · rename_i hx
    have : x = 0 := by simpa using hx
    subst this
    exact Nat.two_pow_pos n
  · rename_i hx
    have h0 : x.natAbs ≠ 0 := by
      intro e
      apply hx
      have : x = 0 := by omega
      subst this
      rfl
    exact (Nat.log2_lt h0).mp (by omega)
/-- a * cell + a few bits more -/
theorem bits_lin {c m k : Int} (hc : Builtin.Int.intBits c ≤ 1048576) (hm : m.natAbs ≤ 65536) (hk : k.natAbs ≤ 2 ^ 80) : Builtin.Int.intBits (c * m + k) ≤ 1048600 := by
  refine bits_of_lt ?_
  have h1 := lt_of_bits hc
  have h2 : (c * m + k).natAbs ≤ c.natAbs * m.natAbs + k.natAbs := by
    have := Int.natAbs_add_le (c * m) k
    rw [Int.natAbs_mul] at this
    exact this
  have h3 : c.natAbs * m.natAbs ≤ 2 ^ 1048576 * 65536 := Nat.mul_le_mul (Nat.le_of_lt h1) hm
  have e : (2 : Nat) ^ 1048600 = 2 ^ 1048576 * 16777216 := by
    rw [show (1048600 : Nat) = 1048576 + 24 from rfl, Nat.pow_add]
  have h4 : (2 : Nat) ^ 80 ≤ 2 ^ 1048576 := Nat.pow_le_pow_right (by decide) (by decide)
  rw [e]
  generalize (2 : Nat) ^ 1048576 = z at *
  omega
def CPowW (i j : Int) : Prop := 0 ≤ j ∧ (Builtin.Int.intBits i : Int) * j ≤ 2 ^ 27
theorem op_powW {X : Cx} : OpR X (binaryOp .Pow) (rI CPowW fun i j => .int (i ^ j.toNat)) := opI fun _ _ _ _ _ _ _ hc q => PyProof.Rows.pow_int hc.1 hc.2 q
theorem cpow3 {c m k : Int} (hc : Builtin.Int.intBits c ≤ 1048576) (hm : m.natAbs ≤ 65536) (hk : k.natAbs ≤ 2 ^ 80) : CPowW (c * m + k) 3 := by
  refine ⟨by decide, ?_⟩
  have := bits_lin hc hm hk
  generalize Builtin.Int.intBits (c * m + k) = z at *
  omega
end G39

/-! the rules by a written part that is named, so that they stand within comprehensions, too; what is evaluated, by what is told of it -/
namespace G39
open PySem PySem.Spec PyProof.Rows L2 Evl
section
variable {X : Cx} {K : PySem.W.Frag} {w : World} {tg l : Expr} {tl : TE}
theorem call_len_seqK (h : X.K = K) : CallR X (.builtin "len") (rLenS K) := by subst h; exact call_len_seq
theorem call_isiK' (h : X.K = K) : CallR X (.builtin "isinstance") (rIsi K) := by subst h; exact call_isi
theorem cr_allK (h : X.K = K) (hc : X.calm = true) : CallR X (.builtin "all") (rAll K) := by subst h; exact cr_all hc
theorem call_list_ofK (h : X.K = K) : CallR X (.type "list") (rListS K) := by subst h; exact call_list_of
def rTupS (K : PySem.W.Frag) : List V → Hp → VK → Prop := fun xs H Q => ∃ p ys, xs = [.ref p] ∧ ((SqL K H p ys ∧ ∀ l, H l = none → Q (.ref l) (upd H l (.tup ys))) ∨ (SqT K H p ys ∧ Q (.ref p) H))
theorem call_tuple_ofK (h : X.K = K) : CallR X (.type "tuple") (rTupS K) := by subst h; exact call_tuple_of
theorem cr_sortTxK (hw : X.w = w) (hc : X.calm = true) : CallR X (.builtin "sorted") (rSortTx w) := by subst hw; exact cr_sortTx hc
theorem cr_sortedSK (h : X.K = K) : CallR X (.builtin "sorted") (rSortedS K) := by subst h; exact cr_sortedS
def rJoin (K : PySem.W.Frag) : V → List V → Hp → VK → Prop := fun x xs H Q => ∃ a p, ∃ ys : List Str, x = .str a ∧ xs = [.ref p] ∧ (SqL K H p (ys.map V.str) ∨ SqT K H p (ys.map V.str)) ∧ (ys.map (·.length)).sum + ys.length * a.length ≤ 16777216 ∧ Q (.str (Txt.join a ys)) H
theorem mt_joinK (h : X.K = K) : MtR X "str.join" (rJoin K) := by subst h; exact mt_join
theorem op_catAK (h : X.K = K) : OpR X (binaryOp .Add) (rCatA K) := by subst h; exact op_catA
theorem op_eqDK (h : X.K = K) (hu : X.A.units + 64 < cLine) : OpR X (compareOp .Eq) (rEqD K) := by subst h; exact op_eqD hu
theorem op_neDK (h : X.K = K) (hu : X.A.units + 64 < cLine) : OpR X (compareOp .NotEq) (rNeD K) := by subst h; exact op_neD hu
theorem op_in_seqK (h : X.K = K) : OpR X (compareOp .In) (rIn K false) := by subst h; exact op_in_seq
theorem op_notIn_seqK (h : X.K = K) : OpR X (compareOp .NotIn) (rIn K true) := by subst h; exact op_notIn_seq
theorem bagTxK (hw : X.w = w) : Bag X (fun D => SetTx w D []) (addTx w) := by subst hw; exact bagTx
theorem pi_listK (h : X.K = K) (hl : PE X l tl) : PI X tg l (iList K tl) := by subst h; exact pi_list hl
theorem pi_tupK (h : X.K = K) (hl : PE X l tl) : PI X tg l (iTup K tl) := by subst h; exact pi_tup hl
theorem ix_listK (h : X.K = K) : IxR X (rIxL K) := by subst h; exact ix_list
theorem ix_tupK (h : X.K = K) : IxR X (rIxT K) := by subst h; exact ix_tup
theorem sl_listK (h : X.K = K) : SlR X (rSlL K) := by subst h; exact sl_list
theorem sl_tupAK (h : X.K = K) : SlR X (rSlA K) := by subst h; exact sl_tupA
end
/-! texts -/
theorem str_ext {x y : Str} (h : x.cps.toList = y.cps.toList) : x = y := by
  cases x with
  | mk a =>
    cases y with
    | mk b =>
      have e : a = b := by
        cases a
        cases b
        simpa using h
      rw [e]
/-- the text of a list of codes -/
def ofC (l : List Nat) : Str := ⟨l.toArray⟩
theorem ofC_cps (l : List Nat) : (ofC l).cps.toList = l := by simp [ofC]
theorem ofC_of (x : Str) : ofC x.cps.toList = x := str_ext (ofC_cps _)
theorem len_ofC (l : List Nat) : (ofC l).length = l.length := by simp [ofC, Str.length]
theorem len_cps (x : Str) : x.cps.toList.length = x.length := by simp [Str.length]
/-! what is evaluated -/
/-- it gives a value of which Pv holds, leaving what is known -/
def EvP (te : TE) (σ : L2.St) (H : Hp) (Pv : V → Hp → Prop) : Prop := ∀ H1, Ex H H1 → ∀ Q : VK, (∀ v H2, Ex H1 H2 → Pv v H2 → Q v H2) → te σ H1 Q
/- data: plain values, tracked lists and tuples; of a dict its kind alone -/
mutual
inductive At (H : Hp) : V → PyData → Prop
  | non : At H .non .none
  | bl (b : Bool) : At H (.bl b) (.bool b)
  | int (i : Int) : At H (.int i) (.int i)
  | str (x : Str) : At H (.str x) (.str x)
  | lst {a : Addr} {xs : List V} {ds : List PyData} : H a = some (.lst xs) → AtAll H xs ds → At H (.ref a) (.list ds)
  | tup {a : Addr} {xs : List V} {ds : List PyData} : H a = some (.tup xs) → AtAll H xs ds → At H (.ref a) (.tuple ds)
  | dic {a : Addr} {kvs : List (Key × V)} : H a = some (.dK kvs) → At H (.ref a) (.dict [])
inductive AtAll (H : Hp) : List V → List PyData → Prop
  | nil : AtAll H [] []
  | cons {v : V} {vs : List V} {d : PyData} {ds : List PyData} : At H v d → AtAll H vs ds → AtAll H (v :: vs) (d :: ds)
end
/-- what stands apart from S stays -/
def ExS (S : Addr → Prop) (H H' : Hp) : Prop := ∀ a o, ¬ S a → H a = some o → H' a = some o
mutual
theorem At.mono {H H' : Hp} (e : Ex H H') : ∀ {v : V} {d : PyData}, At H v d → At H' v d
  | _, _, .non => .non
  | _, _, .bl b => .bl b
  | _, _, .int i => .int i
  | _, _, .str x => .str x
  | _, _, .lst h t => .lst (e _ _ h) (AtAll.mono e t)
  | _, _, .tup h t => .tup (e _ _ h) (AtAll.mono e t)
  | _, _, .dic h => .dic (e _ _ h)
theorem AtAll.mono {H H' : Hp} (e : Ex H H') : ∀ {vs : List V} {ds : List PyData}, AtAll H vs ds → AtAll H' vs ds
  | _, _, .nil => .nil
  | _, _, .cons h t => .cons (At.mono e h) (AtAll.mono e t)
end
theorem AtAll.len {H : Hp} : ∀ {vs : List V} {ds : List PyData}, AtAll H vs ds → vs.length = ds.length
  | _, _, .nil => rfl
  | _, _, .cons _ t => by rw [List.length_cons, List.length_cons, AtAll.len t]
theorem AtAll.append {H : Hp} : ∀ {vs us : List V} {ds es : List PyData}, AtAll H vs ds → AtAll H us es → AtAll H (vs ++ us) (ds ++ es)
  | _, _, _, _, .nil, s => s
  | _, _, _, _, .cons r t, s => .cons r (AtAll.append t s)
theorem AtAll.get {H : Hp} : ∀ {vs : List V} {ds : List PyData} {i : Nat} {v : V}, AtAll H vs ds → vs[i]? = some v → ∃ d, ds[i]? = some d ∧ At H v d
  | _, _, _, _, .nil, e => by simp at e
  | _, _, 0, _, .cons r _, e => by
    simp at e
    subst e
    exact ⟨_, rfl, r⟩
  | _, _, i + 1, v, .cons _ t, e => by
    obtain ⟨d, h1, h2⟩ := AtAll.get (i := i) (v := v) t (by simpa using e)
    exact ⟨d, by simpa using h1, h2⟩
theorem AtAll.drop {H : Hp} : ∀ {vs : List V} {ds : List PyData} (n : Nat), AtAll H vs ds → AtAll H (vs.drop n) (ds.drop n)
  | _, _, 0, r => r
  | _, _, _ + 1, .nil => .nil
  | _, _, n + 1, .cons _ t => AtAll.drop n t
theorem AtAll.take {H : Hp} : ∀ {vs : List V} {ds : List PyData} (n : Nat), AtAll H vs ds → AtAll H (vs.take n) (ds.take n)
  | _, _, 0, _ => .nil
  | _, _, _ + 1, .nil => .nil
  | _, _, n + 1, .cons r t => .cons r (AtAll.take n t)
theorem AtAll.strs {H : Hp} : ∀ (xs : List Str), AtAll H (xs.map V.str) (xs.map PyData.str)
  | [] => .nil
  | x :: xs => .cons (.str x) (AtAll.strs xs)
theorem AtAll.bls {H : Hp} : ∀ (xs : List Bool), AtAll H (xs.map V.bl) (xs.map PyData.bool)
  | [] => .nil
  | x :: xs => .cons (.bl x) (AtAll.bls xs)
mutual
/-- without a dict: as the library's rules for == want it -/
theorem At.dp {K : PySem.W.Frag} {H : Hp} : ∀ {v : V} {d : PyData}, At H v d → SeqAt.shaped d = true → Dp K H v d
  | _, _, .non, _ => .non
  | _, _, .bl b, _ => .bl b
  | _, _, .int i, _ => .int i
  | _, _, .str x, _ => .str x
  | _, _, .lst h t, s => .lst (sq_of h) (AtAll.dp t (by simp [SeqAt.shaped, PyData.canLay0] at s; exact s.1))
  | _, _, .tup h t, s => .tup (st_of h) (AtAll.dp t (by simp [SeqAt.shaped, PyData.canLay0] at s; exact s.1))
  | _, _, .dic h, s => by simp [SeqAt.shaped, PyData.canLay0] at s
theorem AtAll.dp {K : PySem.W.Frag} {H : Hp} : ∀ {vs : List V} {ds : List PyData}, AtAll H vs ds → PyData.canLayAll0 ds = true → DpAll K H vs ds
  | _, _, .nil, _ => .nil
  | _, _, .cons h t, s => by
    simp [PyData.canLayAll0] at s
    exact .cons (At.dp' h s.1) (AtAll.dp t s.2)
theorem At.dp' {K : PySem.W.Frag} {H : Hp} : ∀ {v : V} {d : PyData}, At H v d → PyData.canLay0 d = true → Dp K H v d
  | _, _, .non, _ => .non
  | _, _, .bl b, _ => .bl b
  | _, _, .int i, _ => .int i
  | _, _, .str x, _ => .str x
  | _, _, .lst h t, s => .lst (sq_of h) (AtAll.dp t (by simpa [PyData.canLay0] using s))
  | _, _, .tup h t, s => .tup (st_of h) (AtAll.dp t (by simpa [PyData.canLay0] using s))
  | _, _, .dic h, s => by simp [PyData.canLay0] at s
end
/-- its type -/
def tyOf : PyData → String
  | .none => "NoneType"
  | .bool _ => "bool"
  | .int _ => "int"
  | .str _ => "str"
  | .list _ => "list"
  | .tuple _ => "tuple"
  | .dict _ => "dict"
theorem At.ty {K : PySem.W.Frag} {H : Hp} {v : V} {d : PyData} (h : At H v d) : TyX K H v (.type (tyOf d)) := by
  cases h with
  | non => exact .base .non
  | bl b => exact .base (.bl b)
  | int i => exact .base (.int i)
  | str x => exact .base (.str x)
  | lst h t => exact .base (.lst h)
  | tup h t => exact .base (.tup h)
  | dic h => exact .base (.dK h)
/-- isinstance(x, str), isinstance(x, tuple) -/
def tys : List String := ["NoneType", "bool", "int", "str", "list", "tuple", "dict"]
theorem ty_in (d : PyData) : tyOf d ∈ tys := by cases d <;> simp [tyOf, tys]
theorem kitB_str : ∀ t ∈ tys, kitB t "str" = some (decide (t = "str")) := by decide +kernel
theorem kitB_tup : ∀ t ∈ tys, kitB t "tuple" = some (decide (t = "tuple")) := by decide +kernel
theorem kit_str (K : PySem.W.Frag) (d : PyData) : PySem.W.kitOne K (.type (tyOf d)) (.type "str") = some (decide (tyOf d = "str")) := kit_ty (kitB_str _ (ty_in d))
theorem kit_tup (K : PySem.W.Frag) (d : PyData) : PySem.W.kitOne K (.type (tyOf d)) (.type "tuple") = some (decide (tyOf d = "tuple")) := kit_ty (kitB_tup _ (ty_in d))
theorem ev_isi {K : PySem.W.Frag} {σ : L2.St} {H : Hp} {te : TE} {v : V} {d : PyData} {T : String} {b : Bool} (hk : PySem.W.kitOne K (.type (tyOf d)) (.type T) = some b) (h : Ev te σ H v) (hv : At H v d) :
    Ev (tCB (rIsi K) (tCons te (tCons (tC (.ty T)) tNil))) σ H (.bl b) := fun H1 e Q q =>
  h H1 e _ fun H2 e2 => ⟨v, .ty T, _, _, b, rfl, .ty T, (hv.mono (e.trans e2)).ty, hk, q H2 e2⟩
end G39

/-! comprehensions by what they walk over: a list xs of anything, val its values; what stays is told by f, what comes of it by R -/
namespace G39
open PySem PySem.Spec PyProof.Rows L2 Evl
theorem paired_snoc {α β : Type} {F : α → β → Prop} : ∀ {l₁ : List α} {l₂ : List β} {a : α} {b : β}, Paired F l₁ l₂ → F a b → Paired F (l₁ ++ [a]) (l₂ ++ [b])
  | _, _, _, _, .nil, h => .cons h .nil
  | _, _, _, _, .cons r t, h => .cons r (paired_snoc t h)
section
variable {α : Type} {xs : List α} {val : α → V} {f : α → Bool} {R : α → V → Hp → Prop} {J : It} {G : Hp → Prop} {σ : L2.St} {H1 : Hp} {D : Addr} {Qd : Hp → Prop} {t : TT} {te : TE} {j : Nat} {vs : List Nat}
/-- what the walk gives: the values of xs, the heap as it was -/
abbrev YOf (xs : List α) (val : α → V) : Nat → Hp → V → Hp → Prop := fun i H v H' => H' = H ∧ ∃ a, xs[i]? = some a ∧ v = val a
theorem lcW (wk : Walk J xs.length G (YOf xs val)) (hG : ∀ H', Ex H1 H' → G H') (hz : xs.length ≤ 40000) (hw : ∀ x, wipe ((wipe σ vs).set j (some x)) vs = wipe σ vs)
    (mono : ∀ a y H H', Ex H H' → R a y H → R a y H') (stab : ∀ a y H ys zs, H D = some (.lst ys) → R a y H → R a y (upd H D (.lst zs)))
    (ht : ∀ a ∈ xs, EvT t ((wipe σ vs).set j (some (val a))) H1 (f a))
    (he : ∀ a ∈ xs, f a = true → ∀ H3 ys, Ex H1 H3 → H3 D = some (.lst ys) → ∀ Q : VK, (∀ y H4, Ex H3 H4 → R a y H4 → Q y H4) → te ((wipe σ vs).set j (some (val a))) H3 Q)
    (hD : H1 D = none) (q : ∀ H' ys, Ex H1 H' → H' D = some (.lst ys) → Paired (fun a y => R a y H') (xs.filter f) ys → Qd H') :
    ∃ W : Nat → Nat → Hp → Prop, (∃ m, W 0 m (upd H1 D (.lst []))) ∧ ∀ i m H, W i m H →
      (J.stop i H ∧ Qd H) ∨ (J.go i H ∧ ∃ Nx : Hp → Prop, (∀ H', Nx H' → ∃ m', m' < m ∧ W (i + 1) m' H') ∧ ∀ x H', J.yld i H x H' → gName j x (wipe σ vs) H' fun σ2 H2 => wipe σ2 vs = wipe σ vs ∧ t σ2 H2 fun b H3 =>
        if b = true then te σ2 H3 fun y H4 => ∃ acc, H4 D = some (.lst acc) ∧ acc.length < sizeLine ∧ Nx (upd H4 D (.lst (acc ++ [y]))) else Nx H3) := by
  refine lc_it wk (fun i H' => Ex H1 H' ∧ ∃ ys, H' D = some (.lst ys) ∧ Paired (fun a y => R a y H') ((xs.take i).filter f) ys) ⟨Ex.new hD, [], upd_same, by rw [List.take_zero]; exact .nil⟩ (fun i H' _ p => hG H' p.1) ?_ (fun H' p => ?_)
  · rintro i x H' H'' hi ⟨e, ys, hd, hp⟩ ⟨rfl, a, ha, rfl⟩
    have hm := List.mem_of_getElem? ha
    refine ⟨hw _, ht a hm _ e _ fun H3 e3 => ?_⟩
    have hlen := Paired.length hp
    have hle : ((xs.take i).filter f).length ≤ i := Nat.le_trans (List.length_filter_le _ _) (by rw [List.length_take]; exact Nat.min_le_left _ _)
    have tk : xs.take (i + 1) = xs.take i ++ [a] := by
      rw [List.take_add_one, ha]
      rfl
    cases hf : f a with
    | true =>
      refine he a hm hf H3 ys (e.trans e3) (e3 _ _ hd) _ fun y H4 e4 hy => ⟨ys, e4 _ _ (e3 _ _ hd), by rw [sizeLine_eq]; omega, Ex.mut ((e.trans e3).trans e4) hD, ys ++ [y], upd_same, ?_⟩
      rw [tk, List.filter_append, List.filter_cons, if_pos hf, List.filter_nil]
      have hd4 := e4 _ _ (e3 _ _ hd)
      exact paired_snoc (L2.Paired.mapP hp fun a y z => stab a y H4 ys _ hd4 (mono a y _ _ (e3.trans e4) z)) (stab a y H4 ys _ hd4 hy)
    | false =>
      refine ⟨e.trans e3, ys, e3 _ _ hd, ?_⟩
      rw [tk, List.filter_append, List.filter_cons, if_neg (by rw [hf]; exact Bool.false_ne_true), List.filter_nil, List.append_nil]
      exact L2.Paired.mapP hp fun a y z => mono a y _ _ e3 z
  · obtain ⟨e, ys, hd, hp⟩ := p
    rw [List.take_length] at hp
    exact q H' ys e hd hp
/-- plain values: what comes is g a -/
theorem lcV {g : α → V} (wk : Walk J xs.length G (YOf xs val)) (hG : ∀ H', Ex H1 H' → G H') (hz : xs.length ≤ 40000) (hw : ∀ x, wipe ((wipe σ vs).set j (some x)) vs = wipe σ vs)
    (ht : ∀ a ∈ xs, EvT t ((wipe σ vs).set j (some (val a))) H1 (f a)) (he : ∀ a ∈ xs, f a = true → Ev te ((wipe σ vs).set j (some (val a))) H1 (g a))
    (hD : H1 D = none) (q : ∀ H', Ex H1 H' → H' D = some (.lst ((xs.filter f).map g)) → Qd H') :
    ∃ W : Nat → Nat → Hp → Prop, (∃ m, W 0 m (upd H1 D (.lst []))) ∧ ∀ i m H, W i m H →
      (J.stop i H ∧ Qd H) ∨ (J.go i H ∧ ∃ Nx : Hp → Prop, (∀ H', Nx H' → ∃ m', m' < m ∧ W (i + 1) m' H') ∧ ∀ x H', J.yld i H x H' → gName j x (wipe σ vs) H' fun σ2 H2 => wipe σ2 vs = wipe σ vs ∧ t σ2 H2 fun b H3 =>
        if b = true then te σ2 H3 fun y H4 => ∃ acc, H4 D = some (.lst acc) ∧ acc.length < sizeLine ∧ Nx (upd H4 D (.lst (acc ++ [y]))) else Nx H3) := by
  refine lcW (R := fun a y _ => y = g a) wk hG hz hw (fun _ _ _ _ _ h => h) (fun _ _ _ _ _ _ h => h) ht (fun a hm hf H3 ys e hd Q k => he a hm hf H3 e Q fun H4 e4 => k _ H4 e4 rfl) hD fun H' ys e hd hp => q H' e ?_
  have z : ys = (xs.filter f).map g := by
    clear hd
    generalize xs.filter f = l at hp
    induction hp with
    | nil => rfl
    | cons h t ih => rw [List.map_cons, h, ih]
  rw [← z]
  exact hd
end
section
variable {K : PySem.W.Frag} {σ : L2.St} {H : Hp} {t : TT} {te tl : TE} {j : Nat} {vs : List Nat}
/-- over a tuple (new or old) -/
theorem el_cT {xs : List V} {f : V → Bool} {g : V → V} (h : EvP tl σ H fun v H' => ∃ a, v = .ref a ∧ H' a = some (.tup xs)) (hz : xs.length ≤ 40000) (hw : ∀ x, wipe ((wipe σ vs).set j (some x)) vs = wipe σ vs)
    (ht : ∀ a ∈ xs, ∀ H1, Ex H H1 → EvT t ((wipe σ vs).set j (some a)) H1 (f a)) (he : ∀ a ∈ xs, f a = true → ∀ H1, Ex H H1 → Ev te ((wipe σ vs).set j (some a)) H1 (g a)) :
    EvL (tLc (iTup K tl) (gName j) t te vs) σ H ((xs.filter f).map g) := fun H0 e Q q => h H0 e _ fun v H1 e1 ⟨a, ev, ha⟩ => ⟨a, ev, ⟨xs, st_of ha⟩, fun D hD =>
  lcV (val := id) (walk_tup.mono (G' := fun H' => SqT K H' a xs) (fun _ z => z) fun i H x H' _ _ y => ⟨y.1, x, y.2, rfl⟩) (fun H' e' => st_of (e' _ _ ha)) hz hw (fun a hm => ht a hm H1 (e.trans e1)) (fun a hm hf => he a hm hf H1 (e.trans e1)) hD
    fun H' e' hd => q D H' (fresh_back e1 hD) (e1.trans e') hd⟩
/-- over a list (new or old) -/
theorem el_cL {xs : List V} {f : V → Bool} {g : V → V} (h : EvP tl σ H fun v H' => ∃ a, v = .ref a ∧ H' a = some (.lst xs)) (hz : xs.length ≤ 40000) (hw : ∀ x, wipe ((wipe σ vs).set j (some x)) vs = wipe σ vs)
    (ht : ∀ a ∈ xs, ∀ H1, Ex H H1 → EvT t ((wipe σ vs).set j (some a)) H1 (f a)) (he : ∀ a ∈ xs, f a = true → ∀ H1, Ex H H1 → Ev te ((wipe σ vs).set j (some a)) H1 (g a)) :
    EvL (tLc (iList K tl) (gName j) t te vs) σ H ((xs.filter f).map g) := fun H0 e Q q => h H0 e _ fun v H1 e1 ⟨a, ev, ha⟩ => ⟨a, ev, ⟨xs, sq_of ha⟩, fun D hD =>
  lcV (val := id) (walk_list.mono (G' := fun H' => SqL K H' a xs) (fun _ z => z) fun i H x H' _ _ y => ⟨y.1, x, y.2, rfl⟩) (fun H' e' => sq_of (e' _ _ ha)) hz hw (fun a hm => ht a hm H1 (e.trans e1)) (fun a hm hf => he a hm hf H1 (e.trans e1)) hD
    fun H' e' hd => q D H' (fresh_back e1 hD) (e1.trans e') hd⟩
/-- over a text -/
theorem el_cS {z : Str} {f : Nat → Bool} {g : Nat → V} (h : Ev tl σ H (.str z)) (hz : z.length ≤ 40000) (hw : ∀ x, wipe ((wipe σ vs).set j (some x)) vs = wipe σ vs)
    (ht : ∀ c ∈ z.cps.toList, ∀ H1, Ex H H1 → EvT t ((wipe σ vs).set j (some (.str ⟨#[c]⟩))) H1 (f c)) (he : ∀ c ∈ z.cps.toList, f c = true → ∀ H1, Ex H H1 → Ev te ((wipe σ vs).set j (some (.str ⟨#[c]⟩))) H1 (g c)) :
    EvL (tLc (iStr tl) (gName j) t te vs) σ H ((z.cps.toList.filter f).map g) := fun H0 e Q q => h H0 e _ fun H1 e1 => ⟨z, rfl, fun D hD => by
  have wk : Walk (Its z) z.cps.toList.length (fun _ => True) (YOf z.cps.toList fun c => V.str ⟨#[c]⟩) := by
    rw [Array.length_toList]
    exact walk_str.mono (fun _ z => z) fun i H x H' _ _ y => ⟨y.1, by obtain ⟨c, h1, h2⟩ := y.2; exact ⟨c, by rw [Array.getElem?_toList]; exact h1, h2⟩⟩
  exact lcV wk (fun _ _ => trivial) (by rw [len_cps]; exact hz) hw (fun a hm => ht a hm H1 (e.trans e1)) (fun a hm hf => he a hm hf H1 (e.trans e1)) hD
    fun H' e' hd => q D H' (fresh_back e1 hD) (e1.trans e') hd⟩
end
end G39

/-! names, variables, patterns: what they are -/
namespace G39
open PySem PySem.Spec PyProof.Rows L2 Evl
/-- a def of the text as callers see it -/
structure DefAt (K : PySem.W.Frag) (mg : Str → Option Value) (x : Str) (st : Stmt) (ps : List Str) (f : Addr) (fd : FuncData) : Prop where
  g : mg x = some (.ref f)
  F : Fun K x x st f fd
  b : Binds K fd ps []
def letters : Str := "abcdefghijklmnopqrstuvwxyz"
def digits : Str := "0123456789"
def isLet (c : Nat) : Bool := decide (c ∈ letters.cps.toList)
def isSgn (c : Nat) : Bool := decide (c ∈ (letters ++ digits).cps.toList)
/-- a name, by its signs -/
def nameC (l : List Nat) : Bool := match l with
  | [] => false
  | c :: r => decide (r.length ≤ 11) && (isLet c && (c :: r).all isSgn)
/-- a variable -/
def varC (l : List Nat) : Bool := match l with
  | [] => false
  | c :: r => decide (c = 63) && nameC r
def nameS (x : Str) : Bool := nameC x.cps.toList
def varS (x : Str) : Bool := varC x.cps.toList
def nameD : PyData → Bool
  | .str x => nameS x
  | _ => false
def varD : PyData → Bool
  | .str x => varS x
  | _ => false
def patD : PyData → Bool
  | .tuple (t :: r) => decide (r.length ≤ 3) && (nameD t && r.all fun d => nameD d || varD d)
  | _ => false
def factD : PyData → Bool
  | .tuple (t :: r) => patD (.tuple (t :: r)) && (t :: r).all nameD
  | _ => false
theorem len_add (x y : Str) : (x ++ y).length = x.length + y.length := by
  show (x.cps ++ y.cps).size = _
  rw [Array.size_append]
  rfl
theorem cps_add (x y : Str) : (x ++ y).cps.toList = x.cps.toList ++ y.cps.toList := by
  show (x.cps ++ y.cps).toList = _
  rw [Array.toList_append]
/-! readings of texts -/
section
variable {K : PySem.W.Frag} {σ : L2.St} {H : Hp} {ta tb tc te : TE}
theorem ev_chainI {i j k : Int} (ha : Ev ta σ H (.int i)) (hb : Ev tb σ H (.int j)) (hc : Ev tc σ H (.int k)) : Ev (tChain (rI0 fun i j => .bl (decide (i ≤ j))) (rI0 fun i j => .bl (decide (i ≤ j))) ta tb tc) σ H (.bl (decide (i ≤ j) && decide (j ≤ k))) := fun H1 e Q q =>
  ha H1 e _ fun H2 e2 => hb H2 (e.trans e2) _ fun H3 e3 => ⟨i, j, rfl, rfl, _, rfl, by
    by_cases c : i ≤ j
    · rw [decide_eq_true c, if_pos rfl]
      exact hc H3 (e.trans (e2.trans e3)) _ fun H4 e4 => ⟨j, k, rfl, rfl, by rw [decide_eq_true c] at q; exact q H4 (e2.trans (e3.trans e4))⟩
    · rw [decide_eq_false c, if_neg Bool.false_ne_true]
      rw [decide_eq_false c] at q
      exact q H3 (e2.trans e3)⟩
theorem ev_lenS {z : Str} (h : Ev te σ H (.str z)) (hz : z.length ≤ 100000) : Ev (tCB (fun xs H Q => ∃ z, xs = [.str z] ∧ z.length ≤ sizeLine ∧ Q (.int z.length) H) (tCons te tNil)) σ H (.int (z.length : Int)) := fun H1 e Q q =>
  h H1 e _ fun H2 e2 => ⟨z, rfl, sz_of hz, q H2 e2⟩
theorem rv_sign {c : Nat} {z : Str} : RV (fun x y H Q => ∃ (c : Nat) (z : Str), x = .str ⟨#[c]⟩ ∧ y = .str z ∧ Q (.bl (decide (c ∈ z.cps.toList))) H) (.str ⟨#[c]⟩) (.str z) H (.bl (decide (c ∈ z.cps.toList))) := rv_val fun H1 _ Q q => ⟨c, z, rfl, rfl, q⟩
theorem rv_addS {x y : Str} (h : x.length + y.length ≤ 100000) : RV (fun x y H Q => ∃ i j, x = .str i ∧ y = .str j ∧ i.length + j.length ≤ sizeLine ∧ Q (.str (i ++ j)) H) (.str x) (.str y) H (.str (x ++ y)) := rv_val fun H1 _ Q q => ⟨x, y, rfl, rfl, sz_of h, q⟩
theorem ev_slS {tl th : TO} {z : Str} {lo hi : Option Int} (h : Ev te σ H (.str z)) (h1 : EvO tl σ H lo) (h2 : EvO th σ H hi) (hz : z.length ≤ 100000) : Ev (tSl rSlS te tl th) σ H (.str (cutS z lo hi)) := fun H1 e Q q =>
  h H1 e _ fun H2 e2 => h1 H2 (e.trans e2) _ fun H3 e3 => h2 H3 (e.trans (e2.trans e3)) _ fun H4 e4 => ⟨z, rfl, sz_of hz, q H4 (e2.trans (e3.trans e4))⟩
theorem ev_allN {bs : List Bool} (h : EvL te σ H (bs.map V.bl)) : Ev (tCB (rAll K) (tCons te tNil)) σ H (.bl (bs.all id)) := fun H1 e Q q =>
  h H1 e _ fun p H2 hp e2 h2 => ⟨p, bs, rfl, sq_of h2, q H2 e2⟩
end
/-- z[1:] -/
theorem cut_tail (z : Str) : (cutS z (some 1) none).cps.toList = z.cps.toList.drop 1 := by
  have e : HT.sIx z.length 0 (some 1) = min 1 z.length := by
    have := HT.sIx_nat z.length 0 1
    exact this
  show ((z.cps.toList.drop (HT.sIx z.length 0 (some 1))).take (HT.sIx z.length z.length none - HT.sIx z.length 0 (some 1))).toArray.toList = _
  rw [e, HT.sIx_none, ← len_cps]
  simp only [List.toList_toArray]
  cases z.cps.toList with
  | nil => rfl
  | cons c r =>
    have m : min 1 (c :: r).length = 1 := by simp
    rw [m, List.drop_succ_cons, List.drop_zero, List.take_of_length_le (by simp)]
/-- z[:1] -/
theorem cut_head (z : Str) : (cutS z none (some 1)).cps.toList = z.cps.toList.take 1 := by
  have e : HT.sIx z.length z.length (some 1) = min 1 z.length := HT.sIx_nat z.length z.length 1
  show ((z.cps.toList.drop (HT.sIx z.length 0 none)).take (HT.sIx z.length z.length (some 1) - HT.sIx z.length 0 none)).toArray.toList = _
  rw [e, HT.sIx_none, ← len_cps]
  simp only [List.toList_toArray, List.drop_zero, Nat.sub_zero]
  cases z.cps.toList with
  | nil => rfl
  | cons c r =>
    have m : min 1 (c :: r).length = 1 := by simp
    rw [m]
theorem varS_eq (z : Str) : varS z = (decide (V.str (cutS z none (some 1)) = V.str "?") && nameS (cutS z (some 1) none)) := by
  unfold varS nameS varC
  rw [cut_tail]
  have h1 : (cutS z none (some 1) = "?") ↔ z.cps.toList.take 1 = [63] := by
    constructor
    · intro e
      rw [← cut_head, e]
      rfl
    · intro e
      exact str_ext (by rw [cut_head, e]; rfl)
  have h2 : decide (V.str (cutS z none (some 1)) = V.str "?") = decide (z.cps.toList.take 1 = [63]) := by
    by_cases c : z.cps.toList.take 1 = [63]
    · rw [decide_eq_true c, decide_eq_true (by rw [h1.mpr c])]
    · rw [decide_eq_false c, decide_eq_false fun e => c (h1.mp (V.str.inj e))]
  rw [h2]
  cases z.cps.toList with
  | nil => rfl
  | cons c r => simp
end G39

namespace G39
open PySem PySem.Spec PyProof.Rows L2 Evl
section
variable {K : PySem.W.Frag} {σ : L2.St} {H : Hp} {te tl tl1 : TE} {j k : Nat} {vs vs1 : List Nat} {wi : TI}
theorem yes_go {σ : L2.St} {H : Hp} {Q : Bool → Hp → Prop} (h : Q true H) : tYes σ H Q := h
/-- what a walk over xs is, once it begins -/
def Src1 (wi : TI) (σ : L2.St) (H : Hp) (xs : List V) : Prop := ∀ H0, Ex H H0 → ∀ R : It → Hp → Prop, (∀ J H1 G, Ex H0 H1 → Walk J xs.length G (YOf xs id) → (∀ H', Ex H1 H' → G H') → R J H1) → wi σ H0 R
theorem src_list {xs : List V} (h : EvP tl σ H fun v H' => ∃ a, v = .ref a ∧ H' a = some (.lst xs)) : Src1 (iList K tl) σ H xs := fun H0 e R q =>
  h H0 e _ fun v H1 e1 ⟨a, ev, ha⟩ => ⟨a, ev, ⟨xs, sq_of ha⟩, q _ H1 (fun H' => SqL K H' a xs) e1 (walk_list.mono (fun _ z => z) fun i H x H' _ _ y => ⟨y.1, x, y.2, rfl⟩) fun H' e' => sq_of (e' _ _ ha)⟩
theorem src_tup {xs : List V} (h : EvP tl σ H fun v H' => ∃ a, v = .ref a ∧ H' a = some (.tup xs)) : Src1 (iTup K tl) σ H xs := fun H0 e R q =>
  h H0 e _ fun v H1 e1 ⟨a, ev, ha⟩ => ⟨a, ev, ⟨xs, st_of ha⟩, q _ H1 (fun H' => SqT K H' a xs) e1 (walk_tup.mono (fun _ z => z) fun i H x H' _ _ y => ⟨y.1, x, y.2, rfl⟩) fun H' e' => st_of (e' _ _ ha)⟩
/-- [g(y) for x in xs for y in inn(x)] -/
theorem el_c2 {xs : List V} {inn : V → List V} {g : V → V} (h : Src1 wi σ H xs) (hz : (xs.flatMap inn).length ≤ 40000) (hw : ∀ x, wipe ((wipe σ vs).set j (some x)) vs = wipe σ vs)
    (hw1 : ∀ x y, wipe ((wipe ((wipe σ vs).set j (some x)) vs1).set k (some y)) vs1 = wipe ((wipe σ vs).set j (some x)) vs1)
    (hi : ∀ x ∈ xs, ∀ H1, Ex H H1 → EvP tl1 ((wipe σ vs).set j (some x)) H1 fun v H' => ∃ a, v = .ref a ∧ H' a = some (.tup (inn x)))
    (he : ∀ x ∈ xs, ∀ y ∈ inn x, ∀ H1, Ex H H1 → Ev te ((wipe ((wipe σ vs).set j (some x)) vs1).set k (some y)) H1 (g y)) :
    EvL (tLc2 wi (gName j) tYes (iTup K tl1) (gName k) tYes te vs vs1) σ H (xs.flatMap fun x => (inn x).map g) := fun H0 e Q q => h H0 e _ fun J H1 G e1 wk hG D hD => by
  have lens : ∀ ys : List V, (ys.flatMap fun x => (inn x).map g).length = (ys.flatMap inn).length := fun ys => by
    induction ys with
    | nil => rfl
    | cons y ys ih => rw [List.flatMap_cons, List.flatMap_cons, List.length_append, List.length_append, ih, List.length_map]
  have pre : ∀ i, ((xs.take i).flatMap inn).length ≤ (xs.flatMap inn).length := fun i => by
    have z : xs.flatMap inn = (xs.take i).flatMap inn ++ (xs.drop i).flatMap inn := by
      rw [← List.flatMap_append, List.take_append_drop]
    rw [z, List.length_append]
    omega
  refine ⟨fun i m H' => m = xs.length - i ∧ i ≤ xs.length ∧ Ex H1 H' ∧ H' D = some (.lst ((xs.take i).flatMap fun x => (inn x).map g)), ⟨xs.length, by simp, Nat.zero_le _, Ex.new hD, upd_same⟩, ?_⟩
  rintro i m H' ⟨rfl, hle, e2, hd⟩
  by_cases hlt : i < xs.length
  · refine .inr ⟨wk.goes i H' hlt (hG H' e2), fun H'' => Ex H1 H'' ∧ H'' D = some (.lst ((xs.take (i + 1)).flatMap fun x => (inn x).map g)), fun H'' p => ⟨xs.length - (i + 1), by omega, rfl, hlt, p.1, p.2⟩, fun x H'' y => ?_⟩
    obtain ⟨hH, a, ha, hxa⟩ := wk.yields i H' x H'' hlt (hG H' e2) y
    have hxa : x = a := hxa
    subst hxa
    subst hH
    have hm := List.mem_of_getElem? ha
    have tk : (xs.take (i + 1)).flatMap (fun x => (inn x).map g) = (xs.take i).flatMap (fun x => (inn x).map g) ++ (inn x).map g := by
      rw [List.take_add_one, ha, List.flatMap_append]
      simp
    have tkl : ((xs.take (i + 1)).flatMap inn).length = ((xs.take i).flatMap inn).length + (inn x).length := by
      rw [List.take_add_one, ha, List.flatMap_append, List.length_append]
      simp
    have hpre := pre (i + 1)
    refine ⟨hw _, ?_⟩
    refine yes_go (iteT ?_)
    refine hi x hm _ (e.trans (e1.trans e2)) _ (Ex.refl _) _ fun v H3 e3 ⟨b, ev, hb⟩ => ⟨b, ev, ⟨_, st_of hb⟩, ?_⟩
    have hd3 := e3 _ _ hd
    have hbD : b ≠ D := fun z => by
      rw [z, hd3] at hb
      cases hb
    refine ⟨fun u n H4 => n = (inn x).length - u ∧ u ≤ (inn x).length ∧ (∀ c o, c ≠ D → H3 c = some o → H4 c = some o) ∧ H4 D = some (.lst (((xs.take i).flatMap fun x => (inn x).map g) ++ ((inn x).take u).map g)),
      ⟨(inn x).length, by simp, Nat.zero_le _, fun _ _ _ z => z, by simpa using hd3⟩, ?_⟩
    rintro u n H4 ⟨rfl, hu, kp, hd4⟩
    have hb4 := kp _ _ hbD hb
    have ex4 : Ex H1 H4 := fun c o z => kp c o (ne_of_none z hD) ((e2.trans e3) c o z)
    by_cases hul : u < (inn x).length
    · have wk1 := walk_tup (K := K) (a := b) (xs := inn x)
      refine .inr ⟨wk1.goes u H4 hul (st_of hb4), fun H5 => (∀ c o, c ≠ D → H3 c = some o → H5 c = some o) ∧ H5 D = some (.lst (((xs.take i).flatMap fun x => (inn x).map g) ++ ((inn x).take (u + 1)).map g)),
        fun H5 p => ⟨(inn x).length - (u + 1), by omega, rfl, hul, p.1, p.2⟩, fun y' H5 yy => ?_⟩
      obtain ⟨hH5, hy⟩ := wk1.yields u H4 y' H5 hul (st_of hb4) yy
      subst hH5
      have hym := List.mem_of_getElem? hy
      refine ⟨hw1 _ _, ?_⟩
      refine yes_go (iteT ?_)
      refine he x hm y' hym H5 (e.trans (e1.trans ex4)) H5 (Ex.refl _) _ fun H6 e6 => ⟨_, e6 _ _ hd4, ?_, fun c o hc z => ?_, ?_⟩
      · rw [List.length_append, lens, List.length_map, List.length_take, sizeLine_eq]
        omega
      · rw [upd_ne hc]
        exact e6 _ _ (kp c o hc z)
      · rw [upd_same, List.append_assoc, List.take_add_one, hy]
        simp
    · have eu : u = (inn x).length := by omega
      subst eu
      refine .inl ⟨(walk_tup (K := K) (a := b) (xs := inn x)).stops H4 (st_of hb4), ex4, ?_⟩
      rw [tk, hd4, List.take_length]
  · have ei : i = xs.length := by omega
    subst ei
    rw [List.take_length] at hd
    exact .inl ⟨wk.stops H' (hG H' e2), q D H' (fresh_back e1 hD) (e1.trans e2) hd⟩
end
/-! ascending texts -/
def leS (a b : Str) : Prop := a.cps.toList ≤ b.cps.toList
theorem leS_of {a b : Str} (h : ltCps b.cps.toList a.cps.toList = false) : leS a b := by
  rw [ltCps_eq] at h
  exact of_decide_eq_false h
theorem rising_all : ∀ (l : List Str) (p : Str), risingS p l = true → (∀ x ∈ l, leS p x) ∧ l.Pairwise leS
  | [], _, _ => ⟨fun _ h => (nomatch h), .nil⟩
  | x :: r, p, h => by
    have h' : ltCps x.cps.toList p.cps.toList = false ∧ risingS x r = true := by simpa [risingS] using h
    obtain ⟨h1, h2⟩ := rising_all r x h'.2
    have px : leS p x := leS_of h'.1
    refine ⟨fun y hy => ?_, List.pairwise_cons.mpr ⟨h1, h2⟩⟩
    rcases List.mem_cons.mp hy with rfl | hy
    · exact px
    · exact List.le_trans px (h1 y hy)
theorem sorted_pw {l : List Str} (h : sortedS l = true) : l.Pairwise leS := by
  cases l with
  | nil => exact .nil
  | cons x r =>
    obtain ⟨h1, h2⟩ := rising_all r x h
    exact List.pairwise_cons.mpr ⟨h1, h2⟩
theorem sorted_one {l m : List Str} (hl : sortedS l = true) (hm : sortedS m = true) (p : l.Perm m) : l = m :=
  List.Perm.eq_of_pairwise (fun a b _ _ h1 h2 => str_ext (List.le_antisymm h1 h2)) (sorted_pw hl) (sorted_pw hm) p
/-! a set of texts, made by a comprehension and sorted -/
section
variable {w : World} {K : PySem.W.Frag} {σ : L2.St} {H : Hp} {te : TE} {t : TT} {j : Nat} {vs : List Nat} {wi : TI}
theorem plus_len (L : List Str) (k : Str) : (plus L k).length ≤ L.length + 1 := by
  unfold plus
  split
  · omega
  · simp
theorem fold_len : ∀ (xs : List Str) (L : List Str), (xs.foldl plus L).length ≤ L.length + xs.length
  | [], L => by simp
  | x :: xs, L => by
    have h1 := fold_len xs (plus L x)
    have h2 := plus_len L x
    rw [List.foldl_cons, List.length_cons]
    omega
theorem ep_sg {xs : List Str} {f : Str → Bool} (h : Src1 wi σ H (xs.map V.str)) (hz : xs.length ≤ 900) (hw : ∀ x, wipe ((wipe σ vs).set j (some x)) vs = wipe σ vs)
    (ht : ∀ x ∈ xs, ∀ H1, Ex H H1 → EvT t ((wipe σ vs).set j (some (.str x))) H1 (f x)) (he : ∀ x ∈ xs, f x = true → ∀ H1, Ex H H1 → Ev te ((wipe σ vs).set j (some (.str x))) H1 (.str x)) :
    EvP (tSg (fun D => SetTx w D []) (addTx w) wi (gName j) t te vs) σ H fun v H' => ∃ a, v = .ref a ∧ H' a = some (SetTx w a ((xs.filter f).foldl plus [])) := fun H0 e Q q => h H0 e _ fun J H1 G e1 wk hG D hD => by
  rw [List.length_map] at wk
  refine ⟨fun i m H' => m = xs.length - i ∧ i ≤ xs.length ∧ Ex H1 H' ∧ H' D = some (SetTx w D (((xs.take i).filter f).foldl plus [])), ⟨xs.length, by simp, Nat.zero_le _, Ex.new hD, upd_same⟩, ?_⟩
  rintro i m H' ⟨rfl, hle, e2, hd⟩
  by_cases hlt : i < xs.length
  · refine .inr ⟨wk.goes i H' hlt (hG H' e2), fun H'' => Ex H1 H'' ∧ H'' D = some (SetTx w D (((xs.take (i + 1)).filter f).foldl plus [])), fun H'' p => ⟨xs.length - (i + 1), by omega, rfl, hlt, p.1, p.2⟩, fun x H'' y => ?_⟩
    obtain ⟨hH, a, ha, hxa⟩ := wk.yields i H' x H'' hlt (hG H' e2) y
    have hxa : x = a := hxa
    subst hxa
    subst hH
    rw [List.getElem?_map] at ha
    obtain ⟨k, hk, rfl⟩ := Option.map_eq_some_iff.mp ha
    have hm := List.mem_of_getElem? hk
    have tk : xs.take (i + 1) = xs.take i ++ [k] := by
      rw [List.take_add_one, hk]
      rfl
    refine ⟨hw _, ht k hm _ (e.trans (e1.trans e2)) _ (Ex.refl _) _ fun H3 e3 => ?_⟩
    cases hf : f k with
    | true =>
      refine iteT (he k hm hf _ (e.trans (e1.trans (e2.trans e3))) _ (Ex.refl _) _ fun H4 e4 => ⟨k, _, rfl, e4 _ _ (e3 _ _ hd), ?_, Ex.mut (e2.trans (e3.trans e4)) hD, ?_⟩)
      · have z := fold_len ((xs.take i).filter f) []
        have z2 : ((xs.take i).filter f).length ≤ xs.length := Nat.le_trans (List.length_filter_le _ _) (by rw [List.length_take]; exact Nat.min_le_right _ _)
        simp only [List.length_nil, Nat.zero_add] at z
        omega
      · rw [tk, List.filter_append, List.filter_cons, if_pos hf, List.filter_nil, List.foldl_append]
        exact upd_same
    | false =>
      refine iteF ⟨e2.trans e3, ?_⟩
      rw [tk, List.filter_append, List.filter_cons, if_neg (by rw [hf]; exact Bool.false_ne_true), List.filter_nil, List.append_nil]
      exact e3 _ _ hd
  · have ei : i = xs.length := by omega
    subst ei
    rw [List.take_length] at hd
    refine .inl ⟨wk.stops H' (hG H' e2), q (.ref D) H' (e1.trans e2) ⟨D, rfl, hd⟩⟩
/-- sorted({..}) -/
theorem el_sorted {L : List Str} (h : EvP te σ H fun v H' => ∃ a, v = .ref a ∧ H' a = some (SetTx w a L)) (h64 : L.length < 64) :
    EvP (tCB (rSortTx w) (tCons te tNil)) σ H fun v H' => ∃ p ys, v = .ref p ∧ H' p = some (.lst (ys.map V.str)) ∧ ys.Perm L ∧ sortedS ys = true := fun H1 e Q q =>
  h H1 e _ fun v H2 e2 ⟨a, ev, ha⟩ => ⟨a, L, by rw [ev], ha, h64, fun ys p hp hs hn => q (.ref p) _ (e2.trans (Ex.new hn)) ⟨p, ys, rfl, upd_same, hp, hs⟩⟩
end
end G39

/-! texts cut at a sign -/
namespace G39
open PySem PySem.Spec PyProof.Rows L2 Evl PySem.Builtin PySem.Builtin.Str
/-- what stands before the first c, and behind it -/
def cutAt (c : Nat) : List Nat → Option (List Nat × List Nat)
  | [] => none
  | x :: r => if x = c then some ([], r) else (cutAt c r).map fun p => (x :: p.1, p.2)
theorem cutAt_none {c : Nat} : ∀ {l : List Nat}, cutAt c l = none → c ∉ l
  | [], _ => by simp
  | x :: r, h => by
    unfold cutAt at h
    by_cases e : x = c
    · rw [if_pos e] at h
      cases h
    · rw [if_neg e] at h
      have := cutAt_none (l := r) (by simpa using h)
      simp [this, Ne.symm e]
theorem cutAt_some {c : Nat} : ∀ {l a b : List Nat}, cutAt c l = some (a, b) → l = a ++ c :: b ∧ c ∉ a
  | [], _, _, h => by cases h
  | x :: r, a, b, h => by
    unfold cutAt at h
    by_cases e : x = c
    · rw [if_pos e] at h
      cases h
      simp [e]
    · rw [if_neg e] at h
      cases q : cutAt c r with
      | none =>
        rw [q] at h
        cases h
      | some p =>
        rw [q] at h
        cases h
        obtain ⟨h1, h2⟩ := cutAt_some (l := r) (a := p.1) (b := p.2) q
        refine ⟨by rw [List.cons_append, ← h1], ?_⟩
        simp [h2, Ne.symm e]
theorem cutAt_of {c : Nat} : ∀ {a b : List Nat}, c ∉ a → cutAt c (a ++ c :: b) = some (a, b)
  | [], b, _ => by simp [cutAt]
  | x :: r, b, h => by
    have hx : ¬ x = c := fun e => h (by rw [e]; exact List.mem_cons_self ..)
    have := cutAt_of (a := r) (b := b) fun z => h (List.mem_cons_of_mem _ z)
    rw [List.cons_append]
    unfold cutAt
    rw [if_neg hx, this]
    rfl
theorem sign_at (x : Str) (c i : Nat) : StrLaws.At x ⟨#[c]⟩ x.length i ↔ x.cps.toList[i]? = some c := StrLaws.subAt_one x c i
theorem first_at {c : Nat} {a b : List Nat} (h : c ∉ a) {i : Nat} (hi : (a ++ c :: b)[i]? = some c) (hn : ∀ k, k < i → ¬ (a ++ c :: b)[k]? = some c) : i = a.length := by
  rcases Nat.lt_trichotomy i a.length with z | z | z
  · rw [List.getElem?_append_left z] at hi
    exact absurd (List.mem_of_getElem? hi) h
  · exact z
  · exact absurd (by rw [List.getElem?_append_right (Nat.le_refl _)]; simp) (hn a.length z)
theorem part_none {x : Str} {c : Nat} (h : c ∉ x.cps.toList) : Txt.partition x ⟨#[c]⟩ = (x, Str.empty, Str.empty) := by
  rcases partition_whole x ⟨#[c]⟩ with ⟨h1, _⟩ | ⟨i, _, hi, _⟩
  · exact h1
  · exact absurd (List.mem_of_getElem? ((sign_at x c i).mp hi)) h
theorem part_some {x : Str} {c : Nat} {a b : List Nat} (e : x.cps.toList = a ++ c :: b) (h : c ∉ a) : Txt.partition x ⟨#[c]⟩ = (ofC a, ⟨#[c]⟩, ofC b) := by
  rcases partition_whole x ⟨#[c]⟩ with ⟨_, hn⟩ | ⟨i, hp, hi, hn⟩
  · exact absurd ((sign_at x c a.length).mpr (by rw [e, List.getElem?_append_right (Nat.le_refl _)]; simp)) (hn a.length)
  · have hi' := (sign_at x c i).mp hi
    rw [e] at hi'
    have ei := first_at h hi' fun k hk z => hn k hk ((sign_at x c k).mpr (by rw [e]; exact z))
    subst ei
    rw [hp]
    refine Prod.ext (str_ext ?_) (Prod.ext rfl (str_ext ?_))
    · show (strSub x 0 a.length).cps.toList = _
      rw [StrLaws.strSub_toList, e, ofC_cps]
      simp
    · show (strSub x (a.length + 1) x.length).cps.toList = _
      rw [StrLaws.strSub_toList, ofC_cps]
      have e1 : x.length = (a ++ c :: b).length := by rw [← e, len_cps]
      have e2 : x.cps.toList.drop (a.length + 1) = b := by
        rw [e, List.drop_append, List.drop_of_length_le (by omega)]
        simp
      rw [e2]
      exact List.take_of_length_le (by rw [e1]; simp; omega)
theorem find_none {x : Str} {c : Nat} (h : c ∉ x.cps.toList) : Txt.find x ⟨#[c]⟩ = -1 := by
  rcases find_whole x ⟨#[c]⟩ with ⟨h1, _⟩ | ⟨i, _, hi, _⟩
  · exact h1
  · exact absurd (List.mem_of_getElem? ((sign_at x c i).mp hi)) h
theorem find_some {x : Str} {c : Nat} {a b : List Nat} (e : x.cps.toList = a ++ c :: b) (h : c ∉ a) : Txt.find x ⟨#[c]⟩ = (a.length : Int) := by
  rcases find_whole x ⟨#[c]⟩ with ⟨_, hn⟩ | ⟨i, hp, hi, hn⟩
  · exact absurd ((sign_at x c a.length).mpr (by rw [e, List.getElem?_append_right (Nat.le_refl _)]; simp)) (hn a.length)
  · have hi' := (sign_at x c i).mp hi
    rw [e] at hi'
    have ei := first_at h hi' fun k hk z => hn k hk ((sign_at x c k).mpr (by rw [e]; exact z))
    rw [hp, ei]
/-! texts joined by a sign, and split again -/
theorem join_cps (c : Nat) (x : Str) (y : Str) (r : List Str) : (Str.join ⟨#[c]⟩ (x :: y :: r)).cps.toList = x.cps.toList ++ c :: (Str.join ⟨#[c]⟩ (y :: r)).cps.toList := by
  show ((x ++ ⟨#[c]⟩) ++ Str.join ⟨#[c]⟩ (y :: r)).cps.toList = _
  rw [cps_add, cps_add]
  simp
theorem join_inj (c : Nat) : ∀ (ys zs : List Str), ys ≠ [] → zs ≠ [] → (∀ y ∈ ys, c ∉ y.cps.toList) → (∀ y ∈ zs, c ∉ y.cps.toList) → (Str.join ⟨#[c]⟩ ys).cps.toList = (Str.join ⟨#[c]⟩ zs).cps.toList → ys = zs
  | [], _, h, _, _, _, _ => absurd rfl h
  | _, [], _, h, _, _, _ => absurd rfl h
  | [y], [z], _, _, _, _, e => by rw [str_ext (x := y) (y := z) e]
  | [y], z :: z2 :: r, _, _, h1, _, e => by
    rw [join_cps] at e
    have e : y.cps.toList = _ := e
    exact absurd (by rw [e]; simp) (h1 y (List.mem_cons_self ..))
  | y :: y2 :: r, [z], _, _, _, h2, e => by
    rw [join_cps] at e
    have e : _ = z.cps.toList := e
    exact absurd (by rw [← e]; simp) (h2 z (List.mem_cons_self ..))
  | y :: y2 :: r, z :: z2 :: q, _, _, h1, h2, e => by
    rw [join_cps, join_cps] at e
    have a1 := cutAt_of (b := (Str.join ⟨#[c]⟩ (y2 :: r)).cps.toList) (h1 y (List.mem_cons_self ..))
    have a2 := cutAt_of (b := (Str.join ⟨#[c]⟩ (z2 :: q)).cps.toList) (h2 z (List.mem_cons_self ..))
    rw [e, a2] at a1
    cases Option.some.inj a1 ▸ (rfl : (z.cps.toList, (Str.join ⟨#[c]⟩ (z2 :: q)).cps.toList) = _) with
    | refl =>
      have b1 : z.cps.toList = y.cps.toList := congrArg Prod.fst (Option.some.inj a1)
      have b2 : (Str.join ⟨#[c]⟩ (z2 :: q)).cps.toList = (Str.join ⟨#[c]⟩ (y2 :: r)).cps.toList := congrArg Prod.snd (Option.some.inj a1)
      rw [str_ext b1, join_inj c (y2 :: r) (z2 :: q) (by simp) (by simp) (fun w hw => h1 w (List.mem_cons_of_mem _ hw)) (fun w hw => h2 w (List.mem_cons_of_mem _ hw)) b2.symm]
theorem split_join {c : Nat} {ys : List Str} (h0 : ys ≠ []) (h : ∀ y ∈ ys, c ∉ y.cps.toList) : Txt.split (Str.join ⟨#[c]⟩ ys) ⟨#[c]⟩ = ys := by
  refine join_inj c _ ys (fun z => ?_) h0 (StrLaws.split_free _ c) h (by rw [StrLaws.join_split])
  have := split_pos (Str.join ⟨#[c]⟩ ys) ⟨#[c]⟩
  rw [z] at this
  cases this
/-- a part of a text split is no longer than it -/
theorem split_each {x : Str} {c : Nat} {y : Str} (h : y ∈ Txt.split x ⟨#[c]⟩) : y.length ≤ x.length := by
  have w := split_weight x ⟨#[c]⟩ (Nat.le_refl 1)
  have : y.length ≤ ((Txt.split x ⟨#[c]⟩).map (·.length)).sum := by
    generalize Txt.split x ⟨#[c]⟩ = l at h
    clear w
    induction l with
    | nil => cases h
    | cons a l ih =>
      rw [List.map_cons, List.sum_cons]
      rcases List.mem_cons.mp h with rfl | h
      · omega
      · have := ih h
        omega
  have p := split_pos x ⟨#[c]⟩
  omega
theorem split_len (x : Str) (c : Nat) : (Txt.split x ⟨#[c]⟩).length ≤ x.length + 1 := by
  have w := split_weight x ⟨#[c]⟩ (Nat.le_refl 1)
  omega
/-! cuts of a text -/
/-- x[-1:] -/
theorem cut_last (z : Str) : (cutS z (some (-1)) none).cps.toList = z.cps.toList.drop (z.cps.toList.length - 1) := by
  have e : HT.sIx z.length 0 (some (-1)) = z.length - 1 := by
    unfold HT.sIx
    simp
    try omega
  show ((z.cps.toList.drop (HT.sIx z.length 0 (some (-1)))).take (HT.sIx z.length z.length none - HT.sIx z.length 0 (some (-1)))).toArray.toList = _
  rw [e, HT.sIx_none, ← len_cps]
  simp only [List.toList_toArray]
  exact List.take_of_length_le (by simp)
/-- x[:-1] -/
theorem cut_init (z : Str) : (cutS z none (some (-1))).cps.toList = z.cps.toList.dropLast := by
  have e : HT.sIx z.length z.length (some (-1)) = z.length - 1 := by
    unfold HT.sIx
    simp
    try omega
  show ((z.cps.toList.drop (HT.sIx z.length 0 none)).take (HT.sIx z.length z.length (some (-1)) - HT.sIx z.length 0 none)).toArray.toList = _
  rw [e, HT.sIx_none, ← len_cps]
  simp only [List.toList_toArray, List.drop_zero, Nat.sub_zero]
  rw [List.dropLast_eq_take]
/-- x[:n] -/
theorem cut_to (z : Str) {n : Nat} (h : n ≤ z.length) : (cutS z none (some (n : Int))).cps.toList = z.cps.toList.take n := by
  have e : HT.sIx z.length z.length (some (n : Int)) = min n z.length := HT.sIx_nat z.length z.length n
  show ((z.cps.toList.drop (HT.sIx z.length 0 none)).take (HT.sIx z.length z.length (some (n : Int)) - HT.sIx z.length 0 none)).toArray.toList = _
  rw [e, HT.sIx_none]
  simp only [List.toList_toArray, List.drop_zero, Nat.sub_zero]
  rw [Nat.min_eq_left h]
/-- x[n:] -/
theorem cut_from (z : Str) (n : Nat) : (cutS z (some (n : Int)) none).cps.toList = z.cps.toList.drop n := by
  have e : HT.sIx z.length 0 (some (n : Int)) = min n z.length := HT.sIx_nat z.length 0 n
  show ((z.cps.toList.drop (HT.sIx z.length 0 (some (n : Int)))).take (HT.sIx z.length z.length none - HT.sIx z.length 0 (some (n : Int)))).toArray.toList = _
  rw [e, HT.sIx_none, ← len_cps]
  simp only [List.toList_toArray]
  rcases Nat.le_total n z.cps.toList.length with h | h
  · rw [Nat.min_eq_left h]
    exact List.take_of_length_le (by simp)
  · rw [Nat.min_eq_right h, List.drop_of_length_le h, List.drop_of_length_le (Nat.le_refl _)]
    simp
/-- x[n:-1] -/
theorem cut_mid (z : Str) (n : Nat) : (cutS z (some (n : Int)) (some (-1))).cps.toList = (z.cps.toList.drop n).dropLast := by
  have e : HT.sIx z.length 0 (some (n : Int)) = min n z.length := HT.sIx_nat z.length 0 n
  have e2 : HT.sIx z.length z.length (some (-1)) = z.length - 1 := by
    unfold HT.sIx
    simp
    try omega
  show ((z.cps.toList.drop (HT.sIx z.length 0 (some (n : Int)))).take (HT.sIx z.length z.length (some (-1)) - HT.sIx z.length 0 (some (n : Int)))).toArray.toList = _
  rw [e, e2, ← len_cps]
  simp only [List.toList_toArray]
  rw [List.dropLast_eq_take, List.length_drop]
  rcases Nat.le_total n z.cps.toList.length with h | h
  · rw [Nat.min_eq_left h]
    congr 1
    omega
  · rw [Nat.min_eq_right h, List.drop_of_length_le h, List.drop_of_length_le (Nat.le_refl _)]
    simp
end G39
namespace G39
open PySem PySem.Spec PyProof.Rows L2 Evl PySem.Builtin PySem.Builtin.Str
theorem join_mem (c : Nat) : ∀ (l : List Str) (y : Str), y ∈ l → ∀ d ∈ y.cps.toList, d ∈ (Str.join ⟨#[c]⟩ l).cps.toList
  | [], _, h, _, _ => (nomatch h)
  | [x], y, h, d, hd => by
    rw [List.mem_singleton.mp h] at hd
    exact hd
  | x :: z :: r, y, h, d, hd => by
    rw [join_cps]
    rcases List.mem_cons.mp h with rfl | h
    · exact List.mem_append_left _ hd
    · exact List.mem_append_right _ (List.mem_cons_of_mem _ (join_mem c (z :: r) y h d hd))
theorem split_mem {x : Str} {c : Nat} {y : Str} (h : y ∈ Txt.split x ⟨#[c]⟩) {d : Nat} (hd : d ∈ y.cps.toList) : d ∈ x.cps.toList := by
  have := join_mem c _ y h d hd
  rwa [StrLaws.join_split] at this
end G39

set_option maxHeartbeats 400000
/-! draws: the law's source, a list of three numbers at sa, changes; all else stays -/
namespace G39
open PySem PySem.Spec PyProof.Rows L2 Evl
/-- the source of draws at sa: at most n of them so far -/
def Src (H : Hp) (sa : Addr) (n : Nat) : Prop := ∃ (cell cur : Int) (c : Nat), H sa = some (.lst [.int cell, .int cur, .int c]) ∧ c ≤ n ∧ Builtin.Int.intBits cell ≤ 1048576
/-- all but the object at a stays -/
def XB (a : Addr) (H H' : Hp) : Prop := ∀ b o, b ≠ a → H b = some o → H' b = some o
theorem XB.refl (a : Addr) (H : Hp) : XB a H H := fun _ _ _ h => h
theorem XB.trans {a : Addr} {H H1 H2 : Hp} (x : XB a H H1) (y : XB a H1 H2) : XB a H H2 := fun b o n h => y b o n (x b o n h)
theorem XB.ex {a : Addr} {H H1 : Hp} (x : Ex H H1) : XB a H H1 := fun b o _ h => x b o h
theorem XB.upd {a : Addr} {H : Hp} {o : HO} : XB a H (L2.upd H a o) := fun b u n h => by
  rw [upd_ne n]
  exact h
theorem Src.mono {H : Hp} {sa : Addr} {n m : Nat} (h : Src H sa n) (hm : n ≤ m) : Src H sa m := by
  obtain ⟨c, u, k, h1, h2, h3⟩ := h
  exact ⟨c, u, k, h1, by omega, h3⟩
theorem Src.ex {H H' : Hp} {sa : Addr} {n : Nat} (h : Src H sa n) (e : Ex H H') : Src H' sa n := by
  obtain ⟨c, u, k, h1, h2, h3⟩ := h
  exact ⟨c, u, k, e _ _ h1, h2, h3⟩
theorem Src.keep {H H' : Hp} {sa : Addr} {n : Nat} (h : Src H sa n) (e : ∀ o, H sa = some o → H' sa = some o) : Src H' sa n := by
  obtain ⟨c, u, k, h1, h2, h3⟩ := h
  exact ⟨c, u, k, e _ h1, h2, h3⟩
theorem Src.ne {H : Hp} {sa p : Addr} {n : Nat} (h : Src H sa n) (hp : H p = none) : p ≠ sa := fun z => by
  obtain ⟨c, u, k, h1, _⟩ := h
  rw [z, h1] at hp
  cases hp
theorem Src.neT {H : Hp} {sa p : Addr} {n : Nat} {xs : List V} (h : Src H sa n) (hp : H p = some (.tup xs)) : p ≠ sa := fun z => by
  obtain ⟨c, u, k, h1, _⟩ := h
  rw [z, h1] at hp
  cases hp
theorem xb_back {sa : Addr} {H H' : Hp} {p : Addr} (x : XB sa H H') (hne : p ≠ sa) (h : H' p = none) : H p = none := by
  cases q : H p with
  | none => rfl
  | some o =>
    rw [x p o hne q] at h
    cases h
def spSource : Sp := fun vs H Q _ => ∃ cell : Int, vs = [.int cell] ∧ Builtin.Int.intBits cell ≤ 1048576 ∧ ∀ p H', H p = none → Ex H H' → Src H' p 0 → Q (.ref p) H'
def spDraw : Sp := fun vs H Q _ => ∃ (sa : Addr) (n : Nat) (lim : Int), vs = [.ref sa, .int lim] ∧ Src H sa n ∧ n ≤ 1000000 ∧ 0 < lim ∧ lim ≤ 1000000 ∧
  ∀ (v : Int) H', 0 ≤ v → v < lim → XB sa H H' → Src H' sa (n + 1) → Q (.int v) H'
theorem rc_int {H : Hp} {i : Int} : RC (fun xs H Q => (∃ i, xs = [.int i] ∧ Q (.int i) H) ∨ ∃ k, xs = [.bl k] ∧ Q (.int (if k then 1 else 0)) H) [.int i] H (.int i) :=
  fun H1 _ _ q => .inl ⟨i, rfl, q H1 (Ex.refl H1)⟩
theorem ev_int {σ : L2.St} {H : Hp} {te : TE} {i : Int} (h : Ev te σ H (.int i)) : Ev (tCB (fun xs H Q => (∃ i, xs = [.int i] ∧ Q (.int i) H) ∨ ∃ k, xs = [.bl k] ∧ Q (.int (if k then 1 else 0)) H) (tCons te tNil)) σ H (.int i) :=
  ev_cb (ea_cons h ea_nil) rc_int
theorem ev_ixL {K : PySem.W.Frag} {σ : L2.St} {H : Hp} {p : Addr} {xs : List V} {i : Nat} {j : Nat} {v : V} (hs : σ[i]? = some (some (.ref p))) (h : H p = some (.lst xs)) (hx : xs[j]? = some v) : Ev (tOp (rIxL K) (tVar i) (tC (.int (j : Int)))) σ H v :=
  ev_op (ev_var hs) ev_c (rv_ixL (sq_of h) (atI_nat hx))
/-! what is evaluated, with k draws at most -/
def Ed (sa : Addr) (k : Nat) (te : TE) (σ : L2.St) (H : Hp) (R : V → Hp → Prop) : Prop := ∀ H1 n, XB sa H H1 → Src H1 sa n → n + k ≤ 100000 → ∀ Q : VK, (∀ v H2, XB sa H1 H2 → Src H2 sa (n + k) → R v H2 → Q v H2) → te σ H1 Q
section
variable {K : PySem.W.Frag} {sa : Addr} {σ : L2.St} {H : Hp} {te ta tb : TE} {k : Nat} {R : V → Hp → Prop}
theorem ed_pure {v : V} (h : ∀ H1, XB sa H H1 → Ev te σ H1 v) : Ed sa 0 te σ H (fun u _ => u = v) := fun H1 n x s hn Q q =>
  h H1 x H1 (Ex.refl _) _ fun H2 e => q v H2 (XB.ex e) (s.ex e) rfl
theorem ed_P (h : ∀ H1, XB sa H H1 → EvP te σ H1 R) : Ed sa 0 te σ H R := fun H1 n x s hn Q q =>
  h H1 x H1 (Ex.refl _) _ fun v H2 e r => q v H2 (XB.ex e) (s.ex e) r
theorem Ed.weak {m : Nat} (h : Ed sa k te σ H R) (hm : k ≤ m) : Ed sa m te σ H R := fun H1 n x s hn Q q =>
  h H1 n x s (by omega) Q fun v H2 x2 s2 r => q v H2 x2 (s2.mono (by omega)) r
theorem Ed.imp {R' : V → Hp → Prop} (h : Ed sa k te σ H R) (hr : ∀ v H1, R v H1 → R' v H1) : Ed sa k te σ H R' := fun H1 n x s hn Q q =>
  h H1 n x s hn Q fun v H2 x2 s2 r => q v H2 x2 s2 (hr v H2 r)
theorem Ed.mono {H' : Hp} (h : Ed sa k te σ H R) (x : XB sa H H') : Ed sa k te σ H' R := fun H1 n y s hn Q q => h H1 n (x.trans y) s hn Q q
/-- a draw -/
theorem ed_draw {i : Nat} {tl : TE} {lim : Nat} (hi : σ[i]? = some (some (.ref sa))) (hl : ∀ H1, XB sa H H1 → Ev tl σ H1 (.int (lim : Int))) (h0 : 0 < lim) (h1 : lim ≤ 100000) : Ed sa 1 (tCall spDraw [] E0 (tCons (tVar i) (tCons tl tNil))) σ H (fun v _ => ∃ m : Nat, v = .int m ∧ m < lim) := fun H1 n x s hn Q q =>
  ⟨_, hi, hl H1 x H1 (Ex.refl _) _ fun H2 e => ⟨sa, n, (lim : Int), rfl, s.ex e, by omega, by omega, by omega, fun v H3 v0 v1 x3 s3 => q (.int v) H3 ((XB.ex e).trans x3) s3 ⟨v.toNat, by rw [Int.toNat_of_nonneg v0], by omega⟩⟩⟩
/-- a statement with draws -/
theorem q_asgD {i n : Nat} {tz : TS} {D : Ends} (h : Ed sa k te σ H R) (s : Src H sa n) (hn : n + k ≤ 100000) (kk : ∀ v H1, XB sa H H1 → Src H1 sa (n + k) → R v H1 → tz D (σ.set i (some v)) H1) : tSeq (tAsg te (gName i)) tz D σ H :=
  h H n (XB.refl _ _) s hn _ fun v H1 x s1 r => kk v H1 x s1 r
theorem s_asgD {i n : Nat} {D : Ends} (h : Ed sa k te σ H R) (s : Src H sa n) (hn : n + k ≤ 100000) (kk : ∀ v H1, XB sa H H1 → Src H1 sa (n + k) → R v H1 → D.nx (σ.set i (some v)) H1) : tAsg te (gName i) D σ H :=
  h H n (XB.refl _ _) s hn _ fun v H1 x s1 r => kk v H1 x s1 r
theorem s_retD {n : Nat} {D : Ends} (h : Ed sa k te σ H R) (s : Src H sa n) (hn : n + k ≤ 100000) (kk : ∀ v H1, XB sa H H1 → Src H1 sa (n + k) → R v H1 → D.rt v H1) : tRet te D σ H :=
  h H n (XB.refl _ _) s hn _ fun v H1 x s1 r => kk v H1 x s1 r
/-- an item of a new list, by a draw -/
theorem ed_pick {xs : List V} (h : ∀ H1, XB sa H H1 → EvL ta σ H1 xs) (hd : Ed sa k tb σ H fun v _ => ∃ m : Nat, v = .int m ∧ m < xs.length) : Ed sa k (tOp (rIxL K) ta tb) σ H fun v _ => v ∈ xs := fun H1 n x s hn Q q =>
  h H1 x H1 (Ex.refl _) _ fun l H2 hl e hl2 => hd H2 n (x.trans (XB.ex e)) (s.ex e) hn _ fun v H3 x3 s3 ⟨m, ev, hm⟩ =>
    ⟨l, xs, m, xs[m], rfl, ev, sq_of (x3 _ _ (s.ne hl) hl2), atI_nat (List.getElem?_eq_getElem hm), q _ H3 ((XB.ex e).trans x3) s3 (List.getElem_mem hm)⟩
/-- of a known list apart from the source -/
theorem ed_pickA {xs : List V} {l : Addr} (h : ∀ H1, XB sa H H1 → Ev ta σ H1 (.ref l)) (hl : H l = some (.lst xs)) (hne : l ≠ sa) (hd : Ed sa k tb σ H fun v _ => ∃ m : Nat, v = .int m ∧ m < xs.length) : Ed sa k (tOp (rIxL K) ta tb) σ H fun v _ => v ∈ xs := fun H1 n x s hn Q q =>
  h H1 x H1 (Ex.refl _) _ fun H2 e => hd H2 n (x.trans (XB.ex e)) (s.ex e) hn _ fun v H3 x3 s3 ⟨m, ev, hm⟩ =>
    ⟨l, xs, m, xs[m], rfl, ev, sq_of (((x.trans (XB.ex e)).trans x3) _ _ hne hl), atI_nat (List.getElem?_eq_getElem hm), q _ H3 ((XB.ex e).trans x3) s3 (List.getElem_mem hm)⟩
/-- a sign of a text, by a draw -/
theorem ed_pickS {z : Str} (h : ∀ H1, XB sa H H1 → Ev ta σ H1 (.str z)) (hz : z.length ≤ 100000) (hd : Ed sa k tb σ H fun v _ => ∃ m : Nat, v = .int m ∧ m < z.cps.toList.length) : Ed sa k (tOp rIxS ta tb) σ H fun v _ => ∃ c ∈ z.cps.toList, v = .str ⟨#[c]⟩ := fun H1 n x s hn Q q =>
  h H1 x H1 (Ex.refl _) _ fun H2 e => hd H2 n (x.trans (XB.ex e)) (s.ex e) hn _ fun v H3 x3 s3 ⟨m, ev, hm⟩ =>
    ⟨z, m, z.cps.toList[m], rfl, ev, sz_of hz, atI_nat (List.getElem?_eq_getElem hm), q _ H3 ((XB.ex e).trans x3) s3 ⟨_, List.getElem_mem hm, rfl⟩⟩
/-- a + draw -/
theorem ed_plus {i : Nat} {lim : Nat} (h : ∀ H1, XB sa H H1 → Ev ta σ H1 (.int (i : Int))) (hd : Ed sa k tb σ H fun v _ => ∃ m : Nat, v = .int m ∧ m < lim) : Ed sa k (tOp (rI0 fun i j => .int (i + j)) ta tb) σ H fun v _ => ∃ m : Nat, v = .int m ∧ i ≤ m ∧ m < i + lim := fun H1 n x s hn Q q =>
  h H1 x H1 (Ex.refl _) _ fun H2 e => hd H2 n (x.trans (XB.ex e)) (s.ex e) hn _ fun v H3 x3 s3 ⟨m, ev, hm⟩ =>
    ⟨i, m, rfl, ev, q _ H3 ((XB.ex e).trans x3) s3 ⟨i + m, by simp, by omega, by omega⟩⟩
/-- [e for _ in range(..)], with draws in both -/
theorem ed_lcR {ta : TA} {j k0 kk N : Nat} {vs : List Nat} {Pm : Nat → Prop} {R : Addr → V → Hp → Prop}
    (hta : ∀ H1 n, XB sa H H1 → Src H1 sa n → n + k0 ≤ 100000 → ∀ Q : List V → Hp → Prop, (∀ (m : Nat) H2, XB sa H1 H2 → Src H2 sa (n + k0) → Pm m → Q [.int (m : Int)] H2) → ta σ H1 Q) (hP : ∀ m, Pm m → m ≤ N) (hN : N ≤ 1000)
    (hw : ∀ x, wipe ((wipe σ vs).set j (some x)) vs = wipe σ vs)
    (mono : ∀ D y H H', R D y H → (∀ b o, b ≠ sa → b ≠ D → H b = some o → H' b = some o) → R D y H')
    (he : ∀ (i : Nat) D H3 ys n, i < N → XB sa H H3 → H D = none → H3 D = some (.lst ys) → Src H3 sa n → n + kk ≤ 100000 → ∀ Q : VK, (∀ y H4, XB sa H3 H4 → Src H4 sa (n + kk) → R D y H4 → Q y H4) → te ((wipe σ vs).set j (some (.int (i : Int)))) H3 Q) :
    Ed sa (k0 + N * kk) (tLc (iRng1 ta) (gName j) tYes te vs) σ H fun v H' => ∃ D ys, v = .ref D ∧ H D = none ∧ D ≠ sa ∧ H' D = some (.lst ys) ∧ Pm ys.length ∧ ∀ y ∈ ys, R D y H' := fun H1 n x s hn Q q => by
  refine hta H1 n x s (by omega) _ fun m H2 x2 s2 pm => ⟨m, rfl, ?_, ?_, fun D hD => ?_⟩
  · have := hP m pm
    omega
  · have := hP m pm
    omega
  have hmN := hP m pm
  have hne : D ≠ sa := s2.ne hD
  have hDH : H D = none := xb_back (x.trans x2) hne hD
  have xD : ∀ H', XB sa H2 H' → XB sa H H' := fun H' y => (x.trans x2).trans y
  have em : ((m : Int)).toNat = m := by simp
  rw [em]
  refine lc_range (lo := 0) (n := m) (fun i H' => (∀ b o, b ≠ sa → b ≠ D → H2 b = some o → H' b = some o) ∧ Src H' sa (n + k0 + i * kk) ∧ ∃ ys, H' D = some (.lst ys) ∧ ys.length = i ∧ ∀ y ∈ ys, R D y H') ⟨fun b o h1 h2 h => by rw [upd_ne h2]; exact h, by
      rw [Nat.zero_mul, Nat.add_zero]
      exact s2.ex (Ex.new hD), [], upd_same, rfl, fun _ z => by cases z⟩ (fun i H' hi p => ?_) (fun H' p => ?_)
  · obtain ⟨p1, p2, ys, p3, p4, p5⟩ := p
    have e0 : (0 : Int) + (i : Int) = (i : Int) := Int.zero_add _
    show wipe ((wipe σ vs).set j (some (.int ((0 : Int) + (i : Int))))) vs = wipe σ vs ∧ tYes ((wipe σ vs).set j (some (.int ((0 : Int) + (i : Int))))) H' fun b H3 => _
    rw [e0]
    refine ⟨hw _, ?_⟩
    have xH : XB sa H H' := fun b o hb h => p1 b o hb (fun z => by rw [z, hDH] at h; cases h) ((x.trans x2) b o hb h)
    have le1 : i * kk + kk ≤ N * kk := by
      rw [← Nat.succ_mul]
      exact Nat.mul_le_mul_right _ (by omega)
    refine he i D H' ys (n + k0 + i * kk) (by omega) xH hDH p3 p2 (by omega) _ fun y H4 x4 s4 r => ⟨ys, x4 _ _ hne p3, by rw [p4]; exact sz_lt (by omega), ?_, ?_, ys ++ [y], upd_same, by rw [List.length_append, p4]; rfl, ?_⟩
    · intro b o h1 h2 h
      rw [upd_ne h2]
      exact x4 b o h1 (p1 b o h1 h2 h)
    · have e2 : n + k0 + (i + 1) * kk = n + k0 + i * kk + kk := by rw [Nat.succ_mul, ← Nat.add_assoc]
      rw [e2]
      exact s4.keep fun o h => by rw [upd_ne (Ne.symm hne)]; exact h
    · intro u hu
      rcases List.mem_append.mp hu with hu | hu
      · exact mono D u H' _ (p5 u hu) fun b o h1 h2 h => by rw [upd_ne h2]; exact x4 b o h1 h
      · rw [List.mem_singleton.mp hu]
        exact mono D y H4 _ r fun b o h1 h2 h => by rw [upd_ne h2]; exact h
  · obtain ⟨p1, p2, ys, p3, p4, p5⟩ := p
    have le1 : m * kk ≤ N * kk := Nat.mul_le_mul_right _ hmN
    exact q _ H' (fun b o hb h => p1 b o hb (fun z => by rw [z] at h; rw [xb_back x2 hne hD] at h; cases h) (x2 b o hb h)) (p2.mono (by omega)) ⟨D, ys, rfl, hDH, hne, p3, by rw [p4]; exact pm, p5⟩
end
end G39

namespace G39
open PySem PySem.Spec PyProof.Rows L2 Evl
section
variable {K : PySem.W.Frag} {sa : Addr} {σ : L2.St} {H : Hp} {te ta tb tl : TE} {k : Nat}
/-- a new list and a drawn one -/
theorem ed_cat {xs : List V} {S : List V → Hp → Prop} (ha : ∀ H1, XB sa H H1 → EvL ta σ H1 xs) (hb : Ed sa k tb σ H fun v H' => ∃ D ys, v = .ref D ∧ D ≠ sa ∧ H' D = some (.lst ys) ∧ S ys H') (hS : ∀ ys H H', Ex H H' → S ys H → S ys H') (hl : ∀ ys H, S ys H → xs.length + ys.length ≤ 100000) :
    Ed sa k (tOp rCat ta tb) σ H fun v H' => ∃ l ys, v = .ref l ∧ l ≠ sa ∧ H' l = some (.lst (xs ++ ys)) ∧ S ys H' := fun H1 n x s hn Q q =>
  ha H1 x H1 (Ex.refl _) _ fun l1 H2 hl1 e2 h2 => hb H2 n (x.trans (XB.ex e2)) (s.ex e2) hn _ fun v H3 x3 s3 ⟨D, ys, ev, hne, h3, hs⟩ =>
    ⟨l1, D, xs, ys, rfl, ev, x3 _ _ (s.ne hl1) h2, h3, sz_of (hl ys H3 hs), fun p hp => q _ _ (((XB.ex e2).trans x3).trans (XB.ex (Ex.new hp))) (s3.ex (Ex.new hp)) ⟨p, ys, rfl, s3.ne hp, upd_same, hS ys _ _ (Ex.new hp) hs⟩⟩
/-- a drawn list and a new one -/
theorem ed_cat2 {xs : List V} {S : List V → Hp → Prop} (ha : Ed sa k ta σ H fun v H' => ∃ D ys, v = .ref D ∧ D ≠ sa ∧ H' D = some (.lst ys) ∧ S ys H') (hb : ∀ H1, XB sa H H1 → EvL tb σ H1 xs) (hS : ∀ ys H H', Ex H H' → S ys H → S ys H') (hl : ∀ ys H, S ys H → ys.length + xs.length ≤ 100000) :
    Ed sa k (tOp rCat ta tb) σ H fun v H' => ∃ l ys, v = .ref l ∧ l ≠ sa ∧ H' l = some (.lst (ys ++ xs)) ∧ S ys H' := fun H1 n x s hn Q q =>
  ha H1 n x s hn _ fun v H2 x2 s2 ⟨D, ys, ev, hne, h2, hs⟩ => hb H2 (x.trans x2) H2 (Ex.refl _) _ fun l2 H3 hl2 e3 h3 =>
    ⟨D, l2, ys, xs, ev, rfl, e3 _ _ h2, h3, sz_of (hl ys _ hs), fun p hp => q _ _ ((x2.trans (XB.ex e3)).trans (XB.ex (Ex.new hp))) (s2.ex (e3.trans (Ex.new hp))) ⟨p, ys, rfl, (s2.ex e3).ne hp, upd_same, hS ys _ _ (e3.trans (Ex.new hp)) hs⟩⟩
/-- tuple(..) of a drawn list -/
theorem ed_tuple {S : List V → Hp → Prop} (ha : Ed sa k ta σ H fun v H' => ∃ D ys, v = .ref D ∧ D ≠ sa ∧ H' D = some (.lst ys) ∧ S ys H') (hS : ∀ ys H H', Ex H H' → S ys H → S ys H') :
    Ed sa k (tCB (rTupS K) (tCons ta tNil)) σ H fun v H' => ∃ l ys, v = .ref l ∧ l ≠ sa ∧ H' l = some (.tup ys) ∧ S ys H' := fun H1 n x s hn Q q =>
  ha H1 n x s hn _ fun v H2 x2 s2 ⟨D, ys, ev, hne, h2, hs⟩ => ⟨D, ys, by rw [ev], .inl ⟨sq_of h2, fun p hp => q _ _ (x2.trans (XB.ex (Ex.new hp))) (s2.ex (Ex.new hp)) ⟨p, ys, rfl, s2.ne hp, upd_same, hS ys _ _ (Ex.new hp) hs⟩⟩⟩
/-- a comprehension over a list that is drawn first -/
theorem lc_after {g : TG} {t : TT} {vs : List Nat} {H1 : Hp} {Q : VK} (h : tl σ H1 fun v H2 => tLc (iList K (tC v)) g t te vs σ H2 Q) : tLc (iList K tl) g t te vs σ H1 Q := h
/-- if, its test with draws -/
theorem et_draw {n : Nat} {tt : TT} {tu tw tz : TS} {D : Ends} {b : Bool → Prop} (h : ∀ Q : Bool → Hp → Prop, (∀ c H1, XB sa H H1 → Src H1 sa (n + k) → Q c H1) → tt σ H Q) (h1 : ∀ H1, XB sa H H1 → Src H1 sa (n + k) → tu { D with nx := tz D } σ H1) (h2 : ∀ H1, XB sa H H1 → Src H1 sa (n + k) → tw { D with nx := tz D } σ H1) : tSeq (tIfS tt tu tw) tz D σ H :=
  h _ fun c H1 x s => by
    cases c with
    | true =>
      rw [if_pos rfl]
      exact h1 H1 x s
    | false =>
      rw [if_neg Bool.false_ne_true]
      exact h2 H1 x s
/-- a comparison of a draw -/
theorem ed_cmpI {g : Int → Int → Bool} {i : Int} {P : Nat → Prop} (ha : Ed sa k ta σ H fun v _ => ∃ m : Nat, v = .int m ∧ P m) (hb : ∀ H1, XB sa H H1 → Ev tb σ H1 (.int i)) : Ed sa k (tOp (rI0 fun i j => .bl (g i j)) ta tb) σ H fun v _ => ∃ c : Bool, v = .bl c := fun H1 n x s hn Q q =>
  ha H1 n x s hn _ fun v H2 x2 s2 ⟨m, ev, _⟩ => hb H2 (x.trans x2) H2 (Ex.refl _) _ fun H3 e3 => ⟨m, i, ev, rfl, q _ H3 (x2.trans (XB.ex e3)) (s2.ex e3) ⟨_, rfl⟩⟩
theorem ed_eqI {i : Int} {P : Nat → Prop} (ha : Ed sa k ta σ H fun v _ => ∃ m : Nat, v = .int m ∧ P m) (hb : ∀ H1, XB sa H H1 → Ev tb σ H1 (.int i)) : Ed sa k (tOp rEq ta tb) σ H fun v _ => ∃ c : Bool, v = .bl c := fun H1 n x s hn Q q =>
  ha H1 n x s hn _ fun v H2 x2 s2 ⟨m, ev, _⟩ => hb H2 (x.trans x2) H2 (Ex.refl _) _ fun H3 e3 => by
    rw [ev]
    exact ⟨rfl, q _ H3 (x2.trans (XB.ex e3)) (s2.ex e3) ⟨_, rfl⟩⟩
/-- if, by a drawn truth -/
theorem q_ifD {n : Nat} {tu tw tz : TS} {D : Ends} (h : Ed sa k te σ H fun v _ => ∃ c : Bool, v = .bl c) (s : Src H sa n) (hn : n + k ≤ 100000) (h1 : ∀ H1, XB sa H H1 → Src H1 sa (n + k) → tu { D with nx := tz D } σ H1) (h2 : ∀ H1, XB sa H H1 → Src H1 sa (n + k) → tw { D with nx := tz D } σ H1) : tSeq (tIfS (tTest te) tu tw) tz D σ H :=
  h H n (XB.refl _ _) s hn _ fun v H1 x s1 ⟨c, ev⟩ => ⟨c, ev, by
    cases c with
    | true =>
      rw [if_pos rfl]
      exact h1 H1 x s1
    | false =>
      rw [if_neg Bool.false_ne_true]
      exact h2 H1 x s1⟩
end
end G39

/-! tuple * int, for any int -/
namespace G39
open PySem PySem.Spec PyProof.Rows L2
theorem tuple_mul1 (l : Addr) (items : Array Value) (n : Nat) (dd : Option Addr) (sl : Array (Option Value)) (x : Int) (u : Tok) (c0 : (decide (x < -(2 ^ 63)) || decide (x ≥ 2 ^ 63)) = false) (c1 : (items.isEmpty || x == 1) = true) :
    Meets (Builtin.«tuple.__mul__» ⟨[.ref l, .int x u], []⟩) (fun _ R s => s.heap.get? l = some { cls := .type "tuple", dict := dd, data := .seq items n, slots := sl } ∧ R (.ok (.ret (Value.ref l))) s) :=
  .of_wp fun prog w A R s h => by
    obtain ⟨hp, g, d, tk, os⟩ := s
    obtain ⟨hl, h⟩ := h
    have f1 := AutoSeq1.idx_int
    wp_walk using wpAny_loadPart' hl
    repeat (first
      | (refine wpAny_ite_false (decide_eq_false (by rw [c0]; exact Bool.false_ne_true)) ?_; wp_walk using wpAny_loadPart' hl)
      | (refine wpAny_ite_true (decide_eq_true c1) ?_; wp_walk using wpAny_loadPart' hl))
    exact ⟨_, rfl, h⟩
theorem tuple_mul0 (l : Addr) (items : Array Value) (n : Nat) (dd : Option Addr) (sl : Array (Option Value)) (x : Int) (u : Tok) (c0 : (decide (x < -(2 ^ 63)) || decide (x ≥ 2 ^ 63)) = false) (c1 : (items.isEmpty || x == 1) = false) (c2 : (decide (x ≤ 0) || items.isEmpty) = true) :
    Meets (Builtin.«tuple.__mul__» ⟨[.ref l, .int x u], []⟩) (fun _ R s => s.heap.get? l = some { cls := .type "tuple", dict := dd, data := .seq items n, slots := sl } ∧
      R (.ok (.ret (Value.ref s.heap.objs.size))) { s with heap := s.heap.push { cls := Value.type "tuple", data := Data.seq #[] }, toks := s.toks }) :=
  .of_wp fun prog w A R s h => by
    obtain ⟨hp, g, d, tk, os⟩ := s
    obtain ⟨hl, h⟩ := h
    have f1 := AutoSeq1.idx_int
    wp_walk using wpAny_loadPart' hl
    repeat (first
      | (refine wpAny_ite_false (decide_eq_false (by rw [c0]; exact Bool.false_ne_true)) ?_; wp_walk using wpAny_loadPart' hl)
      | (refine wpAny_ite_false (decide_eq_false (by rw [c1]; exact Bool.false_ne_true)) ?_; wp_walk using wpAny_loadPart' hl)
      | (refine wpAny_ite_true (decide_eq_true c2) ?_; wp_walk using wpAny_loadPart' hl))
    exact ⟨_, rfl, h⟩
/-- t * k, t not empty: none, t itself, or a new tuple -/
def rRepA (K : PySem.W.Frag) : R2 := fun x y H Q => ∃ l k xs, x = .ref l ∧ y = .int k ∧ SqT K H l xs ∧ xs ≠ [] ∧ 0 ≤ k ∧ k ≤ 1000 ∧ xs.length ≤ 1000 ∧ (k = 1 → Q (.ref l) H) ∧ (k ≠ 1 → ∀ p, H p = none → Q (.ref p) (upd H p (.tup (List.replicate k.toNat xs).flatten)))
theorem op_repA {X : Cx} : OpR X (binaryOp .Mult) (rRepA X.K) := by
  intro pins s σ H x y v u Q I rx ry h
  obtain ⟨l, k, xs, rfl, rfl, hT, hne, h0, h2, hz, q1, q⟩ := h
  by_cases hk : 2 ≤ k
  · exact op_repT pins s σ H _ _ v u Q I rx ry ⟨l, k, xs, rfl, rfl, hT, hne, hk, h2, hz, q (by omega)⟩
  cases rx
  obtain ⟨t, rfl⟩ := ry
  obtain ⟨its, r, ⟨⟨cls, dd, data, sl⟩, ho, hc, n, hd⟩, hs⟩ := I.tuple hT
  simp only at hc hd
  subst hc hd
  have hle : its.length = xs.length := r.length.symm
  have hn : its ≠ [] := fun e => hne (by
    rw [e] at hle
    exact List.eq_nil_of_length_eq_zero hle.symm)
  have hi : its.toArray.isEmpty = false := by
    cases its with
    | nil => exact absurd rfl hn
    | cons a b => rfl
  have c0 : (decide (k < -(2 ^ 63)) || decide (k ≥ 2 ^ 63)) = false := by
    rw [decide_eq_false (by omega), decide_eq_false (by omega)] <;> rfl
  by_cases e1 : k = 1
  · have c1 : (its.toArray.isEmpty || k == 1) = true := by
      rw [e1]
      simp
    exact wpAny_binaryOp_repeat_ref (T := "tuple") (U := "int") (by decide) ⟨_, ho, rfl⟩ (fun s' => typeIs_int s' k t) noFill_tuple_mul F.fills_int_mul F.slot_int_rmul repeat_tuple F.slot_int_index.lookup
      (call_meets F.slot_int_rmul (typeIs_int s k t) F.entry_int_rmul (F.args_int_rmul_2 _ _) (int_rmul_tuple k t l its.toArray n dd sl)
        ⟨ho, rfl, ⟨_, ho, rfl⟩, call_meets F.slot_tuple_mul ⟨_, ho, rfl⟩ F.entry_tuple_mul (F.args_tuple_mul_2 _ _) (tuple_mul1 l its.toArray n dd sl k t c0 c1) ⟨ho, ⟨.ref l, H, I, rfl, q1 e1⟩⟩⟩)
  · have ek : k = 0 := by omega
    have c1 : (its.toArray.isEmpty || k == 1) = false := by
      rw [hi, Bool.false_or]
      exact beq_eq_false_iff_ne.mpr e1
    have c2 : (decide (k ≤ 0) || its.toArray.isEmpty) = true := by
      rw [decide_eq_true (by omega)]
      rfl
    refine wpAny_binaryOp_repeat_ref (T := "tuple") (U := "int") (by decide) ⟨_, ho, rfl⟩ (fun s' => typeIs_int s' k t) noFill_tuple_mul F.fills_int_mul F.slot_int_rmul repeat_tuple F.slot_int_index.lookup
      (call_meets F.slot_int_rmul (typeIs_int s k t) F.entry_int_rmul (F.args_int_rmul_2 _ _) (int_rmul_tuple k t l its.toArray n dd sl)
        ⟨ho, rfl, ⟨_, ho, rfl⟩, call_meets F.slot_tuple_mul ⟨_, ho, rfl⟩ F.entry_tuple_mul (F.args_tuple_mul_2 _ _) (tuple_mul0 l its.toArray n dd sl k t c0 c1 c2) ⟨ho, ?_⟩⟩)
    have e0 : (List.replicate k.toNat xs).flatten = [] := by
      rw [ek]
      rfl
    have q := q e1
    rw [e0] at q
    refine ⟨.ref s.heap.objs.size, _, I.laid (t' := s.toks) (o := .tup []) (fun b ob q => Heap.get?_push_of_some _ q) (Nat.le_refl _) ?_, rfl, q _ (I.hok.fresh (Nat.le_refl _))⟩
    exact ⟨Nat.zero_le _, [], .nil, IsTup.new _ _⟩
theorem op_repTK {X : Cx} {K : PySem.W.Frag} (h : X.K = K) : OpR X (binaryOp .Mult) (rRepA K) := by
  subst h
  exact op_repA
end G39

/-! text * int, two or more -/
namespace G39
open PySem PySem.Spec PyProof.Rows L2
def repS (x : Str) (k : Nat) : Str := ⟨(List.replicate k x.cps).foldl (· ++ ·) #[]⟩
def rRepS : R2 := fun x y H Q => ∃ (z : Str) (k : Nat), x = .str z ∧ y = .int (k : Int) ∧ z.length ≠ 0 ∧ 2 ≤ k ∧ k ≤ 1000 ∧ z.length ≤ 1000 ∧ (repS z k).length ≤ sizeLine ∧ Q (.str (repS z k)) H
theorem op_repS {X : Cx} : OpR X (binaryOp .Mult) rRepS := by
  intro pins s σ H x y v u Q I rx ry h
  obtain ⟨z, k, rfl, rfl, h0, h2, h3, hz, hl, q⟩ := h
  obtain ⟨t, rfl⟩ := rx
  obtain ⟨t', rfl⟩ := ry
  have ek : ((k : Int)).toNat = k := by simp
  refine PySem.P.mul_str ?_ (fun _ _ => ?_) (fun _ _ => ?_) ?_
  · rw [decide_eq_false (by omega), decide_eq_false (by omega)]
    rfl
  · have hk : (1000 : Int) ≤ (2 ^ 63 - 1) / (k : Int) := by
      rw [Int.le_ediv_iff_mul_le (by omega)]
      omega
    omega
  · rw [ek]
    have : z.length * k ≤ 1000 * 1000 := Nat.mul_le_mul hz h3
    unfold Builtin.Str.tooLong
    exact decide_eq_false (by rw [sizeLine_eq]; omega)
  · rw [if_neg (by omega)]
    have c : ((k : Int) == 1 || z.length == 0) = false := by
      have e1 : ((k : Int) == 1) = false := beq_eq_false_iff_ne.mpr (by omega)
      have e2 : (z.length == 0) = false := beq_eq_false_iff_ne.mpr h0
      rw [e1, e2]
      rfl
    rw [if_neg (by rw [c]; exact Bool.false_ne_true), ek]
    exact ⟨hl, .str (repS z k), H, I.tok _, ⟨_, rfl⟩, q⟩
end G39

set_option maxHeartbeats 2000000
/-! kinds of hashed values: texts, tuples of them, tuples of those -/
namespace G39
open PySem PySem.Spec PyProof.Rows L2
inductive All2 {α β : Type} (R : α → β → Prop) : List α → List β → Prop
  | nil : All2 R [] []
  | cons {a : α} {b : β} {as : List α} {bs : List β} : R a b → All2 R as bs → All2 R (a :: as) (b :: bs)
theorem All2.imp {α β : Type} {R S : α → β → Prop} (f : ∀ a b, R a b → S a b) : ∀ {as : List α} {bs : List β}, All2 R as bs → All2 S as bs
  | _, _, .nil => .nil
  | _, _, .cons h t => .cons (f _ _ h) (All2.imp f t)
theorem All2.len {α β : Type} {R : α → β → Prop} : ∀ {as : List α} {bs : List β}, All2 R as bs → as.length = bs.length
  | _, _, .nil => rfl
  | _, _, .cons _ t => by rw [List.length_cons, List.length_cons, All2.len t]
structure HK (P : Program) (w : World) (κ : Type) [DecidableEq κ] where
  is : Heap → κ → Value → Prop
  hash : κ → Int
  dep : Nat
  inj : ∀ {h : Heap} {k k' : κ} {v : Value}, is h k v → is h k' v → k = k'
  keep : ∀ {h h' : Heap} {k : κ} {v : Value}, is h k v → (∀ b o, h.get? b = some o → o.cls = .type "tuple" → (∃ items n, o.data = .seq items n) → h'.get? b = some o) → is h' k v
  pyHash : ∀ {A : Around} {E : Value → Shared → Prop} {s : Shared} {k : κ} {v : Value} {Q : Int → Shared → Prop}, A.units + dep < cLine → is s.heap k v → (∀ tk, s.toks ≤ tk → Q (hash k) { s with toks := tk }) → wpAny (model P w) A (PySem.pyHash v) Q E s
  eqBool : ∀ {A : Around} {E : Value → Shared → Prop} {s : Shared} {k k' : κ} {v u : Value} {Q : Bool → Shared → Prop}, A.units + dep < cLine → is s.heap k v → is s.heap k' u → Q (decide (k = k')) s → wpAny (model P w) A (PySem.eqBool v u) Q E s
  quiet : ∀ {A : Around} {E : Value → Shared → Prop} {s : Shared} {k : κ} {v : Value} {Q : Bool → Shared → Prop} {n : Nat}, dep ≤ n → is s.heap k v → Q true s → wpAny (model P w) A (eqIsQuiet n v) Q E s
  ofA : ∀ {A : Around} {E : Value → Shared → Prop} {s : Shared} {k : κ} {v : Value} {Q : Bool → Shared → Prop} {n : Nat}, dep ≤ n → is s.heap k v → Q false s → wpAny (model P w) A (ofAClassStatement n v) Q E s
  hashBy : ∀ {A : Around} {E : Value → Shared → Prop} {s : Shared} {k : κ} {v : Value} {Q : Bool → Shared → Prop} {n : Nat}, dep ≤ n → is s.heap k v → (∀ b, Q b s) → wpAny (model P w) A (hashByValue n v) Q E s
/-- texts -/
def strHK (P : Program) (w : World) : HK P w Str where
  is _ k v := ∃ t, v = .str k t
  hash := (strKind P w).hash
  dep := 0
  inj := by
    rintro h k k' v ⟨t, rfl⟩ ⟨t', e⟩
    cases e
    rfl
  keep h _ := h
  pyHash := by
    rintro A E s k v Q _ ⟨t, rfl⟩ q
    exact (strKind P w).pyHash (strKind_is P w k t) (q _ (Nat.le_succ _))
  eqBool := by
    rintro A E s k k' v u Q _ ⟨t, rfl⟩ ⟨t', rfl⟩ q
    exact (strKind P w).eqBool (strKind_is P w k t) (strKind_is P w k' t') q
  quiet := by
    rintro A E s k v Q n _ ⟨t, rfl⟩ q
    rw [eqIsQuiet_byValue n (v := .str k t) rfl]
    exact wpAny_pure q
  ofA := by
    rintro A E s k v Q n _ ⟨t, rfl⟩ q
    have e : ofAClassStatement n (.str k t) = pure false := by cases n <;> rfl
    rw [e]
    exact wpAny_pure q
  hashBy := by
    rintro A E s k v Q n _ ⟨t, rfl⟩ q
    have e : hashByValue n (.str k t) = pure false := by cases n <;> rfl
    rw [e]
    exact wpAny_pure (q _)
theorem in1_units {A : Around} {d : Nat} (h : A.units + (d + 1) < cLine) : A.in1.units + d < cLine := by
  have e : A.in1.units ≤ A.units + 1 := by first | exact Nat.le_refl _ | simp [Around.in1] | (unfold Around.in1; simp) | (unfold Around.in1; omega)
  omega
section
variable {P : Program} {w : World} {κ : Type} [DecidableEq κ] (H : HK P w κ)
def TupIs (h : Heap) (ks : List κ) (v : Value) : Prop := ∃ a o items n, v = .ref a ∧ h.get? a = some o ∧ o.cls = .type "tuple" ∧ o.data = .seq items n ∧ All2 (H.is h) ks items.toList
variable {H}
theorem TupIs.ty {s : Shared} {ks : List κ} {v : Value} (h : TupIs H s.heap ks v) : s.TypeIs v "tuple" := by
  obtain ⟨a, o, items, n, rfl, h1, h2, _⟩ := h
  exact ⟨o, h1, h2⟩
theorem all2_inj {h : Heap} : ∀ {x y : List κ} {vs : List Value}, All2 (H.is h) x vs → All2 (H.is h) y vs → x = y
  | _, _, _, .nil, .nil => rfl
  | _, _, _, .cons a b, .cons c d => by rw [H.inj a c, all2_inj b d]
theorem TupIs.inj {h : Heap} {x y : List κ} {v : Value} (hx : TupIs H h x v) (hy : TupIs H h y v) : x = y := by
  obtain ⟨a, o, items, n, rfl, h1, _, h2, h3⟩ := hx
  obtain ⟨a', o', items', n', e, h1', _, h2', h3'⟩ := hy
  cases e
  rw [h1] at h1'
  cases h1'
  rw [h2] at h2'
  cases h2'
  exact all2_inj h3 h3'
theorem TupIs.keep {h h' : Heap} {x : List κ} {v : Value} (hx : TupIs H h x v) (k : ∀ b o, h.get? b = some o → o.cls = .type "tuple" → (∃ items n, o.data = .seq items n) → h'.get? b = some o) : TupIs H h' x v := by
  obtain ⟨a, o, items, n, rfl, h1, h2, h3, h4⟩ := hx
  exact ⟨a, o, items, n, rfl, k a o h1 h2 ⟨_, _, h3⟩, h2, h3, h4.imp fun _ _ z => H.keep z k⟩
variable {A : Around} {E : Value → Shared → Prop} {s : Shared}
theorem tup_hash {ks : List κ} {v : Value} {Q : Int → Shared → Prop} (hu : A.units + (H.dep + 1) < cLine) (hk : TupIs H s.heap ks v) (q : ∀ tk, s.toks ≤ tk → Q (reduceHash (Builtin.Tuple.tupleHashOf (ks.map H.hash))) { s with toks := tk }) :
    wpAny (model P w) A (PySem.pyHash v) Q E s := by
  have hT := hk.ty
  obtain ⟨a, o, items, n, rfl, ho, _, hd, hi⟩ := hk
  unfold PySem.pyHash
  first | unfold pyHashByItsType | skip
  first | refine wpAny_bind (wpAny_cRoomFor_or (.inr (by omega)) ?_) | skip
  refine wpAny_bind (wpAny_specialOf hT PySem.F.slot_tuple_hash.lookup ?_)
  show wpAny _ _ (if (some (Value.builtin "tuple.__hash__") == some Value.none) = true then _ else _) Q E s
  rw [if_neg (by rw [beq_builtin_none]; exact Bool.false_ne_true)]
  refine wpAny_bind (wpAny_specialOf hT PySem.F.slot_tuple_hash.lookup ?_)
  show wpAny _ _ (callSpecialIfBoundUnlessNone? (.ref a) "__hash__" _ >>= _) Q E s
  refine wpAny_bind (wpAny_callSpecialIfBoundUnlessNone?_slot hT PySem.F.slot_tuple_hash (wpAny_call_entry PySem.F.slot_tuple_hash hT PySem.F.entry_tuple_hash ?_ (PySem.F.args_tuple_hash_1 _)))
  show wpAny _ _ (Builtin.Tuple.tupleItemsOf (.ref a) >>= _) _ _ s
  refine wpAny_bind (wpAny_tupleItemsOf ho hd (wpAny_bind ?_))
  rw [← Array.forIn_toList]
  refine wpAny_forIn_list _ (fun rest (b : Array Int) s' => ∃ done left tk, ks = done ++ left ∧ All2 (H.is s.heap) left rest ∧ b.toList = done.map H.hash ∧ s.toks ≤ tk ∧ s' = { s with toks := tk }) _ ?_ ?_ _ _ ⟨[], ks, s.toks, rfl, hi, rfl, Nat.le_refl _, rfl⟩
  · rintro x rest b s' ⟨done, left, tk, rfl, hl, hb, hz, rfl⟩
    cases hl with
    | @cons k _ ks' _ h1 hl' =>
      refine wpAny_bind (H.pyHash (s := { s with toks := tk }) ?_ h1 fun tk' hz' => ?_)
      · exact in1_units hu
      · first
          | exact wpAny_pure ⟨done ++ [k], ks', tk', by simp, hl', by simp [hb], Nat.le_trans hz hz', rfl⟩
          | exact wpAny_bind (wpAny_pure (wpAny_pure ⟨done ++ [k], ks', tk', by simp, hl', by simp [hb], Nat.le_trans hz hz', rfl⟩))
  · rintro b s' ⟨done, left, tk, rfl, hl, hb, hz, rfl⟩
    cases hl
    rw [List.append_nil] at q
    show wpAny _ _ (retInt (Builtin.Tuple.tupleHashOf b.toList)) _ _ _
    rw [hb]
    refine wpAny_ret_mkInt ?_
    show wpAny _ _ (if (decide (-(2 : Int) ^ 63 ≤ Builtin.Tuple.tupleHashOf (done.map H.hash)) && decide (Builtin.Tuple.tupleHashOf (done.map H.hash) < 2 ^ 63)) = true then _ else _) Q E _
    unfold reduceHash at q
    split
    · rename_i hr
      rw [if_pos hr] at q
      exact wpAny_pure (q _ (Nat.le_succ_of_le hz))
    · rename_i hr
      rw [if_neg hr] at q
      exact wpAny_bind (wpAny_rule (wpAny_pure (q _ (Nat.le_succ_of_le hz))))
theorem tup_eqTree {x y : List κ} {a b : Addr} {Pf : PySem.Fin → Shared → Prop} (hu : A.units + H.dep < cLine) (hx : TupIs H s.heap x (.ref a)) (hy : TupIs H s.heap y (.ref b)) (q : Pf (.done (.ret (.bool (decide (x = y))))) s) :
    wpAny (model P w) A (Builtin.«tuple.__eq__» ⟨[.ref a, .ref b], []⟩) Pf E s := by
  have hTb := hy.ty
  obtain ⟨_, oa, xs, na, e, hoa, _, hda, hia⟩ := hx
  cases e
  obtain ⟨_, ob, ys, nb, e, hob, _, hdb, hib⟩ := hy
  cases e
  show wpAny _ _ (isInstance (.ref b) (.type "tuple") >>= _) _ _ s
  refine wpAny_bind (wpAny_isInstance hTb isSubtype_tuple_tuple ?_)
  simp only [Bool.not_true, Bool.false_eq_true, if_false]
  refine wpAny_bind (wpAny_tupleItemsOf hoa hda (wpAny_bind (wpAny_tupleItemsOf hob hdb (wpAny_bind ?_))))
  refine wpAny_forIn_list _ (fun rest r s' => r.1 = none ∧ s' = s ∧ ∃ x' y' xs' ys', rest = List.zip xs' ys' ∧ All2 (H.is s.heap) x' xs' ∧ All2 (H.is s.heap) y' ys' ∧ decide (x' = y') = decide (x = y) ∧ (xs'.length == ys'.length) = (xs.size == ys.size))
    _ ?_ ?_ _ _ ⟨rfl, rfl, x, y, xs.toList, ys.toList, rfl, hia, hib, rfl, by simp⟩
  · rintro ⟨u, v⟩ rest r s' ⟨hr, rfl, x', y', xs', ys', hz, hx', hy', hdec, hlen⟩
    cases hx' with
    | nil => simp at hz
    | @cons k1 u' x'' xs'' h1 hx'' =>
      cases hy' with
      | nil => simp at hz
      | @cons k2 v' y'' ys'' h2 hy'' =>
        simp only [List.zip_cons_cons, List.cons.injEq, Prod.mk.injEq] at hz
        obtain ⟨⟨rfl, rfl⟩, rfl⟩ := hz
        refine wpAny_bind (H.eqBool hu h1 h2 ?_)
        by_cases hk : k1 = k2
        · subst hk
          rw [decide_eq_true rfl]
          simp only [Bool.not_true, Bool.false_eq_true, if_false]
          refine wpAny_pure ⟨rfl, rfl, x'', y'', xs'', ys'', rfl, hx'', hy'', ?_, by simpa using hlen⟩
          rw [← hdec]
          simp
        · rw [decide_eq_false hk]
          simp only [Bool.not_false, if_true]
          have hf : decide (x = y) = false := by rw [← hdec]; simp [hk]
          rw [hf] at q
          exact wpAny_bind (wpAny_pure (wpAny_pure (wpAny_pure q)))
  · rintro ⟨r1, r2⟩ s' ⟨hr, rfl, x', y', xs', ys', hz, hx', hy', hdec, hlen⟩
    simp only at hr
    subst hr
    refine wpAny_pure ?_
    have hfin : (xs.size == ys.size) = decide (x = y) := by
      rw [← hdec, ← hlen]
      cases hx' <;> cases hy' <;> simp_all
    show Pf (.done (.ret (.bool (xs.size == ys.size)))) s'
    rw [hfin]
    exact q
theorem tup_eq {x y : List κ} {v u : Value} {Q : Bool → Shared → Prop} (hu : A.units + (H.dep + 1) < cLine) (hx : TupIs H s.heap x v) (hy : TupIs H s.heap y u) (q : Q (decide (x = y)) s) : wpAny (model P w) A (PySem.eqBool v u) Q E s := by
  obtain ⟨a, hv⟩ : ∃ a, v = .ref a := by
    obtain ⟨a, _, _, _, e, _⟩ := hx
    exact ⟨a, e⟩
  obtain ⟨b, hv'⟩ : ∃ a, u = .ref a := by
    obtain ⟨a, _, _, _, e, _⟩ := hy
    exact ⟨a, e⟩
  subst hv
  subst hv'
  unfold PySem.eqBool
  try with_reducible refine wpAny_holding ?_
  show wpAny _ _ (if (Value.ref a == Value.ref b) = true then _ else _) Q E s
  by_cases hab : (Value.ref a == Value.ref b) = true
  · rw [if_pos hab]
    have e : a = b := by
      have := eq_of_beq hab
      injection this
    subst e
    obtain rfl := hx.inj hy
    exact wpAny_bind (wpAny_rule (wpAny_pure (by simpa using q)))
  · rw [if_neg hab]
    refine wpAny_bind (wpAny_richCompare_same_room (op := .Eq) hx.ty hy.ty PySem.F.slot_tuple_eq (wpAny_call_entry PySem.F.slot_tuple_eq hx.ty PySem.F.entry_tuple_eq (tup_eqTree ?_ hx hy ⟨_, rfl, (fun e => nomatch e), wpAny_truthy_bool q⟩) (PySem.F.args_tuple_eq_2 _ _)) (by omega))
    exact in1_units hu
/-- a question asked of each item -/
theorem tup_each {ask : Value → Sem Bool} {good : Bool} {ks : List κ} {items : Array Value} {Q : Bool → Shared → Prop} (hi : All2 (H.is s.heap) ks items.toList) (ha : ∀ k v (R : Bool → Shared → Prop), H.is s.heap k v → R good s → wpAny (model P w) A (ask v) R E s)
    {body : Value → MProd (Option Bool) PUnit → Sem (ForInStep (MProd (Option Bool) PUnit))} (hb : ∀ v r (R : ForInStep (MProd (Option Bool) PUnit) → Shared → Prop), (∃ k, H.is s.heap k v) → R (.yield ⟨none, ⟨⟩⟩) s → wpAny (model P w) A (body v r) R E s)
    {R : MProd (Option Bool) PUnit → Shared → Prop} (q : R ⟨none, ⟨⟩⟩ s) : wpAny (model P w) A (forIn items.toList ⟨none, ⟨⟩⟩ body) R E s := by
  refine wpAny_forIn_list _ (fun rest r s' => r = ⟨none, ⟨⟩⟩ ∧ s' = s ∧ ∃ left, All2 (H.is s.heap) left rest) _ ?_ ?_ _ _ ⟨rfl, rfl, ks, hi⟩
  · rintro v rest r s' ⟨rfl, rfl, left, hl⟩
    cases hl with
    | cons h t => exact hb v _ _ ⟨_, h⟩ ⟨rfl, rfl, _, t⟩
  · rintro r s' ⟨rfl, rfl, _⟩
    exact q
theorem tup_quiet {ks : List κ} {v : Value} {Q : Bool → Shared → Prop} {n : Nat} (hn : H.dep + 1 ≤ n) (hk : TupIs H s.heap ks v) (q : Q true s) : wpAny (model P w) A (eqIsQuiet n v) Q E s := by
  have hT := hk.ty
  obtain ⟨a, o, items, m, rfl, ho, _, hd, hi⟩ := hk
  obtain ⟨n, rfl⟩ : ∃ k, n = k + 1 := ⟨n - 1, by omega⟩
  unfold eqIsQuiet
  refine wpAny_bind (wpAny_specialOf hT PySem.F.slot_tuple_eq.lookup ?_)
  show wpAny _ _ (isInstance (.ref a) (.type "tuple") >>= _) _ _ s
  refine wpAny_bind (wpAny_isInstance hT isSubtype_tuple_tuple ?_)
  simp only [Bool.not_true, Bool.false_eq_true, if_false]
  refine wpAny_bind (wpAny_seqItems ho hd (wpAny_bind ?_))
  show wpAny _ _ (forIn items _ _) _ _ s
  rw [← Array.forIn_toList]
  refine wpAny_forIn_list _ (fun rest r s' => r.1 = none ∧ s' = s ∧ ∃ left, All2 (H.is s.heap) left rest) _ ?_ ?_ _ _ ⟨rfl, rfl, ks, hi⟩
  · rintro v rest r s' ⟨hr, rfl, left, hl⟩
    cases hl with
    | cons h t =>
      refine wpAny_bind (H.quiet (by omega) h ?_)
      simp only [Bool.not_true, Bool.false_eq_true, if_false]
      exact wpAny_pure ⟨rfl, rfl, _, t⟩
  · rintro ⟨r1, r2⟩ s' ⟨hr, rfl, _⟩
    simp only at hr
    subst hr
    exact wpAny_pure q
theorem tup_ofA {ks : List κ} {v : Value} {Q : Bool → Shared → Prop} {n : Nat} (hn : H.dep + 1 ≤ n) (hk : TupIs H s.heap ks v) (q : Q false s) : wpAny (model P w) A (ofAClassStatement n v) Q E s := by
  have hT := hk.ty
  obtain ⟨a, o, items, m, rfl, ho, _, hd, hi⟩ := hk
  obtain ⟨n, rfl⟩ : ∃ k, n = k + 1 := ⟨n - 1, by omega⟩
  unfold ofAClassStatement
  refine wpAny_bind (wpAny_typeOf hT ?_)
  dsimp only
  have e : (("tuple" : String) == "tuple") = true := by decide
  simp only [e, if_true, Bool.not_true, Bool.false_eq_true, if_false]
  try refine wpAny_bind (wpAny_pure ?_)
  try simp only [Bool.not_true, Bool.false_eq_true, if_false]
  show wpAny _ _ (seqItems? (.ref a) >>= _) _ _ s
  refine wpAny_bind (wpAny_seqItems ho hd ?_)
  dsimp only
  refine wpAny_bind ?_
  show wpAny _ _ (forIn items _ _) _ _ s
  rw [← Array.forIn_toList]
  refine wpAny_forIn_list _ (fun rest r s' => r.1 = none ∧ s' = s ∧ ∃ left, All2 (H.is s.heap) left rest) _ ?_ ?_ _ _ ⟨rfl, rfl, ks, hi⟩
  · rintro v rest r s' ⟨hr, rfl, left, hl⟩
    cases hl with
    | cons h t =>
      refine wpAny_bind (H.ofA (by omega) h ?_)
      simp only [Bool.false_eq_true, if_false]
      exact wpAny_pure ⟨rfl, rfl, _, t⟩
  · rintro ⟨r1, r2⟩ s' ⟨hr, rfl, _⟩
    simp only at hr
    subst hr
    exact wpAny_pure q
theorem tup_hashBy {ks : List κ} {v : Value} {Q : Bool → Shared → Prop} {n : Nat} (hn : H.dep + 1 ≤ n) (hk : TupIs H s.heap ks v) (q : ∀ b, Q b s) : wpAny (model P w) A (hashByValue n v) Q E s := by
  have hT := hk.ty
  obtain ⟨a, o, items, m, rfl, ho, _, hd, hi⟩ := hk
  obtain ⟨n, rfl⟩ : ∃ k, n = k + 1 := ⟨n - 1, by omega⟩
  unfold hashByValue
  refine wpAny_bind (wpAny_specialOf hT PySem.F.slot_tuple_hash.lookup ?_)
  show wpAny _ _ (seqItems? (.ref a) >>= _) _ _ s
  refine wpAny_bind (wpAny_seqItems ho hd (wpAny_bind ?_))
  show wpAny _ _ (forIn items _ _) _ _ s
  rw [← Array.forIn_toList]
  refine wpAny_forIn_list _ (fun rest r s' => s' = s ∧ ∃ left, All2 (H.is s.heap) left rest) _ ?_ ?_ _ _ ⟨rfl, ks, hi⟩
  · rintro v rest r s' ⟨rfl, left, hl⟩
    cases hl with
    | cons h t =>
      refine wpAny_bind (H.hashBy (by omega) h fun b => ?_)
      cases b with
      | true =>
        simp only [Bool.not_true, Bool.false_eq_true, if_false]
        exact wpAny_pure ⟨rfl, _, t⟩
      | false =>
        simp only [Bool.not_false, if_true]
        exact wpAny_pure (by
          show wpAny _ _ _ _ _ _
          exact wpAny_pure (q _))
  · rintro ⟨r1, r2⟩ s' ⟨rfl, _⟩
    cases r1 <;> exact wpAny_pure (q _)
/-- tuples of a kind -/
def tupHK (H : HK P w κ) : HK P w (List κ) where
  is := TupIs H
  hash ks := reduceHash (Builtin.Tuple.tupleHashOf (ks.map H.hash))
  dep := H.dep + 1
  inj := TupIs.inj
  keep := TupIs.keep
  pyHash := tup_hash
  eqBool := tup_eq
  quiet := tup_quiet
  ofA := tup_ofA
  hashBy := tup_hashBy
end
end G39

/-! sets of tuples of any kind -/
namespace G39
open PySem PySem.Spec PyProof.Rows L2
section
variable {P : Program} {w : World} {κ : Type} [DecidableEq κ] {H : HK P w κ} {A : Around} {E : Value → Shared → Prop} {s : Shared}
def rowsG (H : HK P w κ) (L : List (Value × κ)) : List (Int × Value) := L.map fun p => (H.hash p.2, p.1)
theorem rowsG_len (L : List (Value × κ)) : (rowsG H L).length = L.length := by unfold rowsG; rw [List.length_map]
def IsRef (v : Value) : Prop := ∃ a, v = .ref a
structure SetG (H : HK P w κ) (h : Heap) (a : Addr) (L : List (Value × κ)) (es : Array (Int × Value)) (ep : Nat) (t : SetTable) : Prop where
  ob : ∃ o, h.get? a = some o ∧ o.ExactSet ∧ o.data = .set es ep t
  rows : es.toList = rowsG H L
  tab : TabOk t (L.map fun p => H.hash p.2)
  nd : (L.map (·.2)).Nodup
  el : ∀ p ∈ L, H.is h p.2 p.1 ∧ IsRef p.1
  led : w.params.followText "set-order" = true ∨ t.led = true
  room : L.length * 5 < t.mask * 3
  few : L.length < 77
/-- elements are not the set -/
theorem is_same {h h' : Heap} {k : κ} {a : Addr} {v : Value} {o : Obj} {es : Array (Int × Value)} {ep : Nat} {t : SetTable} (hb : H.is h k v) (ho : h.get? a = some o) (hd : o.data = .set es ep t) (hs : Heap.SameBut a h h') : H.is h' k v :=
  H.keep hb fun b u e _ ⟨items, n, e2⟩ => by
    have ne : b ≠ a := fun z => by
      subst z
      rw [ho] at e
      cases e
      rw [hd] at e2
      cases e2
    exact (hs.2 b ne).trans e
theorem is_keep {h h' : Heap} {k : κ} {v : Value} (hb : H.is h k v) (hk : ∀ b o, h.get? b = some o → h'.get? b = some o) : H.is h' k v := H.keep hb fun b o e _ _ => hk b o e
variable {a : Addr} {L : List (Value × κ)} {es : Array (Int × Value)} {ep : Nat} {t : SetTable}
theorem SetG.size {h : Heap} (R : SetG H h a L es ep t) : es.size = L.length := by
  rw [← Array.length_toList, R.rows, rowsG_len]
theorem SetG.fits {h : Heap} (R : SetG H h a L es ep t) : t.fits es.size = true := by
  have a1 : t.place.size = L.length := by
    have z := R.tab.sz
    rw [List.length_map] at z
    exact z
  have a2 := R.size
  have a3 := R.room
  unfold SetTable.fits SetTable.fill
  rw [R.tab.dm, Bool.and_eq_true, beq_iff_eq, decide_eq_true_eq]
  exact ⟨by omega, by show t.place.size + 0 ≤ t.mask; omega⟩
theorem SetG.entry {h : Heap} (R : SetG H h a L es ep t) {i : Nat} {p : Value × κ} (e : L[i]? = some p) : es[i]? = some (H.hash p.2, p.1) := by
  rw [← Array.getElem?_toList, R.rows, rowsG, List.getElem?_map, e]
  rfl
theorem SetG.noWay {h : Heap} (R : SetG H h a L es ep t) : ¬ t.gaveWay = true := by
  have z := mask_odd R.tab.mok
  unfold SetTable.gaveWay
  rw [z]
  decide
/-- nothing is to be seen of a search -/
theorem seenG {k : κ} {x : Value} {Q : Bool → Shared → Prop} (h8 : H.dep ≤ 8) (hk : H.is s.heap k x) (rx : IsRef x) {ys : List Value} (hy : ∀ y ∈ ys, ∃ k', H.is s.heap k' y ∧ IsRef y) (q : Q false s) : wpAny (model P w) A (searchCouldBeSeen x ys) Q E s := by
  obtain ⟨b, rfl⟩ := rx
  unfold searchCouldBeSeen
  refine wpAny_bind ?_
  refine wpAny_forIn_list _ (fun rest r s' => r.1 = none ∧ s' = s ∧ ∀ y ∈ rest, ∃ k', H.is s.heap k' y ∧ IsRef y) _ ?_ ?_ _ _ ⟨rfl, rfl, hy⟩
  · rintro y rest r s' ⟨hr, rfl, hall⟩
    obtain ⟨k', hc, c, rfl⟩ := hall y (List.mem_cons_self ..)
    have more : ∀ y ∈ rest, ∃ k', H.is s'.heap k' y ∧ IsRef y := fun u hu => hall u (List.mem_cons_of_mem _ hu)
    dsimp only
    by_cases hv : (b == c || (carriedByValue (.ref b) && carriedByValue (.ref c))) = true
    · exact wp_if_pos hv (wpAny_pure ⟨rfl, rfl, more⟩)
    · refine wp_if_neg hv (wpAny_bind (H.quiet h8 hk ?_))
      simp only [Bool.not_true, Bool.false_eq_true, if_false]
      refine wpAny_bind (H.quiet h8 hc ?_)
      simp only [Bool.not_true, Bool.false_eq_true, if_false]
      refine wpAny_bind (H.ofA h8 hk ?_)
      simp only [Bool.false_eq_true, if_false]
      refine wpAny_bind (H.ofA h8 hc ?_)
      simp only [Bool.false_eq_true, if_false]
      exact wpAny_pure ⟨rfl, rfl, more⟩
  · rintro ⟨r1, r2⟩ s' ⟨hr, rfl, _⟩
    simp only at hr
    subst hr
    exact wpAny_pure q
/-- where a search stands behind c steps -/
abbrev prb (m : Nat) (h : Int) (c : Nat) : SetTable.Probe := nth m (runAt m (SetTable.bits h % (m + 1)) (SetTable.bits h)) c
theorem prb_dummy (m : Nat) (h : Int) (c : Nat) : (prb m h c).dummy = none := by
  have key : ∀ (n : Nat) (p : SetTable.Probe), p.dummy = none → (nth m p n).dummy = none := fun n => by
    induction n with
    | zero => exact fun p e => e
    | succ n ih =>
      intro p e
      refine ih (adv m p) ?_
      unfold adv
      split <;> exact e
  exact key c _ rfl
theorem prb_add (m : Nat) (h : Int) (c q : Nat) : nth m (prb m h c) q = prb m h (c + q) := (nth_add m c _ q).symm
theorem searchG (R : SetG H s.heap a L es ep t) (h8 : H.dep ≤ 8) {k : κ} {x : Value} (hx : H.is s.heap k x) (rx : IsRef x) (hu : A.units + H.dep < cLine) {M : Nat} (hMf : M < 10 * SetTable.turns t.mask)
    (hM : way t.mask (H.hash k) M ∉ t.place.toList) (hMb : ∀ c, c < M → way t.mask (H.hash k) c ∈ t.place.toList) {Q : SetFound → Shared → Prop}
    (hin : k ∈ L.map (·.2) → Q (.there none) s) (hout : k ∉ L.map (·.2) → Q (.free (way t.mask (H.hash k) M) false) s) :
    ∀ (f c : Nat) (st : Option SetTable.Probe), st.getD (t.probeStart (H.hash k)) = prb t.mask (H.hash k) c → c ≤ M → M - c < f →
      (∀ (i : Nat) p, L[i]? = some p → p.2 = k → ∃ c', c ≤ c' ∧ c' < M ∧ t.place.toList[i]? = some (way t.mask (H.hash k) c')) →
      wpAny (model P w) A (setSearchFrom a x (H.hash k) true f st) Q E s
  | 0, _, _, _, _, hf, _ => absurd hf (Nat.not_lt_zero _)
  | f + 1, c, st, hst, hc, hf, hre => by
    obtain ⟨o, ho, hex, hd⟩ := R.ob
    rw [setSearchFrom_succ]
    refine wpAny_bind (wpAny_setState_of ho hd R.fits ?_)
    dsimp only
    refine wp_if_neg R.noWay ?_
    try refine wpAny_bind (wpAny_pure ?_)
    have wy : ∀ q, (nth t.mask (prb t.mask (H.hash k) c) q).j = way t.mask (H.hash k) (c + q) := fun q => congrArg SetTable.Probe.j (prb_add t.mask (H.hash k) c q)
    have spec := go_spec t R.tab.ris R.tab.dm (fun i => (es[i]?.map (·.1)).getD 0) (H.hash k) (10 * SetTable.turns t.mask) (M - c) _ (prb_dummy t.mask (H.hash k) c) (by omega)
      (fun q hq => by rw [wy]; exact hMb (c + q) (by omega)) (by rw [wy, show c + (M - c) = M by omega]; exact hM)
    have hashAt : ∀ (i : Nat) p, L[i]? = some p → (es[i]?.map (·.1)).getD 0 = H.hash p.2 := fun i p hp => by
      rw [R.entry hp]
      rfl
    rcases spec with ⟨q, i, hq, hi, hh, hno, hpr⟩ | ⟨hno, hpr⟩
    · have pr2 : t.probe (fun i => (es[i]?.map (·.1)).getD 0) (H.hash k) (st.getD (t.probeStart (H.hash k))) = some (.candidate (way t.mask (H.hash k) (c + q)) i (prb t.mask (H.hash k) (c + (q + 1)))) := by
        rw [hst, ← wy, ← prb_add]
        exact hpr
      rw [pr2]
      dsimp only
      rw [wy] at hi
      have hil : i < L.length := by
        have z1 : i < t.place.toList.length := (List.getElem?_eq_some_iff.mp hi).1
        have z2 := R.tab.sz
        rw [List.length_map] at z2
        rw [Array.length_toList] at z1
        omega
      obtain ⟨p, hp⟩ : ∃ p, L[i]? = some p := ⟨L[i], List.getElem?_eq_getElem hil⟩
      have hmem : p ∈ L := List.mem_of_getElem? hp
      have hpt := (R.el p hmem).1
      have rest : wpAny (model P w) A (searchRest a x (H.hash k) true f es t (way t.mask (H.hash k) (c + q)) i (prb t.mask (H.hash k) (c + (q + 1)))) Q E s := by
        unfold searchRest
        rw [R.entry hp]
        dsimp only
        refine wpAny_bind (wpAny_holding (H.eqBool hu hpt hx (wpAny_bind (wpAny_setState_of ho hd R.fits ?_))))
        dsimp only
        by_cases hkk : p.2 = k
        · refine wp_if_pos (by simp [hkk]) (wpAny_pure (hin ?_))
          exact List.mem_map.mpr ⟨p, hmem, hkk⟩
        · refine wp_if_neg (by simp [hkk]) ?_
          try refine wpAny_bind (wpAny_pure ?_)
          rw [sameMem]
          dsimp only
          have hsl : t.slot (way t.mask (H.hash k) (c + q)) = .live i := slot_live R.tab.ris hi
          obtain ⟨ad, had⟩ := (R.el p hmem).2
          simp only [if_true, hsl, R.entry hp, had]
          refine wpAny_bind (wpAny_isSame_ref_self (wpAny_bind (wpAny_pure ?_)))
          simp only [if_true]
          refine wp_if_neg (by simp [hkk]) (searchG R h8 hx rx hu hMf hM hMb hin hout f (c + (q + 1)) _ rfl (by omega) (by omega) fun i0 p0 h0 hk0 => ?_)
          obtain ⟨c', a1, a2, a3⟩ := hre i0 p0 h0 hk0
          refine ⟨c', ?_, a2, a3⟩
          rcases Nat.lt_trichotomy c' (c + q) with z | z | z
          · exfalso
            refine hno (c' - c) i0 (by omega) (by rw [wy, show c + (c' - c) = c' by omega]; exact a3) ?_
            exact (hashAt i0 p0 h0).trans (congrArg H.hash hk0)
          · exfalso
            rw [z] at a3
            have s0 := slot_live R.tab.ris a3
            rw [hsl] at s0
            injection s0 with s0
            rw [← s0, hp] at h0
            exact hkk ((congrArg Prod.snd (Option.some.inj h0)).trans hk0)
          · omega
      by_cases hl : t.led = true
      · refine wp_if_neg (by simp [hl]) ?_
        try refine wpAny_bind (wpAny_pure ?_)
        exact rest
      · refine wp_if_pos (by simp [hl]) (wpAny_bind (seenG h8 hx rx (fun y hy => ?_) ?_))
        · obtain ⟨e, he, ee⟩ := List.mem_map.mp hy
          have he2 : e ∈ es.toList := by
            have z : e ∈ es ∧ e.1 = H.hash k := by simpa using he
            simpa using z.1
          rw [R.rows] at he2
          obtain ⟨p2, hp2, e2⟩ := List.mem_map.mp he2
          refine ⟨p2.2, ?_⟩
          rw [← ee, ← e2]
          exact R.el p2 hp2
        · refine wp_if_neg (by decide) ?_
          try refine wpAny_bind (wpAny_pure ?_)
          exact rest
    · have pr2 : t.probe (fun i => (es[i]?.map (·.1)).getD 0) (H.hash k) (st.getD (t.probeStart (H.hash k))) = some (.empty (way t.mask (H.hash k) M) none) := by
        have e2 : way t.mask (H.hash k) M = (nth t.mask (prb t.mask (H.hash k) c) (M - c)).j := by
          rw [wy, show c + (M - c) = M by omega]
        rw [hst, e2]
        exact hpr
      rw [pr2]
      dsimp only
      refine wpAny_pure (hout fun hm => ?_)
      obtain ⟨p0, h0, hk0⟩ := List.mem_map.mp hm
      obtain ⟨i0, hi0⟩ := List.mem_iff_getElem?.mp h0
      obtain ⟨c', a1, a2, a3⟩ := hre i0 p0 hi0 hk0
      refine hno (c' - c) i0 (by omega) (by rw [wy, show c + (c' - c) = c' by omega]; exact a3) ?_
      exact (hashAt i0 p0 hi0).trans (congrArg H.hash hk0)
theorem findG (R : SetG H s.heap a L es ep t) (h8 : H.dep ≤ 8) {k : κ} {x : Value} (hx : H.is s.heap k x) (rx : IsRef x) (hu : A.units + H.dep < cLine) {Q : SetFound → Shared → Prop} (hin : k ∈ L.map (·.2) → Q (.there none) s)
    (hout : ∀ M, k ∉ L.map (·.2) → way t.mask (H.hash k) M ∉ t.place.toList → (∀ c, c < M → way t.mask (H.hash k) c ∈ t.place.toList) → Q (.free (way t.mask (H.hash k) M) false) s) :
    wpAny (model P w) A (setSearch a x (H.hash k) true) Q E s := by
  have hroom := R.room
  obtain ⟨M, hMf, hM, hMb⟩ := R.tab.first (by rw [List.length_map]; omega) (H.hash k)
  have hbig : M < 100000 := by
    have : 10 * SetTable.turns t.mask ≤ 1420 := by
      unfold SetTable.turns
      rcases R.tab.mok with e | e | e <;> omega
    omega
  unfold setSearch
  refine searchG R h8 hx rx hu hMf hM hMb hin (fun hn => hout M hn hM hMb) 100000 0 none rfl (Nat.zero_le _) (by omega) fun i p hp hk => ?_
  have hi : (L.map fun p => H.hash p.2)[i]? = some (H.hash k) := by
    rw [List.getElem?_map, hp, ← hk]
    rfl
  have hil : i < t.place.toList.length := by
    have z1 : i < L.length := (List.getElem?_eq_some_iff.mp hp).1
    have z2 := R.tab.sz
    rw [List.length_map] at z2
    rw [Array.length_toList]
    omega
  have hj := List.getElem?_eq_getElem hil
  obtain ⟨c, hc, e⟩ := R.tab.before hM hi hj
  exact ⟨c, Nat.zero_le _, hc, by rw [hj, e]⟩
end
end G39

namespace G39
open PySem PySem.Spec PyProof.Rows L2
section
variable {P : Program} {w : World} {κ : Type} [DecidableEq κ] {H : HK P w κ} {A : Around} {E : Value → Shared → Prop} {s : Shared}
theorem rowsG_put (L : List (Value × κ)) (p : Nat) (x : Value) (k : κ) : rowsG H (L.take p ++ (x, k) :: L.drop p) = (rowsG H L).take p ++ (H.hash k, x) :: (rowsG H L).drop p := by
  unfold rowsG
  rw [List.map_append, List.map_cons, List.map_take, List.map_drop]
theorem rowsG_at (L : List (Value × κ)) {es : Array (Int × Value)} (hr : es.toList = rowsG H L) {i : Nat} {p : Value × κ} (e : L[i]? = some p) : es[i]? = some (H.hash p.2, p.1) := by
  rw [← Array.getElem?_toList, hr, rowsG, List.getElem?_map, e]
  rfl
theorem pick_all {α : Type} (L : List α) : (List.range L.length).filterMap (fun i => L[i]?) = L := by
  refine List.ext_getElem? fun j => ?_
  have key : ∀ n, n ≤ L.length → (List.range n).filterMap (fun i => L[i]?) = L.take n := fun n => by
    induction n with
    | zero => exact fun _ => rfl
    | succ n ih =>
      intro hn
      have hlt : n < L.length := hn
      rw [List.range_succ, List.filterMap_append, ih (Nat.le_of_lt hlt), List.take_succ, List.getElem?_eq_getElem hlt, List.filterMap_cons_some (List.getElem?_eq_getElem hlt)]
      rfl
  rw [key L.length (Nat.le_refl _), List.take_length]
theorem orderG (L : List (Value × κ)) (es : Array (Int × Value)) (order : Array Nat) (hr : es.toList = rowsG H L) (hp : order.toList.Perm (List.range L.length)) :
    ∃ L2, (order.filterMap (es[·]?)).toList = rowsG H L2 ∧ L2.Perm L ∧ (L2.map fun p => H.hash p.2) = order.toList.map fun i => (es.map (·.1)).getD i 0 := by
  have key : ∀ l : List Nat, (∀ i ∈ l, i < L.length) → l.filterMap (fun i => es[i]?) = rowsG H (l.filterMap fun i => L[i]?) ∧ ((l.filterMap fun i => L[i]?).map fun p => H.hash p.2) = l.map fun i => (es.map (·.1)).getD i 0 := fun l => by
    induction l with
    | nil => exact fun _ => ⟨rfl, rfl⟩
    | cons i l ih =>
      intro hl
      obtain ⟨e1, e2⟩ := ih fun j hj => hl j (List.mem_cons_of_mem _ hj)
      have hi := List.getElem?_eq_getElem (hl i (List.mem_cons_self ..))
      have he := rowsG_at L hr hi
      have hg : (es.map (·.1)).getD i 0 = H.hash (L[i]'(hl i (List.mem_cons_self ..))).2 := by
        have e5 : (es.map (·.1))[i]? = some (H.hash (L[i]'(hl i (List.mem_cons_self ..))).2) := by
          rw [Array.getElem?_map, he]
          rfl
        simp [Array.getD_eq_getD_getElem?, e5]
      refine ⟨?_, ?_⟩
      · rw [List.filterMap_cons_some he, List.filterMap_cons_some hi, e1]
        rfl
      · rw [List.filterMap_cons_some hi, List.map_cons, List.map_cons, e2, hg]
  obtain ⟨e1, e2⟩ := key order.toList fun i hi => List.mem_range.mp (hp.mem_iff.mp hi)
  refine ⟨order.toList.filterMap fun i => L[i]?, by first | (rw [Array.toList_filterMap]; exact e1) | simpa using e1, ?_, e2⟩
  have z := hp.filterMap fun i => L[i]?
  rw [pick_all] at z
  exact z
variable {a : Addr} {L : List (Value × κ)} {es : Array (Int × Value)} {ep : Nat} {t : SetTable}
theorem relayG {o : Obj} (ho : s.heap.get? a = some o) (hex : o.ExactSet) (hd : o.data = .set es ep t) (hrows : es.toList = rowsG H L) (hsz : t.place.size = es.size) (hdm : t.dummies = #[]) (hfl : es.size ≤ t.mask)
    (nd : (L.map (·.2)).Nodup) (el : ∀ p ∈ L, H.is s.heap p.2 p.1 ∧ IsRef p.1) (ld : w.params.followText "set-order" = true ∨ t.led = true) (few : L.length < 77) {wanted M : Nat}
    (hw : SetTable.sizeAbove wanted - 1 = M) (hM : MaskOk M) (hw2 : SetTable.sizeAbove wanted ≤ 128) (hn : L.length * 5 < M * 3) {Q : Unit → Shared → Prop}
    (hQ : ∀ h' L' es' ep' t', Heap.SameBut a s.heap h' → SetG H h' a L' es' ep' t' → L'.Perm L → Q () { s with heap := h' }) : wpAny (model P w) A (setRelay a wanted) Q E s := by
  have hsl : es.size = L.length := by rw [← Array.length_toList, hrows, rowsG_len]
  have hfits : t.fits es.size = true := by
    unfold SetTable.fits SetTable.fill
    rw [hdm, Bool.and_eq_true, beq_iff_eq, decide_eq_true_eq]
    exact ⟨hsz, by show t.place.size + 0 ≤ t.mask; omega⟩
  obtain ⟨t', order, e, hp, T, em, el', ep', ed⟩ := relaid_ok t (hs := es.map (·.1)) (wanted := wanted) hw hM (by rw [Array.size_map, hsl]; omega)
  rw [Array.size_map, hsl] at hp
  obtain ⟨L2, r1, r2, r3⟩ := orderG L es order hrows hp
  rw [← r3] at T
  have hs2 : (order.filterMap (es[·]?)).size = es.size := by rw [← Array.length_toList, r1, rowsG_len, r2.length_eq, hsl]
  rw [setRelay_eq]
  refine wpAny_bind (wpAny_setState_of ho hd hfits ?_)
  dsimp only
  refine wp_if_neg (by rw [sizeLine_eq]; omega) ?_
  try refine wpAny_bind (wpAny_pure ?_)
  rw [e]
  dsimp only
  refine wpAny_bind (wp_if_neg (by rw [hs2]; simp) ?_)
  try refine wpAny_bind (wpAny_pure ?_)
  refine wpAny_pure ?_
  dsimp only
  refine wpAny_storeSet_of ho hd ?_ (by rw [hs2, hsl, sizeLine_eq]; omega)
  have sb : Heap.SameBut a s.heap (s.heap.update a (Obj.putSet (order.filterMap (es[·]?)) t')) := Heap.SameBut.update ..
  exact hQ _ L2 _ (ep + 1) t' sb ⟨⟨_, store_at ho hd, ⟨hex.1, hex.2.1, hex.2.2⟩, rfl⟩, r1, T, (r2.map (·.2)).nodup_iff.mpr nd, fun p hpm => ⟨is_same (el p (r2.mem_iff.mp hpm)).1 ho hd sb, (el p (r2.mem_iff.mp hpm)).2⟩, by rw [el']; exact ld, by rw [r2.length_eq, em]; exact hn, by rw [r2.length_eq]; exact few⟩ r2
theorem tab_plain {t : SetTable} {hs : List Int} {b : Bool} (T : TabOk t hs) : TabOk { t with plain := b } hs := by
  obtain ⟨h1, h2, h3, h4, h5, h6⟩ := T
  exact ⟨h1, h2, h3, h4, h5, h6⟩
/-- one more -/
theorem addG (R : SetG H s.heap a L es ep t) (h8 : H.dep ≤ 8) {x : Value} {k : κ} (hx : H.is s.heap k x) (rx : IsRef x) (hu : A.units + H.dep < cLine) (hfew : L.length + 1 < 77) {Q : Bool → Shared → Prop}
    (hQ : ∀ b h' L' es' ep' t', Heap.SameBut a s.heap h' → SetG H h' a L' es' ep' t' → (k ∈ L.map (·.2) → L' = L) → (k ∉ L.map (·.2) → L'.Perm ((x, k) :: L)) → Q b { s with heap := h' }) :
    wpAny (model P w) A (setAddHashed a x (H.hash k)) Q E s := by
  obtain ⟨o, ho, hex, hd⟩ := R.ob
  have hsl := R.size
  have hroom := R.room
  unfold setAddHashed
  refine wpAny_holding ?_
  rw [show (100000 : Nat) = 99999 + 1 from rfl, setAddHashedIn_succ]
  refine wpAny_bind (wpAny_setState_of ho hd R.fits ?_)
  dsimp only
  have nsc : byScan x es = false := by
    obtain ⟨b, rfl⟩ := rx
    simp [byScan, Value.scannable]
  refine wp_if_neg (by rw [nsc]; exact Bool.false_ne_true) ?_
  try refine wpAny_bind (wpAny_pure ?_)
  refine wpAny_bind (findG R h8 hx rx hu (fun hm => ?_) fun M hm hM hb => ?_)
  · dsimp only
    exact wpAny_pure (hQ false s.heap L es ep t (Heap.SameBut.refl a s.heap) R (fun _ => rfl) fun z => absurd hm z)
  · dsimp only
    refine wpAny_bind (wpAny_setState_of ho hd R.fits ?_)
    dsimp only
    obtain ⟨q1, q2, q3, q4, q5, q6, q7, q8, q9⟩ := R.tab.put hM hb
    generalize hpt : t.put (way t.mask (H.hash k) M) = pt at q1 q3 q4 q5 q6 q7 q8 q9 ⊢
    obtain ⟨t1, p⟩ := pt
    dsimp only at q1 q3 q4 q5 q6 q7 q8 q9 ⊢
    subst q1
    have hin : (SetTable.insertAt es (SetTable.below t.place (way t.mask (H.hash k) M)) (H.hash k, x)).toList = rowsG H (L.take (SetTable.below t.place (way t.mask (H.hash k) M)) ++ (x, k) :: L.drop (SetTable.below t.place (way t.mask (H.hash k) M))) := by
      rw [SetTable.toList_insertAt, rowsG_put, R.rows]
    generalize hpp : SetTable.below t.place (way t.mask (H.hash k) M) = p at q2 q3 hin ⊢
    have pm := put_perm L p (x, k)
    have hlen : (L.take p ++ (x, k) :: L.drop p).length = L.length + 1 := pm.length_eq
    have hhs : (L.take p ++ (x, k) :: L.drop p).map (fun p => H.hash p.2) = (L.map fun p => H.hash p.2).take p ++ H.hash k :: (L.map fun p => H.hash p.2).drop p := by
      rw [List.map_append, List.map_cons, List.map_take, List.map_drop]
    rw [← hhs] at q3
    have nd1 : ((L.take p ++ (x, k) :: L.drop p).map (·.2)).Nodup := (pm.map (·.2)).nodup_iff.mpr (List.nodup_cons.mpr ⟨hm, R.nd⟩)
    have hes : (SetTable.insertAt es p (H.hash k, x)).size = L.length + 1 := by rw [← Array.length_toList, hin, rowsG_len, hlen]
    generalize SetTable.insertAt es p (H.hash k, x) = es1 at hin hes ⊢
    generalize L.take p ++ (x, k) :: L.drop p = L1 at pm hlen q3 nd1 hin
    -- whatever its hash is made of
    have fin : ∀ t2 : SetTable, TabOk t2 (L1.map fun p => H.hash p.2) → t2.mask = t.mask → t2.led = t.led → t2.place = t1.place → t2.dummies = t1.dummies →
        wpAny (model P w) A (do
          storeSet a es1 t2
          if (!false && t2.tooFull) = true then do
              setRelay a (SetTable.grown (es.size + 1))
              pure true
            else pure true) Q E s := fun t2 T2 m2 l2 p2 d2 => by
      refine wpAny_bind (wpAny_storeSet_of ho hd ?_ (by rw [hes, sizeLine_eq]; omega))
      have sb : Heap.SameBut a s.heap (s.heap.update a (Obj.putSet es1 t2)) := Heap.SameBut.update ..
      have ho1 := store_at (es' := es1) (t' := t2) ho hd
      generalize s.heap.update a (Obj.putSet es1 t2) = h1 at sb ho1 ⊢
      have el1 : ∀ p ∈ L1, H.is h1 p.2 p.1 ∧ IsRef p.1 := fun p hp => by
        rcases List.mem_cons.mp (pm.mem_iff.mp hp) with e | hp
        · rw [e]
          exact ⟨is_same hx ho hd sb, rx⟩
        · exact ⟨is_same (R.el p hp).1 ho hd sb, (R.el p hp).2⟩
      have ld1 : w.params.followText "set-order" = true ∨ t2.led = true := by
        rw [l2]
        exact R.led
      have fill2 : t2.tooFull = decide ((L.length + 1) * 5 ≥ t.mask * 3) := by
        have z2 := T2.sz
        rw [List.length_map, hlen] at z2
        unfold SetTable.tooFull SetTable.fill
        rw [T2.dm, m2, z2]
        rfl
      by_cases hf : t2.tooFull = true
      · refine wp_if_pos (by rw [hf]; rfl) (wpAny_bind ?_)
        have hfull : (L.length + 1) * 5 ≥ t.mask * 3 := by
          rw [fill2] at hf
          exact of_decide_eq_true hf
        rw [hsl]
        have hsz1 : t2.place.size = es1.size := by
          have z2 := T2.sz
          rw [List.length_map, hlen] at z2
          rw [z2, hes]
        have cs : (t.mask = 7 ∧ L.length = 4) ∨ (t.mask = 31 ∧ L.length = 18) := by
          rcases R.tab.mok with e | e | e
          · left; rw [e] at hfull hroom; exact ⟨e, by omega⟩
          · right; rw [e] at hfull hroom; exact ⟨e, by omega⟩
          · exfalso; rw [e] at hfull; omega
        have go : ∀ M, SetTable.sizeAbove (SetTable.grown (L.length + 1)) - 1 = M → MaskOk M → SetTable.sizeAbove (SetTable.grown (L.length + 1)) ≤ 128 → (L.length + 1) * 5 < M * 3 →
            wpAny (model P w) A (setRelay a (SetTable.grown (L.length + 1))) (fun _ s' => wpAny (model P w) A (pure true) Q E s') E { s with heap := h1 } := fun M g1 g2 g3 g4 => by
          refine relayG (s := { s with heap := h1 }) ho1 ⟨hex.1, hex.2.1, hex.2.2⟩ rfl hin hsz1 T2.dm (by rw [hes, m2]; rcases cs with ⟨e, e2⟩ | ⟨e, e2⟩ <;> omega) nd1 el1 ld1 (by rw [hlen]; exact hfew) g1 g2 g3 (by rw [hlen]; exact g4) ?_
          intro h2 L2 es2 ep2 t3 sb2 R2 pm2
          exact wpAny_pure (hQ true h2 L2 es2 ep2 t3 (sb.trans sb2) R2 (fun z => absurd z hm) fun _ => pm2.trans pm)
        rcases cs with ⟨_, e2⟩ | ⟨_, e2⟩
        · exact go 31 (by rw [e2, size_20]) (.inr (.inl rfl)) (by rw [e2, size_20]; decide) (by omega)
        · exact go 127 (by rw [e2, size_76]) (.inr (.inr rfl)) (by rw [e2, size_76]; decide) (by omega)
      · refine wp_if_neg (by
          cases q : t2.tooFull with
          | true => exact absurd q hf
          | false => exact Bool.false_ne_true) (wpAny_pure (hQ true h1 L1 es1 (ep + 1) t2 sb ⟨⟨_, ho1, ⟨hex.1, hex.2.1, hex.2.2⟩, rfl⟩, hin, T2, nd1, el1, ld1, ?_, by rw [hlen]; exact hfew⟩ (fun z => absurd z hm) fun _ => pm))
        rw [fill2] at hf
        have z : ¬ ((L.length + 1) * 5 ≥ t.mask * 3) := fun y => hf (decide_eq_true y)
        rw [hlen, m2]
        omega
    have byv : ∀ b : Bool, wpAny (model P w) A (do
          storeSet a es1 (if b = true then t1 else { t1 with plain := false })
          if (!false && (if b = true then t1 else { t1 with plain := false }).tooFull) = true then do
              setRelay a (SetTable.grown (es.size + 1))
              pure true
            else pure true) Q E s := fun b => by
      cases b with
      | true => exact fin t1 q3 q4 q5 rfl rfl
      | false => exact fin { t1 with plain := false } (tab_plain q3) q4 q5 rfl rfl
    by_cases hp1 : t1.plain = true
    · first
        | (refine wpAny_bind ?_; refine wp_if_pos hp1 (H.hashBy h8 hx fun b => ?_); exact byv b)
        | (refine wp_if_pos hp1 (wpAny_bind (H.hashBy h8 hx fun b => ?_)); exact byv b)
    · first
        | (refine wpAny_bind ?_; refine wp_if_neg hp1 (wpAny_pure ?_); exact byv true)
        | (refine wp_if_neg hp1 (wpAny_bind (wpAny_pure ?_)); exact byv true)
/-- a new set -/
theorem newG {h : Heap} {a : Addr} (ho : h.get? a = some { cls := .type "set", dict := none, data := .set #[] 0 (.fresh 0 0 (!w.params.followText "set-order")) }) : SetG H h a [] #[] 0 (.fresh 0 0 (!w.params.followText "set-order")) where
  ob := ⟨_, ho, ⟨rfl, rfl, rfl⟩, rfl⟩
  rows := rfl
  tab := ⟨List.Pairwise.nil, rfl, rfl, .inl rfl, fun x hx => (by cases hx), fun i h j hi => (by simp at hi)⟩
  nd := List.nodup_nil
  el := fun p hp => by cases hp
  led := by
    cases e : w.params.followText "set-order" with
    | true => exact .inl rfl
    | false => exact .inr rfl
  room := by show 0 * 5 < 7 * 3; decide
  few := by show 0 < 77; decide
end
end G39

/-! tuples of texts in order -/
namespace G39
open PySem PySem.Spec PyProof.Rows L2
/-- texts by their signs -/
def ltT (a b : Str) : Bool := decide (a.cps.toList < b.cps.toList)
/-- tuples of texts, from the left -/
def ltP : List Str → List Str → Bool
  | [], [] => false
  | [], _ :: _ => true
  | _ :: _, [] => false
  | a :: x, b :: y => if a = b then ltP x y else ltT a b
theorem ltT_irr (a : Str) : ltT a a = false := decide_eq_false (List.lt_irrefl _)
theorem cps_inj {a b : Str} (h : a.cps.toList = b.cps.toList) : a = b := by
  cases a with
  | mk x =>
    cases b with
    | mk y =>
      have e : x = y := by
        cases x
        cases y
        simpa using h
      rw [e]
theorem ltT_asym {a b : Str} (h : ltT a b = true) : ltT b a = false := by
  have h1 : a.cps.toList < b.cps.toList := of_decide_eq_true h
  exact decide_eq_false fun h2 => List.lt_irrefl _ (List.lt_trans h1 h2)
theorem ltT_trans {a b c : Str} (h : ltT a b = true) (h' : ltT b c = true) : ltT a c = true := decide_eq_true (List.lt_trans (of_decide_eq_true h) (of_decide_eq_true h'))
theorem ltT_tri {a b : Str} (h : ltT a b = false) (h' : ltT b a = false) : a = b := by
  have h1 : ¬ a.cps.toList < b.cps.toList := of_decide_eq_false h
  have h2 : ¬ b.cps.toList < a.cps.toList := of_decide_eq_false h'
  exact cps_inj (List.le_antisymm (List.not_lt.mp h2) (List.not_lt.mp h1))
theorem ltP_irr : ∀ x : List Str, ltP x x = false
  | [] => rfl
  | a :: x => by
    unfold ltP
    rw [if_pos rfl]
    exact ltP_irr x
theorem ltP_asym : ∀ {x y : List Str}, ltP x y = true → ltP y x = false
  | [], [], h => by cases h
  | [], _ :: _, _ => rfl
  | _ :: _, [], h => by cases h
  | a :: x, b :: y, h => by
    unfold ltP at h ⊢
    by_cases e : a = b
    · subst e
      rw [if_pos rfl] at h ⊢
      exact ltP_asym h
    · rw [if_neg e] at h
      rw [if_neg (Ne.symm e)]
      exact ltT_asym h
theorem ltP_tri : ∀ {x y : List Str}, ltP x y = false → ltP y x = false → x = y
  | [], [], _, _ => rfl
  | [], _ :: _, h, _ => by cases h
  | _ :: _, [], _, h => by cases h
  | a :: x, b :: y, h, h' => by
    unfold ltP at h h'
    by_cases e : a = b
    · subst e
      rw [if_pos rfl] at h h'
      rw [ltP_tri h h']
    · rw [if_neg e] at h
      rw [if_neg (Ne.symm e)] at h'
      exact absurd (ltT_tri h h') e
theorem ltP_trans : ∀ {x y z : List Str}, ltP x y = true → ltP y z = true → ltP x z = true
  | [], [], _, h, _ => by cases h
  | [], _ :: _, [], _, h => by cases h
  | [], _ :: _, _ :: _, _, _ => rfl
  | _ :: _, [], _, h, _ => by cases h
  | _ :: _, _ :: _, [], _, h => by cases h
  | a :: x, b :: y, c :: z, h, h' => by
    unfold ltP at h h' ⊢
    by_cases e : a = b
    · subst e
      rw [if_pos rfl] at h
      by_cases e' : a = c
      · subst e'
        rw [if_pos rfl] at h' ⊢
        exact ltP_trans h h'
      · rw [if_neg e'] at h' ⊢
        exact h'
    · rw [if_neg e] at h
      by_cases e' : b = c
      · subst e'
        rw [if_neg e]
        exact h
      · rw [if_neg e'] at h'
        have t := ltT_trans h h'
        by_cases e2 : a = c
        · subst e2
          rw [ltT_irr] at t
          cases t
        · rw [if_neg e2]
          exact t
/-- the texts of a tuple -/
noncomputable def keyP (P : Program) (w : World) (h : Heap) (v : Value) : List Str := @dite _ (∃ k, (tupHK (strHK P w)).is h k v) (Classical.propDecidable _) (fun e => e.choose) fun _ => []
theorem keyP_of {P : Program} {w : World} {h : Heap} {v : Value} {k : List Str} (e : (tupHK (strHK P w)).is h k v) : keyP P w h v = k := by
  unfold keyP
  rw [dif_pos ⟨k, e⟩]
  exact (tupHK (strHK P w)).inj (Exists.choose_spec (⟨k, e⟩ : ∃ k, (tupHK (strHK P w)).is h k v)) e
section
variable {P : Program} {w : World} {A : Around} {E : Value → Shared → Prop} {s : Shared}
theorem lex_strs {Q : Bool → Shared → Prop} {m n : Nat} : ∀ {x y : List Str} {xs ys : List Value} {i : Nat}, All2 ((strHK P w).is s.heap) x xs → All2 ((strHK P w).is s.heap) y ys → Q (if x.length = y.length ∨ True then ltP x y else ltP x y) s → (decide (m < n) = decide (x.length < y.length)) →
    PySem.W.KatLex P w A true (decide (m < n)) Q (xs.zip ys) i s
  | _, _, _, _, i, .nil, .nil, q, e => by
    refine PySem.W.kat_nil ?_
    rw [e]
    simpa [ltP] using q
  | _, _, _, _, i, .nil, .cons _ _, q, e => by
    refine PySem.W.kat_nil ?_
    rw [e]
    simpa [ltP] using q
  | _, _, _, _, i, .cons _ _, .nil, q, e => by
    refine PySem.W.kat_nil ?_
    rw [e]
    simpa [ltP] using q
  | a :: x, b :: y, _, _, i, .cons ha hx, .cons hb hy, q, e => by
    obtain ⟨ta, rfl⟩ := ha
    obtain ⟨tb, rfl⟩ := hb
    have q1 : Q (ltP (a :: x) (b :: y)) s := by simpa using q
    refine PySem.W.kat_cons ((strKind P w).eqBool (strKind_is P w a ta) (strKind_is P w b tb) ?_)
    unfold ltP at q1
    by_cases c : a = b
    · rw [decide_eq_true c]
      rw [if_pos c] at q1
      exact PySem.W.kat_yes (lex_strs hx hy (by simpa using q1) (by rw [e]; simp))
    · rw [decide_eq_false c]
      rw [if_neg c] at q1
      refine PySem.W.kat_no ?_
      cases h0 : (true && i == 0) with
      | true => exact oneLt_str q1
      | false => exact PySem.W.kat_one _ _ (PyProof.Rows.lt_str q1)
theorem swo_P (k : Value → List Str) : SrtO.Swo fun v u => ltP (k v) (k u) := by
  refine ⟨fun x y h => ltP_asym h, fun x y z h1 h2 => ?_⟩
  have h1 : ltP (k y) (k x) = false := h1
  have h2 : ltP (k z) (k y) = false := h2
  show ltP (k z) (k x) = false
  cases e : ltP (k z) (k x) with
  | false => rfl
  | true =>
    cases c : ltP (k x) (k y) with
    | true =>
      have t := ltP_trans e c
      rw [h2] at t
      cases t
    | false =>
      rw [ltP_tri c h1] at e
      rw [h2] at e
      cases e
theorem cmp_P {vs : List Value} (hp : ∀ v ∈ vs, ∃ k, (tupHK (strHK P w)).is s.heap k v) : SrtO.Cmp P w A s (tuples' true) (fun p => p.1 ∈ vs) (SrtO.lt2 fun v u => ltP (keyP P w s.heap v) (keyP P w s.heap u)) := by
  intro p q hm hm'
  obtain ⟨k1, h1⟩ := hp _ hm
  obtain ⟨k2, h2⟩ := hp _ hm'
  show wpAny (model P w) A (keyLt' (tuples' true) p.1 q.1) (fun r s' => s' = s ∧ r = ltP (keyP P w s.heap p.1) (keyP P w s.heap q.1)) (fun _ _ => False) s
  rw [keyP_of h1, keyP_of h2]
  obtain ⟨a, o, xs, n, e, ho, _, hd, hi⟩ := h1
  obtain ⟨b, o', ys, n', e', ho', _, hd', hi'⟩ := h2
  rw [e, e']
  refine PySem.W.kat_lt ho hd ho' hd' (lex_strs hi hi' (by simp) ?_)
  rw [← Array.length_toList, ← Array.length_toList, ← hi.len, ← hi'.len]
theorem firsts_P {h : Heap} : ∀ {vs : List Value}, (∀ v ∈ vs, ∃ k, (tupHK (strHK P w)).is h k v ∧ k ≠ []) → ∃ fs, PySem.W.KatTups h vs fs ∧ fs.length = vs.length ∧ ∀ f ∈ fs, ∃ x t, f = Value.str x t
  | [], _ => ⟨[], PySem.W.KatTups.nil, rfl, fun f hf => by cases hf⟩
  | v :: vs, hv => by
    obtain ⟨fs, k1, k2, k3⟩ := firsts_P fun u hu => hv u (List.mem_cons_of_mem _ hu)
    obtain ⟨k, ⟨a, o, xs, n, rfl, ho, hc, hd, hi⟩, hne⟩ := hv v (List.mem_cons_self ..)
    cases k with
    | nil => exact absurd rfl hne
    | cons x k =>
      cases e : xs.toList with
      | nil =>
        rw [e] at hi
        cases hi
      | cons f r =>
        rw [e] at hi
        cases hi with
        | cons hx _ =>
          obtain ⟨t, rfl⟩ := hx
          refine ⟨.str x t :: fs, PySem.W.KatTups.cons ho hc hd (by rw [← Array.getElem?_toList, e]; rfl) k1, by rw [List.length_cons, List.length_cons, k2], fun f hf => ?_⟩
          rcases List.mem_cons.mp hf with rfl | hf
          · exact ⟨_, _, rfl⟩
          · exact k3 f hf
theorem sortable_P {a : Addr} {vs : List Value} (h0 : 0 < vs.length) (hp : ∀ v ∈ vs, ∃ k, (tupHK (strHK P w)).is s.heap k v ∧ k ≠ []) (ha : ∀ o, s.heap.get? a = some o → o.cls ≠ .type "tuple") : SrtO.SortableO P w A s a vs fun v u => ltP (keyP P w s.heap v) (keyP P w s.heap u) := by
  intro h' keep
  have stay : ∀ v ∈ vs, ∀ k, (tupHK (strHK P w)).is s.heap k v → (tupHK (strHK P w)).is h' k v := fun v hm k hk => (tupHK (strHK P w)).keep hk fun b o e c _ => keep b o (fun z => by subst z; exact ha o e c) e
  have hp' : ∀ v ∈ vs, ∃ k, (tupHK (strHK P w)).is h' k v ∧ k ≠ [] := fun v hm => by
    obtain ⟨k, hk, hne⟩ := hp v hm
    exact ⟨k, stay v hm k hk, hne⟩
  obtain ⟨fs, h1, h2, h3⟩ := firsts_P hp'
  refine ⟨tuples' true, fun Q E hq => ?_, ?_⟩
  · refine PySem.W.kat_kind (T := .type "str") h1 (by omega) (fun f hm => ?_) (by rfl) ?_
    · obtain ⟨x, t, rfl⟩ := h3 f hm
      exact PySem.W.Looks.now
    · have e : (Value.type "str" != Value.type "tuple") = true := by first | decide +kernel | rfl | decide
      rw [e]
      exact hq
  · have z := cmp_P (A := A) (s := { s with heap := h' }) (vs := vs) fun v hm => (hp' v hm).imp fun k hk => hk.1
    intro p q hm hm'
    refine wpAny_mono (z p q hm hm') (fun r s' hr => ⟨hr.1, ?_⟩) fun _ _ f => f
    rw [hr.2]
    show ltP (keyP P w h' p.1) (keyP P w h' q.1) = ltP (keyP P w s.heap p.1) (keyP P w s.heap q.1)
    obtain ⟨k1, g1, _⟩ := hp _ hm
    obtain ⟨k2, g2, _⟩ := hp _ hm'
    rw [keyP_of (stay _ hm _ g1), keyP_of (stay _ hm' _ g2), keyP_of g1, keyP_of g2]
end
end G39

namespace G39
open PySem PySem.Spec PyProof.Rows L2
section
variable {P : Program} {w : World} {κ : Type} [DecidableEq κ] {H : HK P w κ} {A : Around} {E : Value → Shared → Prop} {s : Shared}
/-- what is in the set behind i of ks -/
structure GotG (ks : List (Value × κ)) (i : Nat) (L : List (Value × κ)) : Prop where
  sub : ∀ p ∈ L, p ∈ ks.take i
  all : ∀ p ∈ ks.take i, p.2 ∈ L.map (·.2)
  len : L.length ≤ i
theorem GotG.step {ks L L' : List (Value × κ)} {i : Nat} {x : Value × κ} (g : GotG ks i L) (h : ks[i]? = some x) (c1 : x.2 ∈ L.map (·.2) → L' = L) (c2 : x.2 ∉ L.map (·.2) → L'.Perm (x :: L)) : GotG ks (i + 1) L' := by
  have tk : ks.take (i + 1) = ks.take i ++ [x] := by
    rw [List.take_add_one, h]
    rfl
  by_cases c : x.2 ∈ L.map (·.2)
  · rw [c1 c]
    refine ⟨fun p hp => by rw [tk]; exact List.mem_append_left _ (g.sub p hp), fun p hp => ?_, Nat.le_succ_of_le g.len⟩
    rw [tk] at hp
    rcases List.mem_append.mp hp with hp | hp
    · exact g.all p hp
    · rw [List.mem_singleton.mp hp]
      exact c
  · have pm := c2 c
    refine ⟨fun p hp => ?_, fun p hp => ?_, by rw [pm.length_eq, List.length_cons]; exact Nat.succ_le_succ g.len⟩
    · rw [tk]
      rcases List.mem_cons.mp (pm.mem_iff.mp hp) with rfl | hp
      · exact List.mem_append_right _ (List.mem_singleton.mpr rfl)
      · exact List.mem_append_left _ (g.sub p hp)
    · rw [tk] at hp
      refine (pm.map (·.2)).mem_iff.mpr ?_
      rw [List.map_cons]
      rcases List.mem_append.mp hp with hp | hp
      · exact List.mem_cons_of_mem _ (g.all p hp)
      · rw [List.mem_singleton.mp hp]
        exact List.mem_cons_self ..
theorem SetG.keep {h h' : Heap} {a : Addr} {L : List (Value × κ)} {es : Array (Int × Value)} {ep : Nat} {t : SetTable} (R : SetG H h a L es ep t) (ha : ∀ o, h.get? a = some o → h'.get? a = some o) (ht : ∀ p ∈ L, H.is h' p.2 p.1) : SetG H h' a L es ep t := by
  obtain ⟨o, ho, r⟩ := R.ob
  exact { R with ob := ⟨o, ha o ho, r⟩, el := fun p hp => ⟨ht p hp, (R.el p hp).2⟩ }
theorem loopG {I : Addr} {fp wr : List Addr} {G : Array GenState → Array GenState → Prop} {n : Nat} {Pv : Nat → Value → Prop} {St : Nat → Shared → Prop} {R : Result → Shared → Prop}
    (W : WalksS P w A.in1 I fp wr G n Pv St) (S : Addr) (hSf : S ∉ fp) (ks : List (Value × κ)) (hn : n = ks.length) (hfew : ks.length < 77) (hval : ∀ i v, Pv i v → ∃ p, ks[i]? = some p ∧ v = p.1) (h8 : H.dep ≤ 8)
    (h0 : Heap) (hk : ∀ p ∈ ks, H.is h0 p.2 p.1 ∧ IsRef p.1) (hS0 : h0.get? S = none) (hw0 : ∀ b ∈ wr, h0.get? b = none) (hu : A.in1.units + H.dep < cLine) :
    ∀ (k i : Nat) (s : Shared), n - i = k → i ≤ n → St i s → (∀ b o, h0.get? b = some o → s.heap.get? b = some o) → (∃ L es ep t, SetG H s.heap S L es ep t ∧ GotG ks i L) →
      (∀ s' L es ep t, Moved (S :: wr) G s s' → SetG H s'.heap S L es ep t → GotG ks n L → (∀ b o, h0.get? b = some o → s'.heap.get? b = some o) → R (.ok (.ret .none)) s') →
      codeAny (model P w) A (.builtin "set.update.loop" ⟨[.ref S, .ref I], []⟩) R s := by
  have hSw : S ∉ wr := fun h => hSf (W.sub _ h)
  have more : ∀ b ∈ wr, b ∈ S :: wr := fun b hb => List.mem_cons_of_mem _ hb
  have stay : ∀ {s s' : Shared}, Moved wr G s s' → (∀ b o, h0.get? b = some o → s.heap.get? b = some o) → ∀ b o, h0.get? b = some o → s'.heap.get? b = some o := fun hm hkp b o e =>
    hm.heap b o (fun hb => by rw [hw0 b hb] at e; cases e) (hkp b o e)
  have inks : ∀ {i : Nat} {L : List (Value × κ)}, GotG ks i L → ∀ p ∈ L, p ∈ ks := fun g p hp => List.mem_of_mem_take (g.sub p hp)
  intro k
  induction k with
  | zero =>
    intro i s hk' hi hst hkp ⟨L, es, ep, t, hS, g⟩ hR
    obtain rfl : i = n := by omega
    refine codeAny_builtin F.entry_set_update_loop ?_
    rw [Around.under_plainId F.plain_set_update_loop _]
    show wpAny _ A.in1 (pyNext (.ref I) >>= _) _ _ s
    refine wpAny_bind (W.done s _ _ hst fun s' hm => ?_)
    show wpAny _ A.in1 (ret Value.none) _ _ s'
    have kp2 := stay hm hkp
    exact wpAny_pure (hR s' L es ep t (hm.mono more) (hS.keep (fun o e => hm.heap S o hSw e) fun p hp => is_keep (hk p (inks g p hp)).1 kp2) g kp2)
  | succ k ih =>
    intro i s hk' hi hst hkp ⟨L, es, ep, t, hS, g⟩ hR
    have hlt : i < n := by omega
    refine codeAny_builtin F.entry_set_update_loop ?_
    rw [Around.under_plainId F.plain_set_update_loop _]
    show wpAny _ A.in1 (pyNext (.ref I) >>= _) _ _ s
    refine wpAny_bind (W.item i s _ _ hlt hst fun v s' hP hst' hm => ?_)
    obtain ⟨p, hp, rfl⟩ := hval i v hP
    have kp2 := stay hm hkp
    have hS' : SetG H s'.heap S L es ep t := hS.keep (fun o e => hm.heap S o hSw e) fun q hq => is_keep (hk q (inks g q hq)).1 kp2
    have hpk := hk p (List.mem_of_getElem? hp)
    have hx : H.is s'.heap p.2 p.1 := is_keep hpk.1 kp2
    show wpAny _ A.in1 (holding [p.1] (setAdd S p.1) >>= _) _ _ s'
    refine wpAny_bind (wpAny_holding ?_)
    unfold setAdd
    refine wpAny_holding (wpAny_bind (H.pyHash hu hx fun tk htk => ?_))
    refine addG (s := { s' with toks := tk }) hS' h8 hx hpk.2 hu (by have := g.len; omega) fun b h' L' es' ep' t' hsb hS2 c1 c2 => ?_
    have g2 := g.step hp c1 c2
    have kp3 : ∀ b o, h0.get? b = some o → h'.get? b = some o := fun b o e => (hsb.2 b (fun z => by rw [z, hS0] at e; cases e)).trans (kp2 b o e)
    refine wpAny_pure ⟨plainId_quiet F.plain_set_update_loop _, ih (i + 1) _ (by omega) hlt (W.frame _ s' _ _ hst' htk fun b hb o e => ?_) kp3 ⟨L', es', ep', t', hS2, g2⟩ fun s'' L2 es2 ep2 t2 hm'' hS'' g'' kp'' => ?_⟩
    · rw [hsb.2 b (fun h : b = S => hSf (by rw [← h]; exact hb))]
      exact e
    · refine hR s'' L2 es2 ep2 t2 (Moved.trans W.gtrans ((hm.mono more).then_heap htk fun b o hb e => ?_) hm'') hS'' g'' kp''
      rw [hsb.2 b (fun h : b = S => hb (by rw [h]; exact List.mem_cons_self ..))]
      exact e
end

section
variable {P : Program} {w : World} {κ : Type} [DecidableEq κ] {H : HK P w κ} {A : Around} {E : Value → Shared → Prop} {s : Shared}
/-- set(xs), xs a list -/
theorem call_set_list {l : Addr} {items : Array Value} (ks : List (Value × κ)) {Q : Value → Shared → Prop} (hh : A.handled = none) (hl : s.heap.IsList l items) (hit : items.toList = ks.map (·.1)) (h8 : H.dep ≤ 8)
    (hk : ∀ p ∈ ks, H.is s.heap p.2 p.1 ∧ IsRef p.1) (hfew : ks.length < 77) (hu : A.units + (H.dep + 3) < cLine)
    (q : ∀ (h' : Heap) (tk : Nat) L es ep t, SetG H h' s.heap.objs.size L es ep t → GotG ks ks.length L → (∀ b o, s.heap.get? b = some o → h'.get? b = some o) → Q (.ref s.heap.objs.size) { s with heap := h', toks := tk }) :
    wpAny (model P w) A (call (.type "set") [.ref l]) Q E s := by
  have isz : items.size = ks.length := by rw [← Array.length_toList, hit, List.length_map]
  obtain ⟨c, tl, hmro⟩ := F.called_set.mro
  have hmade := F.called_set.made
  have hsub := F.called_set.sub
  refine wpAny_call (codeAny_of_tree ?_)
  show wpAny _ _ (callAny (.type "set") _) _ _ _
  refine wpAny_pure ⟨Code.quiet_builtin _ (by decide +kernel), codeAny_builtin F.entry_type_call ?_⟩
  rw [Around.under_plain (weight_type_call_type "set" [.ref l] []) rfl]
  have h1 := F.called_set.notType
  have h2 := F.called_set.canCreate
  have hct := F.typeCall_set_1 (.ref l)
  repeat (any_goals (first | assumption | wp_step))
  refine codeAny_mono (code_set_led1 (.ref l) (E := E) (Q₁ := fun obj s₁ => obj = .ref s.heap.objs.size ∧ s₁ = { s with heap := s.heap.push { cls := .type "set", dict := none, data := .set #[] 0 (.fresh 0 0 (!w.params.followText "set-order")) } }) ⟨rfl, rfl⟩) fun r s₁ hr => ?_
  cases r with
  | error e => exact hr
  | ok fl =>
    cases fl with
    | ret obj =>
      obtain ⟨rfl, rfl⟩ := hr
      have hsN : (s.heap.push { cls := .type "set", dict := none, data := .set #[] 0 (.fresh 0 0 (!w.params.followText "set-order")) }).get? s.heap.objs.size = some { cls := .type "set", dict := none, data := .set #[] 0 (.fresh 0 0 (!w.params.followText "set-order")) } := Heap.get?_push_size _ rfl
      have hT : Shared.TypeIs { s with heap := s.heap.push { cls := .type "set", dict := none, data := .set #[] 0 (.fresh 0 0 (!w.params.followText "set-order")) } } (.ref s.heap.objs.size) "set" := ⟨_, hsN, rfl⟩
      have hli := F.called_set.init.lookup
      have hbi := F.called_set.init.bind (.ref s.heap.objs.size)
      repeat (any_goals (first | assumption | wp_step))
      refine codeAny_mono (codeAny_call_builtin (R := wants (fun r s₂ => r = .none ∧ ∃ h' tk L es ep t, s₂ = { s with heap := h', toks := tk } ∧ SetG H h' s.heap.objs.size L es ep t ∧ GotG ks ks.length L ∧
          (∀ b o, s.heap.get? b = some o → h'.get? b = some o)) E) F.called_set.init.plain F.entry_set_init (check_set_init_1 hT ?_)) fun r₂ s₂ hr₂ => ?_
      · obtain ⟨ol, hol, hcl, nl, hdl⟩ := hl
        obtain ⟨ocls, odict, odata, oslots⟩ := ol
        simp only at hcl hdl
        subst hcl; subst hdl
        have hol' : (s.heap.push { cls := .type "set", dict := none, data := .set #[] 0 (.fresh 0 0 (!w.params.followText "set-order")) }).get? l = some { cls := .type "list", dict := odict, data := .seq items nl, slots := oslots } := Heap.get?_push_of_some _ hol
        have hs1 := F.sub_list_set
        have hs2 := F.sub_list_frozenset
        have hne : (Value.type "list" == Value.type "dict") = false := by decide
        have hl1 : (s.heap.push { cls := .type "set", dict := none, data := .set #[] 0 (.fresh 0 0 (!w.params.followText "set-order")) }).IsList l items := ⟨_, hol', rfl, nl, rfl⟩
        unfold Builtin.«set.__init__» noKeywords Builtin.Frozenset.updateFrom
        generalize hPI : pyIter = PI
        wp_walk
        subst hPI
        refine wpAny_pyIter_list (s := { s with heap := s.heap.push { cls := .type "set", dict := none, data := .set #[] 0 (.fresh 0 0 (!w.params.followText "set-order")) } }) hl1 ?_; refine wpAny_bind (wpAny_runValue ?_)
        have hlS : l < s.heap.objs.size := Heap.lt_size hol
        have zz1 : (s.heap.push { cls := .type "set", dict := none, data := .set #[] 0 (.fresh 0 0 (!w.params.followText "set-order")) }).objs.size = s.heap.objs.size + 1 := Heap.size_push ..
        have hneI : l ≠ (s.heap.push { cls := .type "set", dict := none, data := .set #[] 0 (.fresh 0 0 (!w.params.followText "set-order")) }).objs.size := by rw [zz1]; exact Nat.ne_of_lt (Nat.lt_succ_of_lt hlS)
        have hSf : s.heap.objs.size ∉ [(s.heap.push { cls := .type "set", dict := none, data := .set #[] 0 (.fresh 0 0 (!w.params.followText "set-order")) }).objs.size, l] := by
          rw [zz1]
          simp only [List.mem_cons, List.mem_singleton, List.not_mem_nil, or_false, not_or]
          exact ⟨Nat.ne_of_lt (Nat.lt_succ_self _), Nat.ne_of_gt hlS⟩
        have hval : ∀ (i : Nat) (v : Value), items[i]? = some v → ∃ p, ks[i]? = some p ∧ v = p.1 := fun i v hv => by
          rw [← Array.getElem?_toList, hit, List.getElem?_map] at hv
          obtain ⟨p, hp, e⟩ := Option.map_eq_some_iff.mp hv
          exact ⟨p, hp, e.symm⟩
        have gone : ∀ b, s.heap.objs.size ≤ b → s.heap.get? b = none := fun b hb => by
          cases q : s.heap.get? b with
          | none => rfl
          | some o => exact absurd (Nat.lt_of_lt_of_le (Heap.lt_size q) hb) (Nat.lt_irrefl _)
        refine loopG (H := H) ((Walks.list (by simp [hh]) _ l hneI items).toS) s.heap.objs.size hSf ks isz hfew hval h8 s.heap hk (gone _ (Nat.le_refl _)) (fun b hb => gone b (by
            rw [List.mem_singleton.mp hb, zz1]
            exact Nat.le_succ _)) (by
            have e1 := in1_units (A := A) (d := H.dep + 2) (by omega)
            have e2 := in1_units (A := A.in1) (d := H.dep + 1) (by omega)
            have e3 := in1_units (A := A.in1.in1) (d := H.dep) (by omega)
            exact e3) (items.size - 0) 0 _ (by omega) (Nat.zero_le _)
          ⟨⟨_, Heap.get?_push_size _ rfl, rfl, rfl⟩, (hl1.push _)⟩ (fun b o e => Heap.get?_push_of_some _ (Heap.get?_push_of_some _ e)) ?hS0 ?hR
        case hS0 => exact ⟨[], #[], 0, _, newG (Heap.get?_push_of_some _ hsN), ⟨fun p hp => (by cases hp), fun p hp => by simp at hp, Nat.le_refl _⟩⟩
        case hR =>
          intro s' L es ep t hm hS' g' hkp
          obtain ⟨h', g2, d', tk', os'⟩ := s'
          have eg : g2 = s.gens := hm.gens
          have ed : d' = s.drawn := hm.drawn
          have eo : os' = s.os := hm.os
          subst eg; subst ed; subst eo
          show wpAny _ _ _ _ _ _
          refine wpAny_pure ?_
          show wpAny _ _ (ret Value.none) _ _ _
          rw [isz] at g'
          exact wpAny_pure ⟨rfl, h', tk', L, es, ep, t, rfl, hS', g', hkp⟩
      · cases r₂ with
        | error e => exact hr₂
        | ok fl₂ =>
          cases fl₂ with
          | ret r =>
            obtain ⟨rfl, h', tk, L, es, ep, t, rfl, hS', g', hk'⟩ := hr₂
            repeat (any_goals (first | assumption | wp_step))
            exact q _ _ _ _ _ _ hS' g' hk'
          | _ => exact hr₂.elim
    | _ => exact hr.elim
end

section
variable {P : Program} {w : World} {κ : Type} [DecidableEq κ] {H : HK P w κ} {A : Around} {E : Value → Shared → Prop} {s : Shared}
/-- set(xs), xs a tuple -/
theorem call_set_tuple {l : Addr} {items : Array Value} (ks : List (Value × κ)) {Q : Value → Shared → Prop} (hh : A.handled = none) (hl : s.heap.IsTuple l items) (hit : items.toList = ks.map (·.1)) (h8 : H.dep ≤ 8)
    (hk : ∀ p ∈ ks, H.is s.heap p.2 p.1 ∧ IsRef p.1) (hfew : ks.length < 77) (hu : A.units + (H.dep + 3) < cLine)
    (q : ∀ (h' : Heap) (tk : Nat) L es ep t, SetG H h' s.heap.objs.size L es ep t → GotG ks ks.length L → (∀ b o, s.heap.get? b = some o → h'.get? b = some o) → Q (.ref s.heap.objs.size) { s with heap := h', toks := tk }) :
    wpAny (model P w) A (call (.type "set") [.ref l]) Q E s := by
  have isz : items.size = ks.length := by rw [← Array.length_toList, hit, List.length_map]
  obtain ⟨c, tl, hmro⟩ := F.called_set.mro
  have hmade := F.called_set.made
  have hsub := F.called_set.sub
  refine wpAny_call (codeAny_of_tree ?_)
  show wpAny _ _ (callAny (.type "set") _) _ _ _
  refine wpAny_pure ⟨Code.quiet_builtin _ (by decide +kernel), codeAny_builtin F.entry_type_call ?_⟩
  rw [Around.under_plain (weight_type_call_type "set" [.ref l] []) rfl]
  have h1 := F.called_set.notType
  have h2 := F.called_set.canCreate
  have hct := F.typeCall_set_1 (.ref l)
  repeat (any_goals (first | assumption | wp_step))
  refine codeAny_mono (code_set_led1 (.ref l) (E := E) (Q₁ := fun obj s₁ => obj = .ref s.heap.objs.size ∧ s₁ = { s with heap := s.heap.push { cls := .type "set", dict := none, data := .set #[] 0 (.fresh 0 0 (!w.params.followText "set-order")) } }) ⟨rfl, rfl⟩) fun r s₁ hr => ?_
  cases r with
  | error e => exact hr
  | ok fl =>
    cases fl with
    | ret obj =>
      obtain ⟨rfl, rfl⟩ := hr
      have hsN : (s.heap.push { cls := .type "set", dict := none, data := .set #[] 0 (.fresh 0 0 (!w.params.followText "set-order")) }).get? s.heap.objs.size = some { cls := .type "set", dict := none, data := .set #[] 0 (.fresh 0 0 (!w.params.followText "set-order")) } := Heap.get?_push_size _ rfl
      have hT : Shared.TypeIs { s with heap := s.heap.push { cls := .type "set", dict := none, data := .set #[] 0 (.fresh 0 0 (!w.params.followText "set-order")) } } (.ref s.heap.objs.size) "set" := ⟨_, hsN, rfl⟩
      have hli := F.called_set.init.lookup
      have hbi := F.called_set.init.bind (.ref s.heap.objs.size)
      repeat (any_goals (first | assumption | wp_step))
      refine codeAny_mono (codeAny_call_builtin (R := wants (fun r s₂ => r = .none ∧ ∃ h' tk L es ep t, s₂ = { s with heap := h', toks := tk } ∧ SetG H h' s.heap.objs.size L es ep t ∧ GotG ks ks.length L ∧
          (∀ b o, s.heap.get? b = some o → h'.get? b = some o)) E) F.called_set.init.plain F.entry_set_init (check_set_init_1 hT ?_)) fun r₂ s₂ hr₂ => ?_
      · obtain ⟨ol, hol, hcl, nl, hdl⟩ := hl
        obtain ⟨ocls, odict, odata, oslots⟩ := ol
        simp only at hcl hdl
        subst hcl; subst hdl
        have hol' : (s.heap.push { cls := .type "set", dict := none, data := .set #[] 0 (.fresh 0 0 (!w.params.followText "set-order")) }).get? l = some { cls := .type "tuple", dict := odict, data := .seq items nl, slots := oslots } := Heap.get?_push_of_some _ hol
        have hs1 := F.sub_tuple_set
        have hs2 := F.sub_tuple_frozenset
        have hne : (Value.type "tuple" == Value.type "dict") = false := by decide
        have hl1 : (s.heap.push { cls := .type "set", dict := none, data := .set #[] 0 (.fresh 0 0 (!w.params.followText "set-order")) }).IsTuple l items := ⟨_, hol', rfl, nl, rfl⟩
        unfold Builtin.«set.__init__» noKeywords Builtin.Frozenset.updateFrom
        generalize hPI : pyIter = PI
        wp_walk
        subst hPI
        refine wpAny_pyIter_tuple (s := { s with heap := s.heap.push { cls := .type "set", dict := none, data := .set #[] 0 (.fresh 0 0 (!w.params.followText "set-order")) } }) hl1 ?_; refine wpAny_bind (wpAny_runValue ?_)
        have hlS : l < s.heap.objs.size := Heap.lt_size hol
        have zz1 : (s.heap.push { cls := .type "set", dict := none, data := .set #[] 0 (.fresh 0 0 (!w.params.followText "set-order")) }).objs.size = s.heap.objs.size + 1 := Heap.size_push ..
        have hneI : l ≠ (s.heap.push { cls := .type "set", dict := none, data := .set #[] 0 (.fresh 0 0 (!w.params.followText "set-order")) }).objs.size := by rw [zz1]; exact Nat.ne_of_lt (Nat.lt_succ_of_lt hlS)
        have hSf : s.heap.objs.size ∉ [(s.heap.push { cls := .type "set", dict := none, data := .set #[] 0 (.fresh 0 0 (!w.params.followText "set-order")) }).objs.size, l] := by
          rw [zz1]
          simp only [List.mem_cons, List.mem_singleton, List.not_mem_nil, or_false, not_or]
          exact ⟨Nat.ne_of_lt (Nat.lt_succ_self _), Nat.ne_of_gt hlS⟩
        have hval : ∀ (i : Nat) (v : Value), items[i]? = some v → ∃ p, ks[i]? = some p ∧ v = p.1 := fun i v hv => by
          rw [← Array.getElem?_toList, hit, List.getElem?_map] at hv
          obtain ⟨p, hp, e⟩ := Option.map_eq_some_iff.mp hv
          exact ⟨p, hp, e.symm⟩
        have gone : ∀ b, s.heap.objs.size ≤ b → s.heap.get? b = none := fun b hb => by
          cases q : s.heap.get? b with
          | none => rfl
          | some o => exact absurd (Nat.lt_of_lt_of_le (Heap.lt_size q) hb) (Nat.lt_irrefl _)
        refine loopG (H := H) ((Walks.tuple (by simp [hh]) _ l hneI items).toS) s.heap.objs.size hSf ks isz hfew hval h8 s.heap hk (gone _ (Nat.le_refl _)) (fun b hb => gone b (by
            rw [List.mem_singleton.mp hb, zz1]
            exact Nat.le_succ _)) (by
            have e1 := in1_units (A := A) (d := H.dep + 2) (by omega)
            have e2 := in1_units (A := A.in1) (d := H.dep + 1) (by omega)
            have e3 := in1_units (A := A.in1.in1) (d := H.dep) (by omega)
            exact e3) (items.size - 0) 0 _ (by omega) (Nat.zero_le _)
          ⟨⟨_, Heap.get?_push_size _ rfl, rfl, rfl⟩, (hl1.push _)⟩ (fun b o e => Heap.get?_push_of_some _ (Heap.get?_push_of_some _ e)) ?hS0 ?hR
        case hS0 => exact ⟨[], #[], 0, _, newG (Heap.get?_push_of_some _ hsN), ⟨fun p hp => (by cases hp), fun p hp => by simp at hp, Nat.le_refl _⟩⟩
        case hR =>
          intro s' L es ep t hm hS' g' hkp
          obtain ⟨h', g2, d', tk', os'⟩ := s'
          have eg : g2 = s.gens := hm.gens
          have ed : d' = s.drawn := hm.drawn
          have eo : os' = s.os := hm.os
          subst eg; subst ed; subst eo
          show wpAny _ _ _ _ _ _
          refine wpAny_pure ?_
          show wpAny _ _ (ret Value.none) _ _ _
          rw [isz] at g'
          exact wpAny_pure ⟨rfl, h', tk', L, es, ep, t, rfl, hS', g', hkp⟩
      · cases r₂ with
        | error e => exact hr₂
        | ok fl₂ =>
          cases fl₂ with
          | ret r =>
            obtain ⟨rfl, h', tk, L, es, ep, t, rfl, hS', g', hk'⟩ := hr₂
            repeat (any_goals (first | assumption | wp_step))
            exact q _ _ _ _ _ _ hS' g' hk'
          | _ => exact hr₂.elim
    | _ => exact hr.elim
end

end G39

/-! sets and lists of tuples of texts, over the layer -/
namespace G39
open PySem PySem.Spec PyProof.Rows L2
abbrev FK (P : Program) (w : World) : HK P w (List Str) := tupHK (strHK P w)
def valP (L : List (Addr × List Str)) : List (Value × List Str) := L.map fun p => (Value.ref p.1, p.2)
/-- the set, but for its elements' own objects -/
def SetP0 (P : Program) (w : World) (h : Heap) (a : Addr) (L : List (Addr × List Str)) : Prop := ∃ es ep t, (∃ o, h.get? a = some o ∧ o.ExactSet ∧ o.data = .set es ep t) ∧ es.toList = rowsG (FK P w) (valP L) ∧ TabOk t ((valP L).map fun p => (FK P w).hash p.2) ∧ ((valP L).map (·.2)).Nodup ∧
  (w.params.followText "set-order" = true ∨ t.led = true) ∧ (valP L).length * 5 < t.mask * 3 ∧ (valP L).length < 77
def SetPO (P : Program) (w : World) (a : Addr) (L : List (Addr × List Str)) : HO := .ext fun h => SetP0 P w h a L
section
variable {P : Program} {w : World}
theorem SetG.p0 {h : Heap} {a : Addr} {L : List (Addr × List Str)} {es : Array (Int × Value)} {ep : Nat} {t : SetTable} (R : SetG (FK P w) h a (valP L) es ep t) : SetP0 P w h a L := ⟨es, ep, t, R.ob, R.rows, R.tab, R.nd, R.led, R.room, R.few⟩
theorem SetP0.full {h : Heap} {a : Addr} {L : List (Addr × List Str)} (R : SetP0 P w h a L) (el : ∀ p ∈ L, (FK P w).is h p.2 (.ref p.1)) : ∃ es ep t, SetG (FK P w) h a (valP L) es ep t := by
  obtain ⟨es, ep, t, r1, r2, r3, r4, r5, r6, r7⟩ := R
  refine ⟨es, ep, t, r1, r2, r3, r4, fun p hp => ?_, r5, r6, r7⟩
  obtain ⟨q, hq, rfl⟩ := List.mem_map.mp hp
  exact ⟨el q hq, q.1, rfl⟩
theorem setPO_new {H : Hp} {h : Heap} {a : Addr} {L : List (Addr × List Str)} (R : SetP0 P w h a L) : ObjOk P w H h a (SetPO P w a L) := by
  refine ⟨R, ?_, fun h1 h2 r k => ?_⟩
  · obtain ⟨_, _, _, ⟨o, ho, _⟩, _⟩ := R
    exact ⟨o, ho⟩
  · obtain ⟨es, ep, t, ⟨o, ho, r1⟩, r2⟩ := r
    exact ⟨es, ep, t, ⟨o, k o ho, r1⟩, r2⟩
/-- the values of a list of refs are of L -/
theorem valP_of : ∀ {M : List (Value × List Str)}, (∀ p ∈ M, IsRef p.1) → ∃ L, M = valP L
  | [], _ => ⟨[], rfl⟩
  | (v, k) :: M, h => by
    obtain ⟨L, rfl⟩ := valP_of fun p hp => h p (List.mem_cons_of_mem _ hp)
    obtain ⟨a, e⟩ := h _ (List.mem_cons_self ..)
    have e : v = .ref a := e
    subst e
    exact ⟨(a, k) :: L, rfl⟩
theorem valP_mem {L : List (Addr × List Str)} {a : Addr} {k : List Str} : (Value.ref a, k) ∈ valP L ↔ (a, k) ∈ L := by
  unfold valP
  rw [List.mem_map]
  constructor
  · rintro ⟨⟨b, k'⟩, h, e⟩
    cases e
    exact h
  · exact fun h => ⟨_, h, rfl⟩
theorem valP_keys (L : List (Addr × List Str)) : (valP L).map (·.2) = L.map (·.2) := by
  unfold valP
  rw [List.map_map]
  rfl
theorem strs_all {h : Heap} : ∀ {l : List Str} {us : List Value}, Vals (l.map V.str) us → All2 ((strHK P w).is h) l us
  | [], _, r => by
    cases r
    exact .nil
  | x :: l, _, r => by
    cases r with
    | cons a b =>
      obtain ⟨t, rfl⟩ := a
      exact .cons ⟨t, rfl⟩ (strs_all b)
end
section
variable {X : Cx} {K : PySem.W.Frag}
theorem inv_is {pins : List (Addr × Obj)} {σ : L2.St} {H : Hp} {s : Shared} {b : Addr} {k : List Str} (I : Inv X pins σ H s) (h : SqT X.K H b (k.map V.str)) : (FK X.prog X.w).is s.heap k (.ref b) := by
  obtain ⟨its, rv, ⟨o, ho, hc, n, hd⟩, _⟩ := I.tuple h
  exact ⟨b, o, _, n, rfl, ho, hc, hd, by rw [List.toList_toArray]; exact strs_all rv⟩
theorem refs_vals : ∀ {ks : List (Addr × List Str)} {us : List Value}, Vals (ks.map fun p => V.ref p.1) us → us = (valP ks).map (·.1)
  | [], _, r => by
    cases r
    rfl
  | p :: ks, _, r => by
    cases r with
    | cons a b =>
      rw [refs_vals b, show _ = Value.ref p.1 from a]
      rfl
def rSetP (K : PySem.W.Frag) (P : Program) (w : World) : List V → Hp → VK → Prop := fun xs H Q => ∃ (l : Addr) (ks : List (Addr × List Str)), xs = [V.ref l] ∧ (SqL K H l (ks.map fun p => V.ref p.1) ∨ SqT K H l (ks.map fun p => V.ref p.1)) ∧ (∀ p ∈ ks, SqT K H p.1 (p.2.map V.str)) ∧ ks.length < 64 ∧
  ∀ a L, H a = none → (∀ p ∈ L, p ∈ ks) → (∀ p ∈ ks, p.2 ∈ L.map (·.2)) → (L.map (·.2)).Nodup → Q (.ref a) (upd H a (SetPO P w a L))
theorem cr_setP (hc : X.calm = true) (hu : X.A.units + 64 < cLine) : CallR X (.type "set") (rSetP X.K X.prog X.w) := by
  intro pins s σ H xs us Q I r h
  obtain ⟨l, ks, rfl, hl, hk, hf, q⟩ := h
  rw [Vals.ref1 r]
  have hn : H s.heap.objs.size = none := I.hok.fresh (Nat.le_refl _)
  have hkV : ∀ p ∈ valP ks, (FK X.prog X.w).is s.heap p.2 p.1 ∧ IsRef p.1 := fun p hp => by
    obtain ⟨z, hz, rfl⟩ := List.mem_map.mp hp
    exact ⟨inv_is I (hk z hz), z.1, rfl⟩
  have len : (valP ks).length < 77 := by
    unfold valP
    rw [List.length_map]
    omega
  have d8 : (FK X.prog X.w).dep ≤ 8 := show 1 ≤ 8 by decide
  have un : X.A.units + ((FK X.prog X.w).dep + 3) < cLine := by
    have e : (FK X.prog X.w).dep = 1 := rfl
    rw [e]
    omega
  have fin : ∀ (h' : Heap) (tk : Nat) M es ep t, SetG (FK X.prog X.w) h' s.heap.objs.size M es ep t → GotG (valP ks) (valP ks).length M → (∀ b o, s.heap.get? b = some o → h'.get? b = some o) → ∃ v H', Inv X pins σ H' { s with heap := h', toks := tk } ∧ RelV v (.ref s.heap.objs.size) ∧ Q v H' := fun h' tk M es ep t R g k => by
    obtain ⟨L, rfl⟩ := valP_of fun p hp => (R.el p hp).2
    refine ⟨.ref s.heap.objs.size, upd H s.heap.objs.size (SetPO X.prog X.w s.heap.objs.size L), I.laid (t' := tk) k (Nat.le_refl _) (setPO_new R.p0), rfl, q _ L hn (fun p hp => ?_) (fun p hp => ?_) ?_⟩
    · exact valP_mem.mp (List.mem_of_mem_take (g.sub _ (valP_mem.mpr hp)))
    · have z := g.all (.ref p.1, p.2) (by rw [List.take_length]; exact valP_mem.mpr hp)
      rw [valP_keys] at z
      exact z
    · have z := R.nd
      rw [valP_keys] at z
      exact z
  rcases hl with hl | hl
  · obtain ⟨its, rv, pl, hz⟩ := I.list hl
    exact call_set_list (H := FK X.prog X.w) (valP ks) (I.ok.hd hc) pl.isList (by simpa using refs_vals rv) d8 hkV len un fin
  · obtain ⟨its, rv, pl, hz⟩ := I.tuple hl
    exact call_set_tuple (H := FK X.prog X.w) (valP ks) (I.ok.hd hc) pl (by simpa using refs_vals rv) d8 hkV len un fin
/-- the rows behind a sort -/
theorem refs_pick {L : List (Addr × List Str)} : ∀ {vs : List Value}, (∀ v ∈ vs, ∃ q ∈ L, v = Value.ref q.1) → ∃ L1 : List (Addr × List Str), vs = L1.map (fun q => Value.ref q.1) ∧ ∀ q ∈ L1, q ∈ L
  | [], _ => ⟨[], rfl, fun q hq => by cases hq⟩
  | v :: vs, hv => by
    obtain ⟨L1, e1, hs⟩ := refs_pick fun u hu => hv u (List.mem_cons_of_mem _ hu)
    obtain ⟨q, hq, e⟩ := hv v (List.mem_cons_self ..)
    refine ⟨q :: L1, by rw [List.map_cons, e, e1], fun r hr => ?_⟩
    rcases List.mem_cons.mp hr with z | z
    · rw [z]
      exact hq
    · exact hs r z
/-- a list of rows sorted by the library's sort -/
theorem sort_rows {P : Program} {w : World} {A : Around} {E : Value → Shared → Prop} {s : Shared} {a : Addr} {n : Nat} {vs : List Value} {L : List (Addr × List Str)} {R : PySem.Fin → Shared → Prop} (ho : s.heap.get? a = some (seqObj "list" vs.toArray n)) (hz : vs.length ≤ 100000)
    (hv : ∀ v ∈ vs, ∃ q ∈ L, v = Value.ref q.1) (el : ∀ p ∈ L, (FK P w).is s.heap p.2 (.ref p.1) ∧ p.2 ≠ [])
    (h : ∀ (out : List Value) (L1 : List (Addr × List Str)), out.Perm vs → out = L1.map (fun q => Value.ref q.1) → (∀ q ∈ L1, q ∈ L) → L1.Pairwise (fun q r => ltP r.2 q.2 = false) → R (.done (.ret .none)) { s with heap := sortedHeap s.heap a vs out.toArray }) :
    wpAny (model P w) A (Builtin.«list.sort» ⟨[.ref a], []⟩) R E s := by
  refine SrtO.list_sort_ord (swo_P (keyP P w s.heap)) ho (Nat.le_trans hz (by rw [sizeLine_eq]; decide)) (fun h2 => sortable_P (by omega) (fun v hm => ?_) fun o e => ?_) fun out hs hb => ?_
  · obtain ⟨q, hq, rfl⟩ := hv v hm
    exact ⟨q.2, el q hq⟩
  · rw [ho] at e
    cases e
    exact fun z => by
      have := Value.type.inj z
      exact absurd this (by decide)
  · obtain ⟨L1, e1, e2⟩ := refs_pick fun v hm => hv v (hb.perm.mem_iff.mp hm)
    refine h out L1 hb.perm e1 e2 ?_
    rw [e1] at hs
    refine List.Pairwise.imp_of_mem (fun {q r} hq hr z => ?_) (List.pairwise_map.mp hs)
    have z : ltP (keyP P w s.heap (.ref r.1)) (keyP P w s.heap (.ref q.1)) = false := z
    rw [keyP_of (el r (e2 r hr)).1, keyP_of (el q (e2 q hq)).1] at z
    exact z
/-- sorted(set) -/
def rSortP (K : PySem.W.Frag) (P : Program) (w : World) : List V → Hp → VK → Prop := fun vs H Q => ∃ (a : Addr) (L : List (Addr × List Str)), vs = [V.ref a] ∧ H a = some (SetPO P w a L) ∧ (∀ p ∈ L, SqT K H p.1 (p.2.map V.str) ∧ p.2 ≠ []) ∧
  ∀ (L' : List (Addr × List Str)) (p : Addr), L'.Perm L → L'.Pairwise (fun q r => ltP r.2 q.2 = false) → H p = none → Q (.ref p) (upd H p (.lst (L'.map fun q => V.ref q.1)))
theorem vals_refs : ∀ (L : List (Addr × List Str)), Vals (L.map fun q => V.ref q.1) (L.map fun q => Value.ref q.1)
  | [] => .nil
  | q :: L => .cons rfl (vals_refs L)
theorem cr_sortP (hc : X.calm = true) : CallR X (.builtin "sorted") (rSortP X.K X.prog X.w) := by
  intro pins s σ H vs us Q I r h
  obtain ⟨a, L, rfl, ha, hk, q⟩ := h
  have R0 : SetP0 X.prog X.w s.heap a L := (I.hok a _ ha).1
  obtain ⟨es, ep, t, R⟩ := R0.full fun p hp => inv_is I (hk p hp).1
  rw [Vals.ref1 r]
  obtain ⟨o, ho, hex, hd⟩ := R.ob
  have hfew : L.length < 77 := by
    have z := R.few
    unfold valP at z
    rw [List.length_map] at z
    exact z
  have hsz : es.size < 77 := by
    rw [R.size]
    exact R.few
  refine Calls.call_function_entry kind_sorted plain_sorted entry_sorted (args_sorted1 _) ?_
  unfold Builtin.«sorted»
  refine wpAny_bind (m := checkCount "sorted" 1 1 _) (wpAny_pure (wpAny_bind (collect_set (A := X.A.in1) (I.ok.hd hc) ⟨o, ho, hex.1, hd⟩ R.fits (by unfold scanBound; omega) R.tab.ris R.led fun s1 vs k1 hz g1 o1 pm => ?_)))
  have hes : es.toList.map (·.2) = L.map fun q => Value.ref q.1 := by
    rw [R.rows]
    unfold rowsG valP
    rw [List.map_map, List.map_map]
    rfl
  rw [hes] at pm
  have hvl : vs.length < 77 := by
    rw [pm.length_eq, List.length_map]
    exact hfew
  refine wpAny_bind (wpAny_newList ?_ (by rw [sizeLine_eq]; omega))
  have hoL : (s1.heap.push (seqObj "list" vs.toArray 0)).get? s1.heap.objs.size = some (seqObj "list" vs.toArray 0) := Heap.get?_push_size _ rfl
  have el : ∀ p ∈ L, (FK X.prog X.w).is (s1.heap.push (seqObj "list" vs.toArray 0)) p.2 (.ref p.1) ∧ p.2 ≠ [] := fun p hp => ⟨is_keep (inv_is I (hk p hp).1) fun b u e => Heap.get?_push_of_some _ (k1 b u e), (hk p hp).2⟩
  refine wpAny_bind (wpAny_holding (wpAny_call_entry slot_list_sort ⟨_, hoL, rfl⟩ entry_list_sort (sort_rows (s := { s1 with heap := s1.heap.push (seqObj "list" vs.toArray 0) }) (L := L) hoL (by omega) (fun v hv => ?_) el fun out L1 po e1 e2 pw => ⟨_, rfl, ?_⟩) (args_list_sort _)))
  · obtain ⟨z, hz, e⟩ := List.mem_map.mp (pm.mem_iff.mp hv)
    exact ⟨z, hz, e.symm⟩
  obtain ⟨c, hcc⟩ := sortedHeap_at (vs := vs) (out := out.toArray) hoL
  -- an address has one key
  have nref : (L.map fun q => Value.ref q.1).Nodup := by
    have nL : L.Nodup := by
      have z := R.nd
      rw [valP_keys] at z
      exact List.Pairwise.of_map (·.2) (fun _ _ hne e => hne (congrArg _ e)) z
    refine List.pairwise_map.mpr (List.Pairwise.imp_of_mem (fun {q r} hq hr hne e => ?_) nL)
    injection e with e
    have a1 := (el q hq).1
    have a2 := (el r hr).1
    rw [e] at a1
    exact hne (Prod.ext e ((FK X.prog X.w).inj a1 a2))
  have pL : L1.Perm L := by
    have p1 : (L1.map fun q => Value.ref q.1).Perm (L.map fun q => Value.ref q.1) := by
      rw [← e1]
      exact po.trans pm
    have n1 : L1.Nodup := List.Pairwise.of_map (fun q : Addr × List Str => Value.ref q.1) (fun _ _ hne e => hne (by rw [e])) (p1.nodup_iff.mpr nref)
    have nL : L.Nodup := List.Pairwise.of_map (fun q : Addr × List Str => Value.ref q.1) (fun _ _ hne e => hne (by rw [e])) nref
    refine (List.perm_ext_iff_of_nodup n1 nL).mpr fun q => ⟨e2 q, fun hq => ?_⟩
    obtain ⟨r, hr, e⟩ := List.mem_map.mp (p1.mem_iff.mpr (List.mem_map.mpr ⟨q, hq, rfl⟩))
    injection e with e
    have a1 := (el q hq).1
    have a2 := (el r (e2 r hr)).1
    rw [e] at a2
    rw [show q = r from Prod.ext e.symm ((FK X.prog X.w).inj a1 a2)]
    exact hr
  have hn : H s1.heap.objs.size = none := I.hok.fresh hz
  have hlen : (L1.map fun q => V.ref q.1).length ≤ sizeLine := by
    rw [List.length_map, pL.length_eq, sizeLine_eq]
    omega
  have kk : ∀ b u, s.heap.get? b = some u → (sortedHeap (s1.heap.push (seqObj "list" vs.toArray 0)) s1.heap.objs.size vs out.toArray).get? b = some u := fun b u e => by
    have z := k1 b u e
    have hlt := Heap.lt_size z
    rw [sortedHeap_old (Nat.ne_of_lt hlt) (by rw [size_push']; exact Nat.lt_succ_of_lt hlt)]
    exact Heap.get?_push_of_some _ z
  have J : Inv X pins σ (upd H s1.heap.objs.size (.lst (L1.map fun q => V.ref q.1))) { s with heap := sortedHeap (s1.heap.push (seqObj "list" vs.toArray 0)) s1.heap.objs.size vs out.toArray, gens := s1.gens, drawn := s1.drawn, toks := s1.toks } :=
    I.call (ch := []) (Un.laid kk hz hn) (I.hok.laid kk hz ⟨hlen, out, c, by rw [e1]; exact vals_refs L1, hcc⟩) (by rw [g1]; exact I.bare) (fun _ z => nomatch z)
  refine wpAny_pure ⟨_, rfl, ?_⟩
  have e : ({ s1 with heap := sortedHeap (s1.heap.push (seqObj "list" vs.toArray 0)) s1.heap.objs.size vs out.toArray } : Shared) = { s with heap := sortedHeap (s1.heap.push (seqObj "list" vs.toArray 0)) s1.heap.objs.size vs out.toArray, gens := s1.gens, drawn := s1.drawn, toks := s1.toks } := by
    cases s1
    cases s
    cases o1
    rfl
  show EP X pins σ Q _ ({ s1 with heap := sortedHeap (s1.heap.push (seqObj "list" vs.toArray 0)) s1.heap.objs.size vs out.toArray } : Shared)
  rw [e]
  exact ⟨.ref s1.heap.objs.size, _, J, rfl, q L1 _ pL pw hn⟩
/-- sorted(list) -/
def rSortLP (K : PySem.W.Frag) : List V → Hp → VK → Prop := fun vs H Q => ∃ (a : Addr) (L : List (Addr × List Str)), vs = [V.ref a] ∧ SqL K H a (L.map fun q => V.ref q.1) ∧ L.length ≤ 100000 ∧ (∀ p ∈ L, SqT K H p.1 (p.2.map V.str) ∧ p.2 ≠ []) ∧
  ∀ (L' : List (Addr × List Str)) (p : Addr), (L'.map (·.2)).Perm (L.map (·.2)) → (∀ q ∈ L', q ∈ L) → L'.Pairwise (fun q r => ltP r.2 q.2 = false) → H p = none → Q (.ref p) (upd H p (.lst (L'.map fun q => V.ref q.1)))
end
end G39

/-! a dict comprehension over any walk, for any description of the growing dict -/
namespace G39
open PySem PySem.Spec PyProof.Rows L2
/-- how a growing dict is described: what stands at D at first, and what it takes to put a key and a value in -/
structure DBag (X : Cx) (zero : Addr → HO) (put : V → V → Hp → Addr → (Hp → Prop) → Prop) : Prop where
  new : ∀ (h : Heap) (H : Hp), sysModules < h.objs.size → ObjOk X.prog X.w H (h.push { cls := .type "dict", data := .dict #[] }) h.objs.size (zero h.objs.size)
  put : ∀ (Y : Cx), Y.prog = X.prog → Y.w = X.w → Y.A = X.A → Y.K = X.K → ∀ (pins : List (Addr × Obj)) (s : Shared) (σ : L2.St) (H : Hp) (D : Addr) (y z : V) (u r : Value) (Nx : Hp → Prop) (Q : Unit → Shared → Prop) (E : Value → Shared → Prop),
    Inv Y pins σ H s → RelV y u → RelV z r → put y z H D Nx → (∀ s' H', Inv Y pins σ H' s' → Nx H' → Q () s') → wpAny (model Y.prog Y.w) Y.A (dictSet D u r) Q E s
/-- {k: v for target in iter if ..}: D the new dict -/
def tDg (zero : Addr → HO) (put : V → V → Hp → Addr → (Hp → Prop) → Prop) (wi : TI) (g : TG) (tt : TT) (tk tv : TE) (vs : List Nat) : TE := fun σ H Q => wi σ H fun J H1 => ∀ D, H1 D = none →
  ∃ W : Nat → Nat → Hp → Prop, (∃ m, W 0 m (upd H1 D (zero D))) ∧ ∀ i m H, W i m H →
  (J.stop i H ∧ Q (.ref D) H) ∨ (J.go i H ∧ ∃ Nx : Hp → Prop, (∀ H', Nx H' → ∃ m', m' < m ∧ W (i + 1) m' H') ∧ ∀ x H', J.yld i H x H' → g x (wipe σ vs) H' fun σ2 H2 => wipe σ2 vs = wipe σ vs ∧ tt σ2 H2 fun b H3 =>
    if b = true then tk σ2 H3 fun y H4 => tv σ2 H4 fun z H5 => put y z H5 D Nx else Nx H3)
section
variable {X : Cx} {zero : Addr → HO} {put : V → V → Hp → Addr → (Hp → Prop) → Prop} {kx vx tg iter : Expr} {ifs : List Expr} {scope : Scope} {own : List (PySem.Str × Nat)} {pos : Pos} {wi : TI} {g : TG} {tt : TT} {tk tv : TE}
theorem pe_dg (B : DBag X zero put) (hc : X.calm = true) (hN : X.N.Nodup) (hi : PI X tg iter wi) (ok : BlkOk X.N X.env.scope scope own)
    (hg : ∀ (s : Shared) (H : Hp) (C : Addr) (cl : List (PySem.Str × Addr)) (fp : List Addr), PG (X.blk s H scope (compEnvC scope cl C X.env) fp) tg g)
    (ht : ∀ (s : Shared) (H : Hp) (C : Addr) (cl : List (PySem.Str × Addr)) (fp : List Addr), PTs (X.blk s H scope (compEnvC scope cl C X.env) fp) ifs tt)
    (hk : ∀ (s : Shared) (H : Hp) (C : Addr) (cl : List (PySem.Str × Addr)) (fp : List Addr), PE (X.blk s H scope (compEnvC scope cl C X.env) fp) kx tk)
    (he : ∀ (s : Shared) (H : Hp) (C : Addr) (cl : List (PySem.Str × Addr)) (fp : List Addr), PE (X.blk s H scope (compEnvC scope cl C X.env) fp) vx tv)
    (hs : ∀ x, foldedSetIterable iter X.env x = pure x := by intro _; rfl) :
    PE X (.DictComp kx vx [⟨tg, iter, ifs, 0⟩] scope pos) (tDg zero put wi g tt tk tv (own.map (·.2))) := by
  refine ⟨fun pins s σ H Q I h => ?_⟩
  rw [arm_eval_DictComp]
  refine wpAny_comprehension_free rfl hs (closure_ok fun y hy e => ?_) ok.kind (fun y hy e => by rw [ok.uniq y hy, e]) (thn (hi.run pins s σ H _ I h) fun xv s1 hx => thn hx fun itv s2 h2 => ?_)
  · rcases ok.free y hy e with k | k
    · exact I.ok.has _ (.inl k)
    · exact I.ok.has _ (.inr k)
  obtain ⟨it, fp, tn, J, H2, rfl, I2, T, st2, f2, q⟩ := h2
  refine wpAny_newObj_type (newEnv_comp ?_)
  have hDn : H2 s2.heap.objs.size = none := I2.hok.fresh (Nat.le_refl _)
  obtain ⟨W, ⟨m0, w0⟩, turn⟩ := q s2.heap.objs.size hDn
  have J3 : Inv X pins σ (upd H2 s2.heap.objs.size (zero s2.heap.objs.size)) { s2 with heap := s2.heap.push { cls := .type "dict", data := .dict #[] } } :=
    I2.laid (t' := s2.toks) (fun b o e => Heap.get?_push_of_some _ e) (Nat.le_refl _) (B.new _ _ I2.big)
  generalize hs3 : ({ s2 with heap := s2.heap.push { cls := .type "dict", data := .dict #[] } } : Shared) = s3 at J3
  have h3 : s3.heap = s2.heap.push { cls := .type "dict", data := .dict #[] } := by rw [← hs3]
  have low : ∀ b ∈ fp, b < s2.heap.objs.size := fun b hb => by
    obtain ⟨o, e, _⟩ := T.obj _ _ st2 b hb
    exact Heap.lt_size e
  have f3 : ∀ b ∈ fp, FpOk X pins (upd H2 s2.heap.objs.size (zero s2.heap.objs.size)) b ∧ b < s3.heap.objs.size := fun b hb => by
    have hlt := low b hb
    refine ⟨⟨?_, (f2 b hb).2⟩, by rw [h3, Heap.size_push]; exact Nat.lt_succ_of_lt hlt⟩
    rw [upd_ne (Nat.ne_of_lt hlt)]
    exact (f2 b hb).1
  have st3 : tn 0 s3.heap := T.keep _ _ _ st2 fun b _ o e => by
    rw [h3]
    exact Heap.get?_push_of_some _ e
  generalize s2.heap.objs.size = D at hDn w0 J3 f3 turn ⊢
  generalize hH3 : upd H2 D (zero D) = H3 at J3 f3 w0
  have I4 := block_start J3 ok hN f3
  have pg := hg s3 H3 s3.heap.objs.size (cellsFrom (s3.heap.objs.size + 1) scope.names (cloFrom X.env.cells scope.names [])) fp
  have pt := ht s3 H3 s3.heap.objs.size (cellsFrom (s3.heap.objs.size + 1) scope.names (cloFrom X.env.cells scope.names [])) fp
  have pk := hk s3 H3 s3.heap.objs.size (cellsFrom (s3.heap.objs.size + 1) scope.names (cloFrom X.env.cells scope.names [])) fp
  have pe := he s3 H3 s3.heap.objs.size (cellsFrom (s3.heap.objs.size + 1) scope.names (cloFrom X.env.cells scope.names [])) fp
  have nfp : ∀ b ∈ fp, H3 b = none := fun b hb => (f3 b hb).1.1
  show codeAny _ _ (.compStart (.DictComp kx vx [⟨tg, iter, ifs, 0⟩] scope pos) 0 (.ref it) (.ref D) (compEnvC scope (cellsFrom (s3.heap.objs.size + 1) scope.names (cloFrom X.env.cells scope.names [])) s3.heap.objs.size X.env)) _ { s3 with heap := pushCells (s3.heap.push { cls := .type "dict", data := .dict #[] }) scope.names }
  generalize hce : compEnvC scope (cellsFrom (s3.heap.objs.size + 1) scope.names (cloFrom X.env.cells scope.names [])) s3.heap.objs.size X.env = ce at I4 pg pt pk pe ⊢
  have cL : ce.locals = s3.heap.objs.size := by
    subst hce
    rfl
  generalize hs4 : ({ s3 with heap := pushCells (s3.heap.push { cls := .type "dict", data := .dict #[] }) scope.names } : Shared) = s4 at I4 ⊢
  have st4 : tn 0 s4.heap := T.keep _ _ _ st3 fun b _ o e => by
    rw [← hs4]
    exact pushCells_keeps _ _ _ _ (Heap.get?_push_of_some _ e)
  have stat : ∀ {σ' : L2.St} {H' : Hp} {s' : Shared}, Inv (X.blk s3 H3 scope ce fp) [] σ' H' s' → (∀ b ∈ fp, H' b = none) → ∀ b ∈ fp, FpOk (X.blk s3 H3 scope ce fp) [] H' b := fun {σ' H' s'} I' hn b hb =>
    ⟨hn b hb, (I'.ok.exf b hb).1, I'.ok.exfs b hb, .inl hb, fun x c e => (I'.ok.exf b hb).2 x c e, fun p hp => absurd (show p ∈ ([] : List (Addr × Obj)) ++ [] from hp) (by simp)⟩
  have loop : codeAny (model X.prog X.w) X.A (.compLoop (.DictComp kx vx [⟨tg, iter, ifs, 0⟩] scope pos) 0 (.ref it) (.ref D) ce) (compPost (model X.prog X.w) X.A X.xe none (EP X pins σ Q) (.ref D) s3.heap.objs.size) s4 := by
    refine compLoop_anyD (fun n s' => ∃ i H', Inv (X.blk s3 H3 scope ce fp) [] (wipe σ (own.map (·.2))) H' s' ∧ tn i s'.heap ∧ (∀ b ∈ fp, H' b = none) ∧ W i n H') ?_ m0 ⟨0, H3, I4, st4, nfp, w0⟩
    rintro n s5 ⟨i, H5, I5, st5, n5, w5⟩
    rcases turn i n H5 w5 with ⟨stop, qq⟩ | ⟨go, Nx, hNx, step⟩
    · refine thnF (T.done (X.blk s3 H3 scope ce fp) rfl rfl rfl hc i [] s5 _ H5 (fun _ _ => False) I5 (stat I5 n5) st5 stop) fun r s6 ⟨hr, I6⟩ => ?_
      subst hr
      have I7 : Inv X pins σ H5 s6 := J3.call' (ch := fp) I6.os I6.base I6.hok I6.bare fun b hb => ⟨(f3 b hb).1.2.2.2.1, (f3 b hb).1.2.1, (f3 b hb).1.2.2.2.2.1, (f3 b hb).1.2.2.2.2.2⟩
      have nC : H5 s3.heap.objs.size = none := by
        have z : H5 ce.locals = none := I6.free
        rwa [cL] at z
      obtain ⟨m, hn, _⟩ := I6.loc
      have hn : s6.heap.Ns ce.locals m := hn
      rw [cL] at hn
      obtain ⟨g0, g1, g2, g3, g4, g5⟩ := J3.fpOk (Nat.le_refl _) nC
      exact ⟨m, hn, fun h'' sb => ⟨.ref D, H5, I7.turned (t' := s6.toks) (fun b o hb e => (sb.2 b hb).trans e) g0 g1 g3 g4 g5, rfl, qq⟩⟩
    · refine thnF (T.item (X.blk s3 H3 scope ce fp) rfl rfl rfl hc i [] s5 _ H5 (fun _ _ => False) I5 (stat I5 n5) st5 go) fun r s6 ⟨u, hr, h6⟩ => ?_
      subst hr
      refine thnF h6 fun _ s7 ⟨x, H7, I7, r7, y7, st7, n7⟩ => ?_
      have I7' := I7.pinned (stat I7 n7) (T.obj _ _ st7)
      refine thnF (pg.run _ s7 _ H7 x u _ I7' r7 (step x H7 y7)) fun _ s8 ⟨σ8, H8, I8, hw8, q8⟩ => ?_
      refine thnF (pt.run _ s8 σ8 H8 _ I8 q8) fun b s9 ⟨H9, I9, q9⟩ => ?_
      have fin : ∀ {s' : Shared} {H' : Hp}, Inv (X.blk s3 H3 scope ce fp) ([] ++ pinsAt fp s7.heap) σ8 H' s' → Nx H' →
          ∃ m, m < n ∧ ∃ i H', Inv (X.blk s3 H3 scope ce fp) [] (wipe σ (own.map (·.2))) H' s' ∧ tn i s'.heap ∧ (∀ b ∈ fp, H' b = none) ∧ W i m H' := fun {s' H'} I' nx => by
        obtain ⟨m', hm, w'⟩ := hNx H' nx
        have pin' : ∀ b ∈ fp, ∀ o, s7.heap.get? b = some o → s'.heap.get? b = some o ∧ H' b = none := fun b hb o e =>
          let z := I'.pin (b, o) (List.mem_append_right _ (List.mem_append_right _ (mem_pinsAt hb e)))
          ⟨z.1, z.2.1⟩
        have hl : (wipe σ (own.map (·.2))).length = σ8.length := by rw [← hw8, wipe_length]
        refine ⟨m', hm, i + 1, H', (I'.unpinned (pins := [])).weak hl (fun j v e => ?_), T.keep _ _ _ st7 fun b hb o e => (pin' b hb o e).1, fun b hb => ?_, w'⟩
        · rw [← hw8] at e
          exact (wipe_some e).1
        · obtain ⟨o, e, _⟩ := T.obj _ _ st7 b hb
          exact (pin' b hb o e).2
      cases b with
      | false =>
        simp only [Bool.false_eq_true, if_false] at q9 ⊢
        exact fin I9 q9
      | true =>
        simp only [if_true] at q9 ⊢
        refine thnF (pk.run _ s9 σ8 H9 _ I9 q9) fun z s10 ⟨yk, H10, I10, r10, q10⟩ => ?_
        refine thnF (pe.run _ s10 σ8 H10 _ I10 q10) fun z2 s11 ⟨yv, H11, I11, r11, ad⟩ => ?_
        exact B.put (X.blk s3 H3 scope ce fp) rfl rfl rfl rfl _ s11 σ8 H11 D yk yv z z2 Nx _ _ I11 r10 r11 ad fun s12 H12 I12 nx => fin I12 nx
  exact codeAny_compStart_dict loop (T.self X.A 0 _ _ _ st4 loop)
end
end G39

/-! a dict from tuples of texts to True -/
namespace G39
open PySem PySem.Spec PyProof.Rows L2
abbrev KP (P : Program) (w : World) := tupleKind (strKind P w)
def knL (L : List (Addr × List Str)) : List (List Str × Addr × Value) := L.map fun p => (p.2, p.1, Value.bool true)
/-- the dict, but for its keys' own objects -/
def Kn0 (P : Program) (w : World) (h : Heap) (a : Addr) (L : List (Addr × List Str)) : Prop := (a == sysModules) = false ∧ L.length ≤ 1000 ∧ (L.map Prod.snd).Nodup ∧
  ∃ o es ep, h.get? a = some o ∧ o.ExactDict ∧ o.data = .dict es ep ∧ es.toList = (knL L).map (entryOfKey (KP P w))
def KnO (P : Program) (w : World) (a : Addr) (L : List (Addr × List Str)) : HO := .ext fun h => Kn0 P w h a L
section
variable {P : Program} {w : World} {H : Hp} {h : Heap} {a : Addr} {L : List (Addr × List Str)}
theorem knL_keys (L : List (Addr × List Str)) : (knL L).map (·.1) = L.map Prod.snd := by
  unfold knL
  rw [List.map_map]
  rfl
theorem Kn0.full (R : Kn0 P w h a L) (el : ∀ p ∈ L, (KP P w).is h p.2 p.1) : h.DictOfH (KP P w) a (knL L) := by
  obtain ⟨_, _, nd, o, es, ep, h1, h2, h3, h4⟩ := R
  refine ⟨o, es, ep, h1, h2, h3, h4, fun x hx => ?_, by rw [knL_keys]; exact nd⟩
  obtain ⟨p, hp, rfl⟩ := List.mem_map.mp hx
  exact el p hp
theorem knO_ok (R : Kn0 P w h a L) : ObjOk P w H h a (KnO P w a L) := by
  refine ⟨R, ?_, fun h1 h2 r k => ?_⟩
  · obtain ⟨_, _, _, o, _, _, ho, _⟩ := R
    exact ⟨o, ho⟩
  · obtain ⟨r1, r2, r3, o, es, ep, ho, r4⟩ := r
    exact ⟨r1, r2, r3, o, es, ep, k o ho, r4⟩
theorem strs_items {P : Program} {w : World} : ∀ {l : List Str} {us : List Value}, Vals (l.map V.str) us → ItemsAre (strKind P w) l us
  | [], _, h => by cases h; exact .nil
  | x :: l, _, h => by
    cases h with
    | cons r t =>
      obtain ⟨tk, rfl⟩ := r
      exact .cons (strKind_is P w x tk) (strs_items t)
end
section
variable {X : Cx}
theorem inv_key {pins : List (Addr × Obj)} {σ : L2.St} {H : Hp} {s : Shared} {b : Addr} {k : List Str} (I : Inv X pins σ H s) (h : SqT X.K H b (k.map V.str)) : (KP X.prog X.w).is s.heap k b := by
  obtain ⟨its, rv, ⟨o, ho, hc, n, hd⟩, _⟩ := I.tuple h
  exact ⟨o, _, n, ho, hc, hd, by rw [List.toList_toArray]; exact strs_items rv⟩
def putKn (K : PySem.W.Frag) (P : Program) (w : World) : V → V → Hp → Addr → (Hp → Prop) → Prop := fun y z H D Nx => ∃ (b : Addr) (k : List Str) (L : List (Addr × List Str)), y = .ref b ∧ z = .bl true ∧ SqT K H b (k.map V.str) ∧ (∀ p ∈ L, SqT K H p.1 (p.2.map V.str)) ∧
  H D = some (KnO P w D L) ∧ L.length < 1000 ∧ k ∉ L.map Prod.snd ∧ Nx (upd H D (KnO P w D (L ++ [(b, k)])))
theorem atKey_none : ∀ {L : List (Addr × List Str)} {k : List Str}, k ∉ L.map Prod.snd → atKey (knL L) k = none
  | [], k, _ => by first | rfl | simp [knL, atKey]
  | p :: L, k, h => by
    have h1 : p.2 ≠ k := fun e => h (by rw [← e]; simp)
    have h2 := atKey_none (L := L) (k := k) fun z => h (by simp only [List.map_cons]; exact List.mem_cons_of_mem _ z)
    simp only [atKey, knL, List.map_cons] at h2 ⊢
    simp [List.find?_cons, h1] at h2 ⊢
    exact h2
theorem bagKn (hu : X.A.units < cLine) : DBag X (fun D => KnO X.prog X.w D []) (putKn X.K X.prog X.w) := by
  refine ⟨fun h H hb => knO_ok ⟨beq_eq_false_iff_ne.mpr (Ne.symm (Nat.ne_of_lt hb)), Nat.zero_le _, List.nodup_nil, _, #[], 0, Heap.get?_push_size _ rfl, ⟨rfl, rfl, rfl⟩, rfl, rfl⟩, ?_⟩
  intro Y e1 e2 e3 e4 pins s σ H D y z u r Nx Q E I ry rz ad hq
  obtain ⟨b, k, L, rfl, rfl, hb, hL, hD, hl, hk, nx⟩ := ad
  obtain rfl : u = Value.ref b := ry
  obtain rfl : r = Value.bool true := rz
  rw [← e4] at hb hL
  rw [← e1, ← e2] at hD nx
  have R : Kn0 Y.prog Y.w s.heap D L := (I.hok D _ hD).1
  have dd := R.full fun p hp => inv_key I (hL p hp)
  have hz : (knL L).length ≤ sizeLine := by
    unfold knL
    rw [List.length_map, sizeLine_eq]
    omega
  refine wpAny_dictSet_heap (knd := KP Y.prog Y.w) (hsz := hz) (by rw [e3]; exact hu) (inv_key I hb) dd fun h' dd' hs => hq _ _ ?_ nx
  rw [storedH_new (atKey_none hk)] at dd'
  have el : knL L ++ [(k, b, Value.bool true)] = knL (L ++ [(b, k)]) := by simp [knL]
  rw [el] at dd'
  obtain ⟨q, es, ep, hq1, h2, h3, h4, _, h5⟩ := dd'
  refine d_write I (by rw [hD]; trivial) hs ⟨q, hq1⟩ (knO_ok ⟨R.1, by simp; omega, by rw [← knL_keys]; exact h5, q, es, ep, hq1, h2, h3, h4⟩)
end
end G39

/-! x != y by an own __eq__ -/
namespace G39
open PySem PySem.Calls PySem.Spec PyProof.Rows L2
section
variable {M : Model} {prog : Program} {w : World} {A : Around} {E : Value → Shared → Prop} {s : Shared} {K : PySem.W.Frag} {x C L f : Addr} {h₀ : Heap} {m : Str → Option Value} {ox : Obj} {od : Option Obj} {name : Str} {b tb : Value}
theorem ifBound_B {id : String} {args : List Value} {Q : Option Value → Shared → Prop} (X : K.In s.heap) (I : PySem.W.InstAt s.heap x ox C od) (hs : PySem.W.findIn K (.ref C) name = some (some (.builtin id))) (hbd : ∀ self, bindSpecial (.builtin id) self = pure (.builtin id, [self]))
    (h : wpAny M A (call (.builtin id) (.ref x :: args)) (fun v => Q (some v)) E s) : wpAny M A (callSpecialIfBound? (.ref x) name args) Q E s := by
  simp only [callSpecialIfBound?, bindSpecialIfBound?]
  refine wpAny_holding (wpAny_bind (wpAny_bind (wpAny_bind (I.type.here ((PySem.W.looks_findIn X hs).here ?_)))))
  refine wpAny_bind (wpAny_askSetting (wpAny_ite ?_))
  have fin : wpAny M A (call (.builtin id) ([.ref x] ++ args) >>= fun v => pure (some v)) Q E s := wpAny_bind (wpAny_mono h (fun v s' h' => wpAny_pure h') fun _ _ h' => h')
  rw [hbd]
  split
  · exact wpAny_bind (wpAny_pure (wpAny_pure fin))
  · exact wpAny_tryCatch (wpAny_bind (wpAny_pure (wpAny_pure fin)))
theorem objNe_own {Q : Fin → Shared → Prop} (hu : A.units < cLine) (X : K.In s.heap) (I : PySem.W.InstAt s.heap x ox C od) (hs : PySem.W.findIn K (.ref C) "__eq__" = some (some (.ref f))) (hf : PySem.W.isFn K (.ref f) = true)
    (h : wpAny (model prog w) A (call (.ref f) [.ref x, b]) (fun v s' => ∃ r, v = .bool r ∧ Q (.done (.ret (.bool (!r)))) s') E s) :
    wpAny (model prog w) A (Builtin.«object.__ne__» ⟨[.ref x, b], []⟩) Q E s := by
  unfold Builtin.«object.__ne__»
  repeat (first
    | with_reducible refine wpAny_cRoomFor hu ?_
    | (refine wpAny_bind (m := callSpecialIfBound? (.ref x) (Str.ofString "__eq__") [b])
        (PySem.W.ifBound_K X I hs hf (wpAny_mono h (fun r s' hr => by
          obtain ⟨b, rfl, hq⟩ := hr
          repeat (first | exact hq | exact wpAny_pure hq | exact wpAny_truthy_bool hq | (refine wpAny_bind (m := truthy (.bool _)) (wpAny_truthy_bool ?_)) | wp_step)) fun _ _ e => e)))
    | wp_step)
theorem ne_bind (self : Value) : bindSpecial (.builtin "object.__ne__") self = pure (.builtin "object.__ne__", [self]) := PySem.F.slot_object_ne.bind self
theorem ne_K {Q : Value → Shared → Prop} (hu : A.units + 1 < cLine) (F : Fr h₀ L s.heap m) (X₀ : K.In h₀) (I : PySem.W.InstAt s.heap x ox C od) (hb : PySem.W.Looks (model prog w) s.heap (typeOf b) tb) (hn : PySem.W.notFirst K C tb = true)
    (hs : PySem.W.findIn K (.ref C) "__eq__" = some (some (.ref f))) (hf : PySem.W.isFn K (.ref f) = true) (hne : PySem.W.findIn K (.ref C) "__ne__" = some (some (.builtin "object.__ne__"))) (hm : PySem.W.mroIn K C (.type "object") = some true)
    (h : wpAny (model prog w) A.in1 (call (.ref f) [.ref x, b]) (fun v s' => ∃ r, v = .bool r ∧ Q (.bool (!r)) s') E s) : wpAny (model prog w) A (richCompare .NotEq (.ref x) b) Q E s := by
  have X := X₀.keeps F.keep
  have one : wpAny (model prog w) A (tryCompare (.ref x) (cmpInfo .NotEq).2.1 b) (fun r s' => ∃ v, r = some v ∧ Q v s') E s := by
    unfold tryCompare
    refine wpAny_bind (ifBound_B (name := "__ne__") X I hne ne_bind (wpAny_call (codeAny_call_builtin PySem.F.slot_object_ne.plain PySem.F.entry_object_ne ?_)))
    refine PySem.W.check_slot PySem.F.cmpKind_ne PySem.F.cmpSplit_ne (I.type.andThen (PySem.W.looks_subIn X hm)) (PySem.F.args_object_ne_2 _ _) ?_
    refine objNe_own (A := A.in1) hu X I hs hf (wpAny_mono h (fun v s' hv => ?_) fun _ _ e => e)
    obtain ⟨r, rfl, hq⟩ := hv
    exact ⟨r, rfl, wpAny_pure ⟨_, rfl, hq⟩⟩
  unfold richCompare
  simp only [oneThing_ref]
  refine wpAny_holding (wpAny_bind (wpAny_cRoomFor (Nat.lt_of_succ_lt hu) ?_))
  refine wpAny_bind (I.type.here (wpAny_bind (hb.here ?_)))
  split
  · rename_i q
    have e : PySem.W.subIn K tb (.ref C) = some false := by
      rcases Bool.or_eq_true_iff.mp hn with e | e
      · rw [beq_iff_eq.mp e] at q; simp at q
      · exact beq_iff_eq.mp e
    refine wpAny_bind ((PySem.W.looks_subIn X e).here ?_)
    simp only [Bool.false_eq_true, if_false]
    refine wpAny_bind (wpAny_mono one (fun r s' z => ?_) fun _ _ e => e)
    obtain ⟨v, rfl, hq⟩ := z
    exact wpAny_pure hq
  · refine wpAny_bind (wpAny_pure ?_)
    simp only [Bool.false_eq_true, if_false]
    refine wpAny_bind (wpAny_mono one (fun r s' z => ?_) fun _ _ e => e)
    obtain ⟨v, rfl, hq⟩ := z
    exact wpAny_pure hq
end
end G39

/-! plain data over the abstract heap: what is read as data, what a reading does to data -/
namespace G39
open PySem PySem.Spec PyProof.Rows L2 Evl
/-- plain data: a value without the heap -/
inductive D where
  | non | bl (b : Bool) | int (i : Int) | str (x : Str) | tup (l : List D) | lst (l : List D) | dic (l : List (Key × D)) | dct (l : List (List Key × D)) | obj (C : Addr) (l : List (Str × D)) | kn (P : Program) (w : World) (ks : List (List Str))
/-- a tuple of the module -/
def WrT (K : PySem.W.Frag) (a : Addr) (xs : List V) : Prop := ∃ (o : Obj) (its : Array Value) (n : Nat), K.lookup a = some o ∧ o.cls = .type "tuple" ∧ o.data = .seq its n ∧ its.size ≤ sizeLine ∧ Vals xs its.toList
def WrL (K : PySem.W.Frag) (a : Addr) (xs : List V) : Prop := ∃ (o : Obj) (its : Array Value) (n : Nat), K.lookup a = some o ∧ o.cls = .type "list" ∧ o.dict = none ∧ o.data = .seq its n ∧ its.size ≤ sizeLine ∧ Vals xs its.toList
section
variable (K : PySem.W.Frag)
mutual
/-- v stands for d in F -/
inductive Rp (F : Hp) : V → D → Prop
  | non : Rp F .non .non
  | bl (b : Bool) : Rp F (.bl b) (.bl b)
  | int (i : Int) : Rp F (.int i) (.int i)
  | str (x : Str) : Rp F (.str x) (.str x)
  | lst {a : Addr} {xs : List V} {ds : List D} : F a = some (.lst xs) → Rps F xs ds → Rp F (.ref a) (.lst ds)
  | tup {a : Addr} {xs : List V} {ds : List D} : F a = some (.tup xs) → Rps F xs ds → Rp F (.ref a) (.tup ds)
  | wtup {a : Addr} {xs : List V} {ds : List D} : WrT K a xs → Rps F xs ds → Rp F (.ref a) (.tup ds)
  | dic {a : Addr} {kvs : List (Key × V)} {l : List (Key × D)} : F a = some (.dK kvs) → kvs.map Prod.fst = l.map Prod.fst → Rps F (kvs.map Prod.snd) (l.map Prod.snd) → Rp F (.ref a) (.dic l)
  | dct {a : Addr} {kvs : List (List Key × V)} {l : List (List Key × D)} : F a = some (.dT kvs) → kvs.map Prod.fst = l.map Prod.fst → Rps F (kvs.map Prod.snd) (l.map Prod.snd) → Rp F (.ref a) (.dct l)
  | obj {a C dx : Addr} {fs : List (Str × V)} {l : List (Str × D)} : F a = some (.ins C dx fs) → fs.map Prod.fst = l.map Prod.fst → Rps F (fs.map Prod.snd) (l.map Prod.snd) → Rp F (.ref a) (.obj C l)
  | kn {a : Addr} {P : Program} {w : World} {L : List (Addr × List Str)} {ks : List (List Str)} : F a = some (KnO P w a L) → L.map Prod.snd = ks → Rps F (L.map fun p => V.ref p.1) (ks.map fun k => D.tup (k.map D.str)) → Rp F (.ref a) (.kn P w ks)
inductive Rps (F : Hp) : List V → List D → Prop
  | nil : Rps F [] []
  | cons {v : V} {vs : List V} {d : D} {ds : List D} : Rp F v d → Rps F vs ds → Rps F (v :: vs) (d :: ds)
end
/-- what an object holds -/
inductive Ro (F : Hp) : HO → D → Prop
  | lst {xs : List V} {ds : List D} : Rps K F xs ds → Ro F (.lst xs) (.lst ds)
  | dic {kvs : List (Key × V)} {l : List (Key × D)} : kvs.map Prod.fst = l.map Prod.fst → Rps K F (kvs.map Prod.snd) (l.map Prod.snd) → Ro F (.dK kvs) (.dic l)
  | dct {kvs : List (List Key × V)} {l : List (List Key × D)} : kvs.map Prod.fst = l.map Prod.fst → Rps K F (kvs.map Prod.snd) (l.map Prod.snd) → Ro F (.dT kvs) (.dct l)
  | obj {C dx : Addr} {fs : List (Str × V)} {l : List (Str × D)} : fs.map Prod.fst = l.map Prod.fst → Rps K F (fs.map Prod.snd) (l.map Prod.snd) → Ro F (.ins C dx fs) (.obj C l)
end
section
variable {K : PySem.W.Frag} {F N H H' : Hp}
mutual
theorem Rp.mono (e : Ex F N) : ∀ {v : V} {d : D}, Rp K F v d → Rp K N v d
  | _, _, .non => .non
  | _, _, .bl b => .bl b
  | _, _, .int i => .int i
  | _, _, .str x => .str x
  | _, _, .lst h t => .lst (e _ _ h) (Rps.mono e t)
  | _, _, .tup h t => .tup (e _ _ h) (Rps.mono e t)
  | _, _, .wtup h t => .wtup h (Rps.mono e t)
  | _, _, .dic h k t => .dic (e _ _ h) k (Rps.mono e t)
  | _, _, .dct h k t => .dct (e _ _ h) k (Rps.mono e t)
  | _, _, .obj h k t => .obj (e _ _ h) k (Rps.mono e t)
  | _, _, .kn h k t => .kn (e _ _ h) k (Rps.mono e t)
theorem Rps.mono (e : Ex F N) : ∀ {vs : List V} {ds : List D}, Rps K F vs ds → Rps K N vs ds
  | _, _, .nil => .nil
  | _, _, .cons h t => .cons (Rp.mono e h) (Rps.mono e t)
end
theorem Ro.mono (e : Ex F N) {o : HO} {d : D} (h : Ro K F o d) : Ro K N o d := by
  cases h with
  | lst t => exact .lst (t.mono e)
  | dic k t => exact .dic k (t.mono e)
  | dct k t => exact .dct k (t.mono e)
  | obj k t => exact .obj k (t.mono e)
theorem Ro.rp {o : HO} {d : D} {a : Addr} (h : Ro K F o d) (e : Ex F N) (ha : N a = some o) : Rp K N (.ref a) d := by
  cases h with
  | lst t => exact .lst ha (t.mono e)
  | dic k t => exact .dic ha k (t.mono e)
  | dct k t => exact .dct ha k (t.mono e)
  | obj k t => exact .obj ha k (t.mono e)
theorem Rps.len : ∀ {vs : List V} {ds : List D}, Rps K F vs ds → vs.length = ds.length
  | _, _, .nil => rfl
  | _, _, .cons _ t => by rw [List.length_cons, List.length_cons, Rps.len t]
theorem Rps.append : ∀ {vs us : List V} {ds es : List D}, Rps K F vs ds → Rps K F us es → Rps K F (vs ++ us) (ds ++ es)
  | _, _, _, _, .nil, s => s
  | _, _, _, _, .cons r t, s => .cons r (Rps.append t s)
theorem Rps.get : ∀ {vs : List V} {ds : List D} {i : Nat} {v : V}, Rps K F vs ds → vs[i]? = some v → ∃ d, ds[i]? = some d ∧ Rp K F v d
  | _, _, _, _, .nil, e => by simp at e
  | _, _, 0, _, .cons r _, e => by
    simp at e
    subst e
    exact ⟨_, rfl, r⟩
  | _, _, i + 1, v, .cons _ t, e => by
    obtain ⟨d, h1, h2⟩ := Rps.get (i := i) (v := v) t (by simpa using e)
    exact ⟨d, by simpa using h1, h2⟩
theorem Rps.getD : ∀ {vs : List V} {ds : List D} {i : Nat} {d : D}, Rps K F vs ds → ds[i]? = some d → ∃ v, vs[i]? = some v ∧ Rp K F v d
  | _, _, _, _, .nil, e => by simp at e
  | _, _, 0, _, .cons r _, e => by
    simp at e
    subst e
    exact ⟨_, rfl, r⟩
  | _, _, i + 1, v, .cons _ t, e => by
    obtain ⟨d, h1, h2⟩ := Rps.getD (i := i) (d := v) t (by simpa using e)
    exact ⟨d, by simpa using h1, h2⟩
theorem Rps.drop : ∀ {vs : List V} {ds : List D} (n : Nat), Rps K F vs ds → Rps K F (vs.drop n) (ds.drop n)
  | _, _, 0, r => r
  | _, _, _ + 1, .nil => .nil
  | _, _, n + 1, .cons _ t => Rps.drop n t
theorem Rps.take : ∀ {vs : List V} {ds : List D} (n : Nat), Rps K F vs ds → Rps K F (vs.take n) (ds.take n)
  | _, _, 0, _ => .nil
  | _, _, _ + 1, .nil => .nil
  | _, _, n + 1, .cons r t => .cons r (Rps.take n t)
theorem Rps.snoc {vs : List V} {ds : List D} {v : V} {d : D} (h : Rps K F vs ds) (r : Rp K F v d) : Rps K F (vs ++ [v]) (ds ++ [d]) := h.append (.cons r .nil)
theorem Rps.strs : ∀ (l : List Str), Rps K F (l.map V.str) (l.map D.str)
  | [] => .nil
  | x :: l => .cons (.str x) (Rps.strs l)
/-- a dict, or what is locked of it -/
def isDk : HO → Prop
  | .dK _ => True
  | .dT _ => True
  | _ => False
/-- what F holds stands in H (a dict may be locked) -/
def Sub (F H : Hp) : Prop := ∀ a u, F a = some u → H a = some u ∨ (isDk u ∧ ∃ o, H a = some (.frz o u))
/-- all but the source stays -/
def Keep (so : Option Addr) (H H' : Hp) : Prop := ∀ a o, so ≠ some a → H a = some o → H' a = some o
theorem Keep.refl (so : Option Addr) (H : Hp) : Keep so H H := fun _ _ _ h => h
theorem Keep.trans {so : Option Addr} {H H1 H2 : Hp} (a : Keep so H H1) (b : Keep so H1 H2) : Keep so H H2 := fun x o n h => b x o n (a x o n h)
/-- one step of a reading: F, H before, N, H' behind -/
structure Step (so : Option Addr) (F H N H' : Hp) : Prop where
  sub : Sub N H'
  ex : Ex F N
  keep : Keep so H H'
  new : ∀ a, H a ≠ none → N a = F a
theorem Step.refl {so : Option Addr} (s : Sub F H) : Step so F H F H := ⟨s, Ex.refl F, Keep.refl so H, fun _ _ => rfl⟩
def SrcN (so : Option Addr) (H : Hp) (n : Nat) : Prop := ∀ sa, so = some sa → Src H sa n
theorem Step.trans {so : Option Addr} {F H N H' M H'' : Hp} {n n' : Nat} (a : Step so F H N H') (b : Step so N H' M H'') (s : SrcN so H n) (s' : SrcN so H' n') : Step so F H M H'' :=
  ⟨b.sub, a.ex.trans b.ex, a.keep.trans b.keep, fun x hx => by
    have h : H' x ≠ none := by
      by_cases e : so = some x
      · obtain ⟨_, _, _, h1, _⟩ := s' x e
        rw [h1]
        exact fun z => by cases z
      · cases q : H x with
        | none => exact absurd q hx
        | some o =>
          rw [a.keep x o e q]
          exact fun z => by cases z
    rw [b.new x h, a.new x hx]⟩
/-- a new object, held by F -/
theorem Step.newF {so : Option Addr} {p : Addr} {o : HO} (s : Sub F H) (h : H p = none) : Step so F H (upd F p o) (upd H p o) := by
  have fp : F p = none := by
    cases q : F p with
    | none => rfl
    | some u =>
      rcases s p u q with z | ⟨_, _, z⟩ <;> rw [h] at z <;> cases z
  refine ⟨fun a u e => ?_, Ex.new fp, fun a u _ e => Ex.new h a u e, fun a ha => ?_⟩
  · by_cases q : a = p
    · subst q
      rw [upd_same] at e ⊢
      exact .inl e
    · rw [upd_ne q] at e ⊢
      exact s a u e
  · have : a ≠ p := fun z => ha (by rw [z]; exact h)
    rw [upd_ne this]
theorem Step.src {so : Option Addr} {N : Hp} {n : Nat} (st : Step so F H N H') (s : SrcN so H n) (k : ∀ sa, so = some sa → H' sa = H sa) : SrcN so H' n := fun sa e => by
  obtain ⟨c, u, m, h, r⟩ := s sa e
  exact ⟨c, u, m, by rw [k sa e]; exact h, r⟩
/-- a new object beside F -/
theorem Step.beside {so : Option Addr} {p : Addr} {o : HO} (s : Sub F H) (h : H p = none) : Step so F H F (upd H p o) := by
  refine ⟨fun a u e => ?_, Ex.refl F, fun a u _ e => Ex.new h a u e, fun a ha => rfl⟩
  have q : a ≠ p := fun z => by
    subst z
    rcases s a u e with z | ⟨_, _, z⟩ <;> rw [h] at z <;> cases z
  rw [upd_ne q]
  exact s a u e
theorem Sub.nil (s : Sub F H) {p : Addr} (h : H p = none) : F p = none := by
  cases q : F p with
  | none => rfl
  | some u =>
    rcases s p u q with z | ⟨_, _, z⟩ <;> rw [h] at z <;> cases z
theorem SrcN.fresh {so : Option Addr} {n : Nat} {p : Addr} {o : HO} (s : SrcN so H n) (h : H p = none) : SrcN so (upd H p o) n := fun sa e => by
  obtain ⟨c, u, m, h1, r⟩ := s sa e
  refine ⟨c, u, m, ?_, r⟩
  rw [upd_ne fun z => by rw [z, h] at h1; cases h1]
  exact h1
/-- a slot: unset, data, an own object (of data that F holds), the source of draws, the script -/
inductive PV where
  | un | val (d : D) | own (d : D) | src | scr (ns : List Int) | me (p : Addr)
variable (K)
def Sl (so : Option Addr) (F H : Hp) : Option V → PV → Prop
  | _, .un => True
  | o, .val d => ∃ v, o = some v ∧ Rp K F v d
  | o, .own d => ∃ p u, o = some (.ref p) ∧ H p = some u ∧ Ro K F u d ∧ F p = none ∧ so ≠ some p
  | o, .src => ∃ sa, o = some (.ref sa) ∧ so = some sa
  | o, .me p => o = some (.ref p)
  | o, .scr ns => ∃ a, o = some (.ref a) ∧ SqL K H a (ns.map V.int) ∧ (so ≠ some a ∨ WrL K a (ns.map V.int))
/-- the slots stand for ρ -/
structure En (so : Option Addr) (F H : Hp) (σ : L2.St) (ρ : List PV) (n : Nat) : Prop where
  sub : Sub F H
  src : SrcN so H n
  nsr : ∀ sa, so = some sa → F sa = none
  len : σ.length = ρ.length
  sl : ∀ (i : Nat) (pv : PV), ρ[i]? = some pv → ∃ o, σ[i]? = some o ∧ Sl K so F H o pv
variable {K}
theorem sq_keep {so : Option Addr} {a : Addr} {xs : List V} (k : Keep so H H') (hs : so ≠ some a) (h : SqL K H a xs) : SqL K H' a xs := by
  rcases h with (h | ⟨o, h⟩) | h
  · exact .inl (.inl (k a _ hs h))
  · exact .inl (.inr ⟨o, k a _ hs h⟩)
  · exact .inr h
theorem scr_keep {so : Option Addr} {a : Addr} {xs : List V} (k : Keep so H H') (hs : so ≠ some a ∨ WrL K a xs) (h : SqL K H a xs) : SqL K H' a xs := hs.elim (fun z => sq_keep k z h) .inr
theorem Sl.step {so : Option Addr} {o : Option V} {pv : PV} (h : Sl K so F H o pv) (s : Step so F H N H') : Sl K so N H' o pv := by
  cases pv with
  | un => trivial
  | val d =>
    obtain ⟨v, e, r⟩ := h
    exact ⟨v, e, r.mono s.ex⟩
  | own d =>
    obtain ⟨p, u, e, h1, h2, h3, h4⟩ := h
    exact ⟨p, u, e, s.keep p u h4 h1, h2.mono s.ex, by rw [s.new p (by rw [h1]; exact fun z => by cases z)]; exact h3, h4⟩
  | src => exact h
  | me p => exact h
  | scr ns =>
    obtain ⟨a, e, h1, h2⟩ := h
    exact ⟨a, e, scr_keep s.keep h2 h1, h2⟩
theorem En.step {so : Option Addr} {σ : L2.St} {ρ : List PV} {n n' : Nat} (h : En K so F H σ ρ n) (s : Step so F H N H') (k : SrcN so H' n') : En K so N H' σ ρ n' :=
  ⟨s.sub, k, fun sa e => by
    obtain ⟨_, _, _, h1, _⟩ := h.src sa e
    rw [s.new sa (by rw [h1]; exact fun z => by cases z)]
    exact h.nsr sa e, h.len, fun i pv e => by
    obtain ⟨o, h1, h2⟩ := h.sl i pv e
    exact ⟨o, h1, h2.step s⟩⟩
end
/-! what a reading does to data -/
abbrev PX := Value → List (Str × D) → Nat → Prop
/-- a computation over data: n draws before, what is wanted behind, what is wanted of an exception -/
abbrev PM (α : Type) := Nat → (α → Nat → Prop) → PX → Prop
abbrev PEx := List PV → PM D
abbrev PTx := List PV → PM Bool
abbrev PAx := List PV → PM (List PV)
/-- the dict of an exception -/
def XRp (K : PySem.W.Frag) (N H : Hp) (dd : Option Addr) (fs : List (Str × D)) : Prop := match dd with
  | none => fs = []
  | some a => ∃ kvs : List (Str × V), H a = some (.xd kvs) ∧ kvs.map Prod.fst = fs.map Prod.fst ∧ Rps K N (kvs.map Prod.snd) (fs.map Prod.snd)
abbrev WX' := Value → Option Addr → L2.St → Hp → Prop
section
variable (K : PySem.W.Frag) (W : WX')
/-- what is wanted of an exception, brought to the heap -/
def XOk (so : Option Addr) (F H : Hp) (σ : L2.St) (x : PX) : Prop := ∀ cls dd fs N H' n', Step so F H N H' → SrcN so H' n' → XRp K N H' dd fs → x cls fs n' → W cls dd σ H'
def SimE (te : TE) (pe : PEx) : Prop := ∀ so F H σ ρ n q x (Q : VK), En K so F H σ ρ n → pe ρ n q x → XOk K W so F H σ x →
  (∀ v d N H' n', Step so F H N H' → SrcN so H' n' → Rp K N v d → q d n' → Q v H') → te σ H Q
/-- a new object -/
def SimF (te : TE) (pe : PEx) : Prop := ∀ so F H σ ρ n q x (Q : VK), En K so F H σ ρ n → pe ρ n q x → XOk K W so F H σ x →
  (∀ p u d N H' n', Step so F H N H' → SrcN so H' n' → H p = none → N p = none → H' p = some u → so ≠ some p → Ro K N u d → q d n' → Q (.ref p) H') → te σ H Q
/-- a borrowed thing: data of F, or an own object -/
def Bw (so : Option Addr) (F H : Hp) (v : V) (d : D) : Prop := Rp K F v d ∨ ∃ p u, v = .ref p ∧ H p = some u ∧ so ≠ some p ∧ Ro K F u d
def SimB (te : TE) (pe : PEx) : Prop := ∀ so F H σ ρ n q x (Q : VK), En K so F H σ ρ n → pe ρ n q x → XOk K W so F H σ x →
  (∀ v d N H' n', Step so F H N H' → SrcN so H' n' → Bw K so N H' v d → q d n' → Q v H') → te σ H Q
def SimT (tt : TT) (pt : PTx) : Prop := ∀ so F H σ ρ n q x (Q : Bool → Hp → Prop), En K so F H σ ρ n → pt ρ n q x → XOk K W so F H σ x →
  (∀ b N H' n', Step so F H N H' → SrcN so H' n' → q b n' → Q b H') → tt σ H Q
/-- an argument -/
def Ag (so : Option Addr) (F H : Hp) (v : V) : PV → Prop
  | .val d => Rp K F v d
  | .src => ∃ sa, v = .ref sa ∧ so = some sa
  | .scr ns => ∃ a, v = .ref a ∧ SqL K H a (ns.map V.int) ∧ so = none
  | .me p => v = .ref p
  | _ => False
inductive Ags (so : Option Addr) (F H : Hp) : List V → List PV → Prop
  | nil : Ags so F H [] []
  | cons {v : V} {vs : List V} {p : PV} {ps : List PV} : Ag K so F H v p → Ags so F H vs ps → Ags so F H (v :: vs) (p :: ps)
def SimA (ta : TA) (pa : PAx) : Prop := ∀ so F H σ ρ n q x (Q : List V → Hp → Prop), En K so F H σ ρ n → pa ρ n q x → XOk K W so F H σ x →
  (∀ vs ps N H' n', Step so F H N H' → SrcN so H' n' → Ags K so N H' vs ps → q ps n' → Q vs H') → ta σ H Q
end
section
variable {K : PySem.W.Frag} {W : WX'} {so : Option Addr} {F N H H' : Hp} {σ : L2.St} {x : PX}
theorem XOk.step {n n' : Nat} (h : XOk K W so F H σ x) (s : Step so F H N H') (k : SrcN so H n) (k' : SrcN so H' n') : XOk K W so N H' σ x := fun cls dd fs M H2 n2 s2 k2 r z => h cls dd fs M H2 n2 (s.trans s2 k k') k2 r z
theorem Bw.step {v : V} {d : D} (h : Bw K so F H v d) (s : Step so F H N H') : Bw K so N H' v d := by
  rcases h with h | ⟨p, u, e, h1, h2, h3⟩
  · exact .inl (h.mono s.ex)
  · exact .inr ⟨p, u, e, s.keep p u h2 h1, h2, h3.mono s.ex⟩
theorem Ags.step {vs : List V} {ps : List PV} (h : Ags K so F H vs ps) (s : Step so F H N H') : Ags K so N H' vs ps := by
  induction h with
  | nil => exact .nil
  | @cons v vs p ps h t ih =>
    refine .cons ?_ ih
    cases p with
    | un => exact h
    | val d => exact Rp.mono s.ex h
    | own d => exact h
    | src => exact h
    | me p => exact h
    | scr ns =>
      obtain ⟨a, e, h1, h2⟩ := h
      exact ⟨a, e, sq_keep s.keep (by rw [h2]; simp) h1, h2⟩
theorem SimE.b {te : TE} {pe : PEx} (h : SimE K W te pe) : SimB K W te pe := fun so F H σ ρ n q x Q e p xo k => h so F H σ ρ n q x Q e p xo fun v d N H' n' s k' r z => k v d N H' n' s k' (.inl r) z
/-- a new object, given to F -/
theorem SimF.e {te : TE} {pe : PEx} (h : SimF K W te pe) : SimE K W te pe := fun so F H σ ρ n q x Q e p xo k => h so F H σ ρ n q x Q e p xo fun a u d N H' n' s k' h0 hn h1 hs r z => by
  have e1 : Ex N (upd N a u) := Ex.new hn
  refine k (.ref a) d (upd N a u) H' n' ⟨fun b o hb => ?_, s.ex.trans e1, s.keep, fun b hb => ?_⟩ k' (r.rp e1 upd_same) z
  · by_cases q : b = a
    · subst q
      rw [upd_same] at hb
      exact .inl (by rw [← hb]; exact h1)
    · rw [upd_ne q] at hb
      exact s.sub b o hb
  · rw [upd_ne fun z => hb (by rw [z]; exact h0)]
    exact s.new b hb
end
end G39

namespace G39
open PySem PySem.Spec PyProof.Rows L2 Evl
section
variable {K : PySem.W.Frag} {so : Option Addr} {F N H H' : Hp} {v : V} {n : Nat}
/-! what a borrowed value is -/
theorem Bw.non (h : Bw K so F H v .non) : v = .non := by
  rcases h with h | ⟨p, u, _, _, _, h⟩ <;> cases h
  rfl
theorem Bw.bl {b : Bool} (h : Bw K so F H v (.bl b)) : v = .bl b := by
  rcases h with h | ⟨p, u, _, _, _, h⟩ <;> cases h
  rfl
theorem Bw.int {i : Int} (h : Bw K so F H v (.int i)) : v = .int i := by
  rcases h with h | ⟨p, u, _, _, _, h⟩ <;> cases h
  rfl
theorem Bw.str {x : Str} (h : Bw K so F H v (.str x)) : v = .str x := by
  rcases h with h | ⟨p, u, _, _, _, h⟩ <;> cases h
  rfl
theorem Bw.lst {ds : List D} (h : Bw K so F H v (.lst ds)) (s : Sub F H) : ∃ p xs, v = .ref p ∧ H p = some (.lst xs) ∧ Rps K F xs ds := by
  rcases h with h | ⟨p, u, e, h1, h2, h⟩
  · cases h with
    | lst h t =>
      rcases s _ _ h with z | ⟨z, _⟩
      · exact ⟨_, _, rfl, z, t⟩
      · exact z.elim
  · cases h with
    | lst t => exact ⟨p, _, e, h1, t⟩
theorem Bw.tup {ds : List D} (h : Bw K so F H v (.tup ds)) (s : Sub F H) : ∃ p xs, v = .ref p ∧ SqT K H p xs ∧ Rps K F xs ds := by
  rcases h with h | ⟨p, u, e, h1, h2, h⟩
  · cases h with
    | tup h t =>
      rcases s _ _ h with z | ⟨z, _⟩
      · exact ⟨_, _, rfl, st_of z, t⟩
      · exact z.elim
    | wtup h t => exact ⟨_, _, rfl, .inr h, t⟩
  · cases h
theorem Bw.tupF {ds : List D} (h : Bw K so F H v (.tup ds)) : Rp K F v (.tup ds) := by
  rcases h with h | ⟨p, u, e, h1, h2, h⟩
  · exact h
  · cases h
theorem Bw.dic {l : List (Key × D)} (h : Bw K so F H v (.dic l)) (s : Sub F H) : ∃ p kvs, v = .ref p ∧ Rd H p (.dK kvs) ∧ kvs.map Prod.fst = l.map Prod.fst ∧ Rps K F (kvs.map Prod.snd) (l.map Prod.snd) := by
  rcases h with h | ⟨p, u, e, h1, h2, h⟩
  · cases h with
    | dic h k t =>
      rcases s _ _ h with z | ⟨_, z⟩
      · exact ⟨_, _, rfl, .inl z, k, t⟩
      · exact ⟨_, _, rfl, .inr z, k, t⟩
  · cases h with
    | dic k t => exact ⟨p, _, e, .inl h1, k, t⟩
theorem Bw.dct {l : List (List Key × D)} (h : Bw K so F H v (.dct l)) (s : Sub F H) : ∃ p kvs, v = .ref p ∧ Rd H p (.dT kvs) ∧ kvs.map Prod.fst = l.map Prod.fst ∧ Rps K F (kvs.map Prod.snd) (l.map Prod.snd) := by
  rcases h with h | ⟨p, u, e, h1, h2, h⟩
  · cases h with
    | dct h k t =>
      rcases s _ _ h with z | ⟨_, z⟩
      · exact ⟨_, _, rfl, .inl z, k, t⟩
      · exact ⟨_, _, rfl, .inr z, k, t⟩
  · cases h with
    | dct k t => exact ⟨p, _, e, .inl h1, k, t⟩
/-- where a reading goes on: data -/
abbrev KE (K : PySem.W.Frag) (so : Option Addr) (F H : Hp) (q : D → Nat → Prop) (Q : VK) : Prop := ∀ v d N H' n', Step so F H N H' → SrcN so H' n' → Rp K N v d → q d n' → Q v H'
/-- where a reading goes on: a new object -/
abbrev KF (K : PySem.W.Frag) (so : Option Addr) (F H : Hp) (q : D → Nat → Prop) (Q : VK) : Prop := ∀ p u d N H' n', Step so F H N H' → SrcN so H' n' → H p = none → N p = none → H' p = some u → so ≠ some p → Ro K N u d → q d n' → Q (.ref p) H'
theorem KE.here {q : D → Nat → Prop} {Q : VK} {d : D} (k : KE K so F H q Q) (s : Sub F H) (c : SrcN so H n) (r : Rp K F v d) (z : q d n) : Q v H := k v d F H n (Step.refl s) c r z
theorem SrcN.ne {p : Addr} (c : SrcN so H n) (h : H p = none) : so ≠ some p := fun e => by
  obtain ⟨_, _, _, h1, _⟩ := c p e
  rw [h] at h1
  cases h1
theorem KF.here {q : D → Nat → Prop} {Q : VK} {u : HO} {d : D} (k : KF K so F H q Q) (s : Sub F H) (c : SrcN so H n) (r : Ro K F u d) (z : q d n) : ∀ p, H p = none → Q (.ref p) (upd H p u) := fun p hp =>
  k p u d F (upd H p u) n (Step.beside s hp) (c.fresh hp) hp (s.nil hp) upd_same (c.ne hp) r z
/-- a new object whose items are of F, of a kind that never changes -/
theorem KE.made {q : D → Nat → Prop} {Q : VK} {u : HO} {d : D} (k : KE K so F H q Q) (s : Sub F H) (c : SrcN so H n) (r : Ro K F u d) (z : q d n) : ∀ p, H p = none → Q (.ref p) (upd H p u) := fun p hp =>
  k (.ref p) d (upd F p u) (upd H p u) n (Step.newF s hp) (c.fresh hp) (r.rp (Ex.new (s.nil hp)) upd_same) z
/-- a new tuple -/
theorem KE.tup {q : D → Nat → Prop} {Q : VK} {xs : List V} {ds : List D} (k : KE K so F H q Q) (s : Sub F H) (c : SrcN so H n) (r : Rps K F xs ds) (z : q (.tup ds) n) : ∀ p, H p = none → Q (.ref p) (upd H p (.tup xs)) := fun p hp =>
  k (.ref p) (.tup ds) (upd F p (.tup xs)) (upd H p (.tup xs)) n (Step.newF s hp) (c.fresh hp) (.tup upd_same (r.mono (Ex.new (s.nil hp)))) z
theorem KE.step {q : D → Nat → Prop} {Q : VK} {n' : Nat} (k : KE K so F H q Q) (s : Step so F H N H') (c : SrcN so H n) (c' : SrcN so H' n') : KE K so N H' q Q := fun v d M H2 n2 s2 c2 r z => k v d M H2 n2 (s.trans s2 c c') c2 r z
theorem KF.step {q : D → Nat → Prop} {Q : VK} {n' : Nat} (k : KF K so F H q Q) (s : Step so F H N H') (c : SrcN so H n) (c' : SrcN so H' n') : KF K so N H' q Q := fun p u d M H2 n2 s2 c2 h1 h2 h3 h4 r z =>
  k p u d M H2 n2 (s.trans s2 c c') c2 (by
    cases e : H p with
    | none => rfl
    | some o =>
      by_cases hs : so = some p
      · exact absurd hs h4
      · rw [s.keep p o hs e] at h1
        cases h1) h2 h3 h4 r z
end
/-! names, constants -/
def pC (d : D) : PEx := fun _ n q _ => q d n
def pVar (i : Nat) : PEx := fun ρ n q _ => match ρ[i]? with
  | some (.val d) => q d n
  | _ => False
def pVarB (i : Nat) : PEx := fun ρ n q _ => match ρ[i]? with
  | some (.val d) => q d n
  | some (.own d) => q d n
  | _ => False
section
variable {K : PySem.W.Frag} {W : WX'} {te ta tb tc : TE} {pe pa pb pc : PEx}
theorem se_c {v : V} {d : D} (h : ∀ F, Rp K F v d) : SimE K W (tC v) (pC d) := fun so F H σ ρ n q x Q e p xo k => KE.here k e.sub e.src (h F) p
theorem se_int {i : Int} : SimE K W (tC (.int i)) (pC (.int i)) := se_c fun _ => .int i
theorem se_str {z : Str} : SimE K W (tC (.str z)) (pC (.str z)) := se_c fun _ => .str z
theorem se_bl {b : Bool} : SimE K W (tC (.bl b)) (pC (.bl b)) := se_c fun _ => .bl b
theorem se_non : SimE K W (tC .non) (pC .non) := se_c fun _ => .non
theorem se_var (i : Nat) : SimE K W (tVar i) (pVar i) := fun so F H σ ρ n q x Q e p xo k => by
  unfold pVar at p
  split at p
  case h_1 d hd =>
    obtain ⟨o, h1, v, rfl, r⟩ := e.sl i _ hd
    exact ⟨v, h1, KE.here k e.sub e.src r p⟩
  case h_2 => exact p.elim
theorem sb_var (i : Nat) : SimB K W (tVar i) (pVarB i) := fun so F H σ ρ n q x Q e p xo k => by
  unfold pVarB at p
  split at p
  case h_1 d hd =>
    obtain ⟨o, h1, v, rfl, r⟩ := e.sl i _ hd
    exact ⟨v, h1, k v d F H n (Step.refl e.sub) e.src (.inl r) p⟩
  case h_2 d hd =>
    obtain ⟨o, h1, a, u, rfl, h2, h3, h4, h5⟩ := e.sl i _ hd
    exact ⟨_, h1, k _ d F H n (Step.refl e.sub) e.src (.inr ⟨a, u, rfl, h2, h5, h3⟩) p⟩
  case h_3 => exact p.elim
/-! operators -/
def pOp (g : D → D → PM D) (pa pb : PEx) : PEx := fun ρ n q x => pa ρ n (fun a n1 => pb ρ n1 (fun b n2 => g a b n2 q x) x) x
def pUn (g : D → PM D) (pa : PEx) : PEx := fun ρ n q x => pa ρ n (fun a n1 => g a n1 q x) x
variable (K)
def SR (r : R2) (g : D → D → PM D) : Prop := ∀ so F H n vx vy a b q (x : PX) (Q : VK), Sub F H → SrcN so H n → Bw K so F H vx a → Bw K so F H vy b → g a b n q x → KE K so F H q Q → r vx vy H Q
def SRF (r : R2) (g : D → D → PM D) : Prop := ∀ so F H n vx vy a b q (x : PX) (Q : VK), Sub F H → SrcN so H n → Bw K so F H vx a → Bw K so F H vy b → g a b n q x → KF K so F H q Q → r vx vy H Q
def SU (r : V → Hp → VK → Prop) (g : D → PM D) : Prop := ∀ so F H n vx a q (x : PX) (Q : VK), Sub F H → SrcN so H n → Bw K so F H vx a → g a n q x → KE K so F H q Q → r vx H Q
def SUF (r : V → Hp → VK → Prop) (g : D → PM D) : Prop := ∀ so F H n vx a q (x : PX) (Q : VK), Sub F H → SrcN so H n → Bw K so F H vx a → g a n q x → KF K so F H q Q → r vx H Q
variable {K}
theorem se_op {r : R2} {g : D → D → PM D} (h : SR K r g) (ha : SimB K W ta pa) (hb : SimB K W tb pb) : SimE K W (tOp r ta tb) (pOp g pa pb) := fun so F H σ ρ n q x Q e p xo k =>
  ha so F H σ ρ n _ x _ e p xo fun v d N H1 n1 s1 c1 b1 p1 => hb so N H1 σ ρ n1 _ x _ (e.step s1 c1) p1 (xo.step s1 e.src c1) fun v2 d2 M H2 n2 s2 c2 b2 p2 =>
    h so M H2 n2 v v2 d d2 q x Q s2.sub c2 (b1.step s2) b2 p2 (KE.step k (s1.trans s2 e.src c1) e.src c2)
theorem sf_op {r : R2} {g : D → D → PM D} (h : SRF K r g) (ha : SimB K W ta pa) (hb : SimB K W tb pb) : SimF K W (tOp r ta tb) (pOp g pa pb) := fun so F H σ ρ n q x Q e p xo k =>
  ha so F H σ ρ n _ x _ e p xo fun v d N H1 n1 s1 c1 b1 p1 => hb so N H1 σ ρ n1 _ x _ (e.step s1 c1) p1 (xo.step s1 e.src c1) fun v2 d2 M H2 n2 s2 c2 b2 p2 =>
    h so M H2 n2 v v2 d d2 q x Q s2.sub c2 (b1.step s2) b2 p2 (KF.step k (s1.trans s2 e.src c1) e.src c2)
theorem se_un {r : V → Hp → VK → Prop} {g : D → PM D} (h : SU K r g) (ha : SimB K W ta pa) : SimE K W (tUn r ta) (pUn g pa) := fun so F H σ ρ n q x Q e p xo k =>
  ha so F H σ ρ n _ x _ e p xo fun v d N H1 n1 s1 c1 b1 p1 => h so N H1 n1 v d q x Q s1.sub c1 b1 p1 (KE.step k s1 e.src c1)
/-- whole numbers -/
def gI (C : Int → Int → Prop) (f : Int → Int → D) : D → D → PM D
  | .int i, .int j => fun n q _ => C i j ∧ q (f i j) n
  | _, _ => fun _ _ _ => False
def gI0 (f : Int → Int → D) : D → D → PM D
  | .int i, .int j => fun n q _ => q (f i j) n
  | _, _ => fun _ _ _ => False
theorem sr_I {C : Int → Int → Prop} {f : Int → Int → Int} : SR K (rI C fun i j => .int (f i j)) (gI C fun i j => .int (f i j)) := fun so F H n vx vy a b q x Q s c ba bb p k => by
  unfold gI at p
  split at p
  case h_1 i j => exact ⟨i, j, ba.int, bb.int, p.1, KE.here k s c (.int _) p.2⟩
  case h_2 => exact p.elim
theorem sr_I0 {f : Int → Int → Int} : SR K (rI0 fun i j => .int (f i j)) (gI0 fun i j => .int (f i j)) := fun so F H n vx vy a b q x Q s c ba bb p k => by
  unfold gI0 at p
  split at p
  case h_1 i j => exact ⟨i, j, ba.int, bb.int, KE.here k s c (.int _) p⟩
  case h_2 => exact p.elim
theorem sr_B0 {f : Int → Int → Bool} : SR K (rI0 fun i j => .bl (f i j)) (gI0 fun i j => .bl (f i j)) := fun so F H n vx vy a b q x Q s c ba bb p k => by
  unfold gI0 at p
  split at p
  case h_1 i j => exact ⟨i, j, ba.int, bb.int, KE.here k s c (.bl _) p⟩
  case h_2 => exact p.elim
def gNeg : D → PM D
  | .int i => fun n q _ => q (.int (-i)) n
  | _ => fun _ _ _ => False
theorem su_neg : SU K (rU fun i => .int (-i)) gNeg := fun so F H n vx a q x Q s c ba p k => by
  unfold gNeg at p
  split at p
  case h_1 i => exact ⟨i, ba.int, KE.here k s c (.int _) p⟩
  case h_2 => exact p.elim
/-- texts -/
def gAddS : D → D → PM D
  | .str i, .str j => fun n q _ => i.length + j.length ≤ 100000 ∧ q (.str (i ++ j)) n
  | _, _ => fun _ _ _ => False
theorem sr_addS : SR K (fun x y H Q => ∃ i j, x = .str i ∧ y = .str j ∧ i.length + j.length ≤ sizeLine ∧ Q (.str (i ++ j)) H) gAddS := fun so F H n vx vy a b q x Q s c ba bb p k => by
  unfold gAddS at p
  split at p
  case h_1 i j => exact ⟨i, j, ba.str, bb.str, sz_of p.1, KE.here k s c (.str _) p.2⟩
  case h_2 => exact p.elim
def gSS (f : Str → Str → Bool) : D → D → PM D
  | .str i, .str j => fun n q _ => q (.bl (f i j)) n
  | _, _ => fun _ _ _ => False
theorem sr_SS {f : Str → Str → Bool} : SR K (fun x y H Q => ∃ i j, x = .str i ∧ y = .str j ∧ Q (.bl (f i j)) H) (gSS f) := fun so F H n vx vy a b q x Q s c ba bb p k => by
  unfold gSS at p
  split at p
  case h_1 i j => exact ⟨i, j, ba.str, bb.str, KE.here k s c (.bl _) p⟩
  case h_2 => exact p.elim
/-- one sign in a text -/
def gSg (f : Bool → Bool) : D → D → PM D
  | .str i, .str j => fun n q _ => ∃ c, i = ⟨#[c]⟩ ∧ q (.bl (f (decide (c ∈ j.cps.toList)))) n
  | _, _ => fun _ _ _ => False
theorem sr_sign : SR K (fun x y H Q => ∃ (c : Nat) (z : Str), x = .str ⟨#[c]⟩ ∧ y = .str z ∧ Q (.bl (decide (c ∈ z.cps.toList))) H) (gSg id) := fun so F H n vx vy a b q x Q s c ba bb p k => by
  unfold gSg at p
  split at p
  case h_1 i j =>
    obtain ⟨g, rfl, p⟩ := p
    exact ⟨g, j, ba.str, bb.str, KE.here k s c (.bl _) p⟩
  case h_2 => exact p.elim
theorem sr_nsign : SR K (fun x y H Q => ∃ (c : Nat) (z : Str), x = .str ⟨#[c]⟩ ∧ y = .str z ∧ Q (.bl (!decide (c ∈ z.cps.toList))) H) (gSg not) := fun so F H n vx vy a b q x Q s c ba bb p k => by
  unfold gSg at p
  split at p
  case h_1 i j =>
    obtain ⟨g, rfl, p⟩ := p
    exact ⟨g, j, ba.str, bb.str, KE.here k s c (.bl _) p⟩
  case h_2 => exact p.elim
/-- lists and tuples -/
def gCat : D → D → PM D
  | .lst i, .lst j => fun n q _ => i.length + j.length ≤ 100000 ∧ q (.lst (i ++ j)) n
  | _, _ => fun _ _ _ => False
theorem srf_cat : SRF K rCat gCat := fun so F H n vx vy a b q x Q s c ba bb p k => by
  unfold gCat at p
  split at p
  case h_1 i j =>
    obtain ⟨l, xs, e1, h1, r1⟩ := ba.lst s
    obtain ⟨m, ys, e2, h2, r2⟩ := bb.lst s
    exact ⟨l, m, xs, ys, e1, e2, h1, h2, sz_of (by rw [r1.len, r2.len]; exact p.1), KF.here k s c (.lst (r1.append r2)) p.2⟩
  case h_2 => exact p.elim
def gCatT : D → D → PM D
  | .tup i, .tup j => fun n q _ => i.length + j.length ≤ 100000 ∧ q (.tup (i ++ j)) n
  | _, _ => fun _ _ _ => False
theorem sr_catT : SR K (rCatA K) gCatT := fun so F H n vx vy a b q x Q s c ba bb p k => by
  unfold gCatT at p
  split at p
  case h_1 i j =>
    obtain ⟨l, xs, e1, h1, r1⟩ := ba.tup s
    obtain ⟨m, ys, e2, h2, r2⟩ := bb.tup s
    refine ⟨l, m, xs, ys, e1, e2, h1, h2, sz_of (by rw [r1.len, r2.len]; exact p.1), ?_⟩
    refine ⟨fun hx => ?_, fun _ hy => ?_, fun _ _ => KE.tup k s c (r1.append r2) p.2⟩
    · subst hx
      cases r1
      rw [← e2]
      exact KE.here k s c bb.tupF p.2
    · subst hy
      cases r2
      rw [← e1]
      have := p.2
      rw [List.append_nil] at this
      exact KE.here k s c ba.tupF this
  case h_2 => exact p.elim

/-! equality: scalars by value, lists and tuples deeply -/
mutual
/-- as the library's data -/
def toPy : D → Option PyData
  | .non => some .none
  | .bl b => some (.bool b)
  | .int i => some (.int i)
  | .str x => some (.str x)
  | .lst l => (toPys l).map .list
  | .tup l => (toPys l).map .tuple
  | _ => none
def toPys : List D → Option (List PyData)
  | [] => some []
  | d :: l => match toPy d, toPys l with
    | some a, some b => some (a :: b)
    | _, _ => none
end
mutual
theorem Rp.dp {F H : Hp} (s : Sub F H) : ∀ {v : V} {d : D} {a : PyData}, Rp K F v d → toPy d = some a → Dp K H v a
  | _, _, _, .non, e => by simp only [toPy] at e; cases e; exact .non
  | _, _, _, .bl b, e => by simp only [toPy] at e; cases e; exact .bl b
  | _, _, _, .int i, e => by simp only [toPy] at e; cases e; exact .int i
  | _, _, _, .str x, e => by simp only [toPy] at e; cases e; exact .str x
  | _, _, _, .lst h t, e => by
    simp only [toPy, Option.map_eq_some_iff] at e
    obtain ⟨l, e1, rfl⟩ := e
    rcases s _ _ h with z | ⟨z, _⟩
    · exact .lst (sq_of z) (Rps.dp s t e1)
    · exact z.elim
  | _, _, _, .tup h t, e => by
    simp only [toPy, Option.map_eq_some_iff] at e
    obtain ⟨l, e1, rfl⟩ := e
    rcases s _ _ h with z | ⟨z, _⟩
    · exact .tup (st_of z) (Rps.dp s t e1)
    · exact z.elim
  | _, _, _, .wtup h t, e => by
    simp only [toPy, Option.map_eq_some_iff] at e
    obtain ⟨l, e1, rfl⟩ := e
    exact .tup (.inr h) (Rps.dp s t e1)
  | _, _, _, .dic .., e => by simp [toPy] at e
  | _, _, _, .dct .., e => by simp [toPy] at e
  | _, _, _, .obj .., e => by simp [toPy] at e
  | _, _, _, .kn .., e => by simp [toPy] at e
theorem Rps.dp {F H : Hp} (s : Sub F H) : ∀ {vs : List V} {ds : List D} {as : List PyData}, Rps K F vs ds → toPys ds = some as → DpAll K H vs as
  | _, _, _, .nil, e => by simp only [toPys] at e; cases e; exact .nil
  | _, _, _, .cons h t, e => by
    simp only [toPys] at e
    split at e
    case h_1 a b e1 e2 =>
      cases e
      exact .cons (Rp.dp s h e1) (Rps.dp s t e2)
    case h_2 => cases e
end
theorem Bw.dp {so : Option Addr} {F H : Hp} {v : V} {d : D} {a : PyData} (h : Bw K so F H v d) (s : Sub F H) (e : toPy d = some a) : Dp K H v a := by
  rcases h with h | ⟨p, u, rfl, h1, h2, h⟩
  · exact h.dp s e
  · cases h with
    | lst t =>
      simp only [toPy, Option.map_eq_some_iff] at e
      obtain ⟨l, e1, rfl⟩ := e
      exact .lst (sq_of h1) (t.dp s e1)
    | _ => simp [toPy] at e
def gEqD (f : Bool → Bool) : D → D → PM D := fun a b n q _ => ∃ d e, toPy a = some d ∧ toPy b = some e ∧ SeqAt.shaped d = true ∧ SeqAt.shaped e = true ∧ q (.bl (f (PyData.eqv d e))) n
theorem sr_eqD : SR K (rEqD K) (gEqD id) := fun so F H n vx vy a b q x Q s c ba bb ⟨d, e, h1, h2, h3, h4, p⟩ k => ⟨d, e, ba.dp s h1, bb.dp s h2, h3, h4, KE.here k s c (.bl _) p⟩
theorem sr_neD : SR K (rNeD K) (gEqD not) := fun so F H n vx vy a b q x Q s c ba bb ⟨d, e, h1, h2, h3, h4, p⟩ k => ⟨d, e, ba.dp s h1, bb.dp s h2, h3, h4, KE.here k s c (.bl _) p⟩
/-- a scalar -/
def flD : D → Option V
  | .non => some .non
  | .bl b => some (.bl b)
  | .int i => some (.int i)
  | .str x => some (.str x)
  | _ => none
theorem Bw.fl {so : Option Addr} {F H : Hp} {v u : V} {d : D} (h : Bw K so F H v d) (e : flD d = some u) : v = u := by
  cases d with
  | non => cases e; exact h.non
  | bl b => cases e; exact h.bl
  | int i => cases e; exact h.int
  | str x => cases e; exact h.str
  | _ => cases e
def gEq (f : Bool → Bool) : D → D → PM D := fun a b n q _ => ∃ u w, flD a = some u ∧ flD b = some w ∧ scal u w = true ∧ q (.bl (f (decide (u = w)))) n
theorem sr_eq : SR K rEq (gEq id) := fun so F H n vx vy a b q x Q s c ba bb ⟨u, w, h1, h2, h3, p⟩ k => by
  rw [ba.fl h1, bb.fl h2]
  exact ⟨h3, KE.here k s c (.bl _) p⟩
theorem sr_ne : SR K rNe (gEq not) := fun so F H n vx vy a b q x Q s c ba bb ⟨u, w, h1, h2, h3, p⟩ k => by
  rw [ba.fl h1, bb.fl h2]
  exact ⟨h3, KE.here k s c (.bl _) p⟩
/-- is None -/
def isNo : D → Bool
  | .non => true
  | _ => false
theorem Bw.isN {so : Option Addr} {F H : Hp} {v : V} {d : D} (h : Bw K so F H v d) : decide (v = .non) = isNo d := by
  rcases h with h | ⟨p, u, rfl, h1, h2, h⟩
  · cases h <;> rfl
  · cases h <;> rfl
def gIsN (f : Bool → Bool) : D → D → PM D
  | a, .non => fun n q _ => q (.bl (f (isNo a))) n
  | _, _ => fun _ _ _ => False
theorem sr_isN : SR K (fun x y H Q => y = .non ∧ Q (.bl (decide (x = .non))) H) (gIsN id) := fun so F H n vx vy a b q x Q s c ba bb p k => by
  unfold gIsN at p
  split at p
  · exact ⟨bb.non, by rw [ba.isN]; exact KE.here k s c (.bl _) p⟩
  · exact p.elim
theorem sr_notN : SR K (fun x y H Q => y = .non ∧ Q (.bl (!decide (x = .non))) H) (gIsN not) := fun so F H n vx vy a b q x Q s c ba bb p k => by
  unfold gIsN at p
  split at p
  · exact ⟨bb.non, by rw [ba.isN]; exact KE.here k s c (.bl _) p⟩
  · exact p.elim
/-- the items of a list or a tuple -/
def itemsD : D → Option (List D)
  | .lst l => some l
  | .tup l => some l
  | _ => none
theorem Bw.items {so : Option Addr} {F H : Hp} {v : V} {d : D} {l : List D} (h : Bw K so F H v d) (s : Sub F H) (e : itemsD d = some l) : ∃ p xs, v = .ref p ∧ (SqL K H p xs ∨ SqT K H p xs) ∧ Rps K F xs l := by
  cases d with
  | lst ds =>
    cases e
    obtain ⟨p, xs, h1, h2, h3⟩ := h.lst s
    exact ⟨p, xs, h1, .inl (sq_of h2), h3⟩
  | tup ds =>
    cases e
    obtain ⟨p, xs, h1, h2, h3⟩ := h.tup s
    exact ⟨p, xs, h1, .inr h2, h3⟩
  | _ => cases e
/-- x in a list of scalars -/
def flDs : List D → Option (List V)
  | [] => some []
  | d :: l => match flD d, flDs l with
    | some a, some b => some (a :: b)
    | _, _ => none
theorem Rps.fl {F : Hp} : ∀ {xs : List V} {ds : List D} {us : List V}, Rps K F xs ds → flDs ds = some us → xs = us
  | _, _, _, .nil, e => by simp only [flDs] at e; cases e; rfl
  | _, _, _, .cons h t, e => by
    simp only [flDs] at e
    split at e
    case h_1 a b e1 e2 =>
      cases e
      rw [Bw.fl (so := none) (H := F) (.inl h) e1, Rps.fl t e2]
    case h_2 => cases e
def gIn (f : Bool → Bool) : D → D → PM D := fun a b n q _ => ∃ u l us, flD a = some u ∧ itemsD b = some l ∧ flDs l = some us ∧ flatV u = true ∧ us.all flatV = true ∧ q (.bl (f (inV u us))) n
theorem sr_in : SR K (rIn K false) (gIn id) := fun so F H n vx vy a b q x Q s c ba bb ⟨u, l, us, h1, h2, h3, h4, h5, p⟩ k => by
  obtain ⟨a, xs, e, h6, r⟩ := bb.items s h2
  rw [ba.fl h1]
  rw [r.fl h3] at h6
  exact ⟨a, us, e, h6, h4, h5, KE.here k s c (.bl _) p⟩
theorem sr_notIn : SR K (rIn K true) (gIn not) := fun so F H n vx vy a b q x Q s c ba bb ⟨u, l, us, h1, h2, h3, h4, h5, p⟩ k => by
  obtain ⟨a, xs, e, h6, r⟩ := bb.items s h2
  rw [ba.fl h1]
  rw [r.fl h3] at h6
  exact ⟨a, us, e, h6, h4, h5, KE.here k s c (.bl _) p⟩
/-! subscripts -/
theorem atI_get {α : Type} {xs : List α} {i : Int} {v : α} (h : atI xs i = some v) : ∃ j, ixN xs.length i = some j ∧ xs[j]? = some v := by
  unfold atI at h
  cases e : ixN xs.length i with
  | none => rw [e] at h; cases h
  | some j => rw [e] at h; exact ⟨j, rfl, h⟩
theorem Rps.atI {F : Hp} {xs : List V} {ds : List D} {i : Int} {d : D} (h : Rps K F xs ds) (e : L2.atI ds i = some d) : ∃ v, L2.atI xs i = some v ∧ Rp K F v d := by
  obtain ⟨j, h1, h2⟩ := atI_get e
  obtain ⟨v, h3, h4⟩ := h.getD h2
  refine ⟨v, ?_, h4⟩
  unfold L2.atI
  rw [h.len, h1]
  exact h3
def gIxL : D → D → PM D
  | .lst l, .int i => fun n q _ => ∃ d, L2.atI l i = some d ∧ q d n
  | _, _ => fun _ _ _ => False
theorem sr_ixL : SR K (rIxL K) gIxL := fun so F H n vx vy a b q x Q s c ba bb p k => by
  unfold gIxL at p
  split at p
  case h_1 l i =>
    obtain ⟨d, h1, p⟩ := p
    obtain ⟨a, xs, e, h2, r⟩ := ba.lst s
    obtain ⟨v, h3, h4⟩ := r.atI h1
    exact ⟨a, xs, i, v, e, bb.int, sq_of h2, h3, KE.here k s c h4 p⟩
  case h_2 => exact p.elim
def gIxT : D → D → PM D
  | .tup l, .int i => fun n q _ => ∃ d, L2.atI l i = some d ∧ q d n
  | _, _ => fun _ _ _ => False
theorem sr_ixT : SR K (rIxT K) gIxT := fun so F H n vx vy a b q x Q s c ba bb p k => by
  unfold gIxT at p
  split at p
  case h_1 l i =>
    obtain ⟨d, h1, p⟩ := p
    obtain ⟨a, xs, e, h2, r⟩ := ba.tup s
    obtain ⟨v, h3, h4⟩ := r.atI h1
    exact ⟨a, xs, i, v, e, bb.int, h2, h3, KE.here k s c h4 p⟩
  case h_2 => exact p.elim
def gIxS : D → D → PM D
  | .str z, .int i => fun n q _ => z.length ≤ 100000 ∧ ∃ c, L2.atI z.cps.toList i = some c ∧ q (.str ⟨#[c]⟩) n
  | _, _ => fun _ _ _ => False
theorem sr_ixS : SR K rIxS gIxS := fun so F H n vx vy a b q x Q s c ba bb p k => by
  unfold gIxS at p
  split at p
  case h_1 z i =>
    obtain ⟨hz, g, h1, p⟩ := p
    exact ⟨z, i, g, ba.str, bb.int, sz_of hz, h1, KE.here k s c (.str _) p⟩
  case h_2 => exact p.elim
end
end G39

namespace G39
open PySem PySem.Spec PyProof.Rows L2 Evl
/-! truth -/
def noX : PX := fun _ _ _ => False
def pTst (pe : PEx) : PTx := fun ρ n q x => pe ρ n (fun d n1 => match d with | .bl b => q b n1 | _ => False) x
def pAnd (pa pb : PTx) : PTx := fun ρ n q x => pa ρ n (fun a n1 => if a = true then pb ρ n1 q x else q false n1) x
def pOr (pa pb : PTx) : PTx := fun ρ n q x => pa ρ n (fun a n1 => if a = true then q true n1 else pb ρ n1 q x) x
def pNot (pa : PTx) : PTx := fun ρ n q x => pa ρ n (fun a n1 => q (!a) n1) x
def pYes : PTx := fun _ n q _ => q true n
def pAndV (pa pb : PEx) : PEx := fun ρ n q x => pa ρ n (fun d n1 => match d with | .bl b => if b = true then pb ρ n1 q x else q (.bl false) n1 | _ => False) x
def pOrV (pa pb : PEx) : PEx := fun ρ n q x => pa ρ n (fun d n1 => match d with | .bl b => if b = true then q (.bl true) n1 else pb ρ n1 q x | _ => False) x
def pNotV (pa : PEx) : PEx := fun ρ n q x => pa ρ n (fun d n1 => match d with | .bl b => q (.bl (!b)) n1 | _ => False) x
def pIf (pt : PTx) (pa pb : PEx) : PEx := fun ρ n q x => pt ρ n (fun b n1 => if b = true then pa ρ n1 q x else pb ρ n1 q x) x
def pChain (g g' : D → D → PM D) (pa pb pc : PEx) : PEx := fun ρ n q x => pa ρ n (fun a n1 => pb ρ n1 (fun b n2 => g a b n2 (fun z n3 => match z with | .bl k => if k = true then pc ρ n3 (fun c n4 => g' b c n4 q x) x else q (.bl false) n3 | _ => False) x) x) x
section
variable {K : PySem.W.Frag} {W : WX'} {te ta tb tc : TE} {pe pa pb pc : PEx} {tt tu : TT} {pt pu : PTx}
theorem st_of' (h : SimE K W te pe) : SimT K W (tTest te) (pTst pe) := fun so F H σ ρ n q x Q e p xo k => h so F H σ ρ n _ x _ e p xo fun v d N H1 n1 s1 c1 r p1 => by
  cases r <;> first | exact p1.elim | exact ⟨_, rfl, k _ N H1 n1 s1 c1 p1⟩
theorem st_val (h : SimE K W te pe) : SimT K W (tB te) (pTst pe) := fun so F H σ ρ n q x Q e p xo k => h so F H σ ρ n _ x _ e p xo fun v d N H1 n1 s1 c1 r p1 => by
  cases r <;> first | exact p1.elim | exact ⟨_, rfl, k _ N H1 n1 s1 c1 p1⟩
theorem st_yes : SimT K W tYes pYes := fun so F H σ ρ n q x Q e p xo k => k true F H n (Step.refl e.sub) e.src p
theorem st_not (h : SimT K W tt pt) : SimT K W (tNot tt) (pNot pt) := fun so F H σ ρ n q x Q e p xo k => h so F H σ ρ n _ x _ e p xo fun b N H1 n1 s1 c1 p1 => k _ N H1 n1 s1 c1 p1
theorem st_and (h : SimT K W tt pt) (h' : SimT K W tu pu) : SimT K W (tAnd tt tu) (pAnd pt pu) := fun so F H σ ρ n q x Q e p xo k => h so F H σ ρ n _ x _ e p xo fun b N H1 n1 s1 c1 p1 => by
  cases b with
  | true =>
    rw [if_pos rfl] at p1 ⊢
    exact h' so N H1 σ ρ n1 q x Q (e.step s1 c1) p1 (xo.step s1 e.src c1) fun b M H2 n2 s2 c2 p2 => k b M H2 n2 (s1.trans s2 e.src c1) c2 p2
  | false =>
    rw [if_neg Bool.false_ne_true] at p1 ⊢
    exact k false N H1 n1 s1 c1 p1
theorem st_or (h : SimT K W tt pt) (h' : SimT K W tu pu) : SimT K W (tOr tt tu) (pOr pt pu) := fun so F H σ ρ n q x Q e p xo k => h so F H σ ρ n _ x _ e p xo fun b N H1 n1 s1 c1 p1 => by
  cases b with
  | true =>
    rw [if_pos rfl] at p1 ⊢
    exact k true N H1 n1 s1 c1 p1
  | false =>
    rw [if_neg Bool.false_ne_true] at p1 ⊢
    exact h' so N H1 σ ρ n1 q x Q (e.step s1 c1) p1 (xo.step s1 e.src c1) fun b M H2 n2 s2 c2 p2 => k b M H2 n2 (s1.trans s2 e.src c1) c2 p2
theorem se_andV (h : SimE K W ta pa) (h' : SimE K W tb pb) : SimE K W (tAndV ta tb) (pAndV pa pb) := fun so F H σ ρ n q x Q e p xo k => h so F H σ ρ n _ x _ e p xo fun v d N H1 n1 s1 c1 r p1 => by
  cases r <;> first
    | exact p1.elim
    | (rename_i b
       refine ⟨b, rfl, ?_⟩
       cases b with
       | true =>
         rw [if_pos rfl]
         exact h' so N H1 σ ρ n1 q x Q (e.step s1 c1) p1 (xo.step s1 e.src c1) (KE.step k s1 e.src c1)
       | false =>
         rw [if_neg Bool.false_ne_true]
         exact k _ _ N H1 n1 s1 c1 (.bl false) p1)
theorem se_orV (h : SimE K W ta pa) (h' : SimE K W tb pb) : SimE K W (tOrV ta tb) (pOrV pa pb) := fun so F H σ ρ n q x Q e p xo k => h so F H σ ρ n _ x _ e p xo fun v d N H1 n1 s1 c1 r p1 => by
  cases r <;> first
    | exact p1.elim
    | (rename_i b
       refine ⟨b, rfl, ?_⟩
       cases b with
       | true =>
         rw [if_pos rfl]
         exact k _ _ N H1 n1 s1 c1 (.bl true) p1
       | false =>
         rw [if_neg Bool.false_ne_true]
         exact h' so N H1 σ ρ n1 q x Q (e.step s1 c1) p1 (xo.step s1 e.src c1) (KE.step k s1 e.src c1))
theorem se_notV (h : SimE K W ta pa) : SimE K W (tNotV ta) (pNotV pa) := fun so F H σ ρ n q x Q e p xo k => h so F H σ ρ n _ x _ e p xo fun v d N H1 n1 s1 c1 r p1 => by
  cases r <;> first | exact p1.elim | exact ⟨_, rfl, k _ _ N H1 n1 s1 c1 (.bl _) p1⟩
theorem se_if (h : SimT K W tt pt) (h1 : SimE K W ta pa) (h2 : SimE K W tb pb) : SimE K W (tIf tt ta tb) (pIf pt pa pb) := fun so F H σ ρ n q x Q e p xo k => h so F H σ ρ n _ x _ e p xo fun b N H1 n1 s1 c1 p1 => by
  cases b with
  | true =>
    rw [if_pos rfl] at p1 ⊢
    exact h1 so N H1 σ ρ n1 q x Q (e.step s1 c1) p1 (xo.step s1 e.src c1) (KE.step k s1 e.src c1)
  | false =>
    rw [if_neg Bool.false_ne_true] at p1 ⊢
    exact h2 so N H1 σ ρ n1 q x Q (e.step s1 c1) p1 (xo.step s1 e.src c1) (KE.step k s1 e.src c1)
theorem sb_if (h : SimT K W tt pt) (h1 : SimB K W ta pa) (h2 : SimB K W tb pb) : SimB K W (tIf tt ta tb) (pIf pt pa pb) := fun so F H σ ρ n q x Q e p xo k => h so F H σ ρ n _ x _ e p xo fun b N H1 n1 s1 c1 p1 => by
  cases b with
  | true =>
    rw [if_pos rfl] at p1 ⊢
    exact h1 so N H1 σ ρ n1 q x Q (e.step s1 c1) p1 (xo.step s1 e.src c1) fun v d M H2 n2 s2 c2 r p2 => k v d M H2 n2 (s1.trans s2 e.src c1) c2 r p2
  | false =>
    rw [if_neg Bool.false_ne_true] at p1 ⊢
    exact h2 so N H1 σ ρ n1 q x Q (e.step s1 c1) p1 (xo.step s1 e.src c1) fun v d M H2 n2 s2 c2 r p2 => k v d M H2 n2 (s1.trans s2 e.src c1) c2 r p2
theorem sf_if (h : SimT K W tt pt) (h1 : SimF K W ta pa) (h2 : SimF K W tb pb) : SimF K W (tIf tt ta tb) (pIf pt pa pb) := fun so F H σ ρ n q x Q e p xo k => h so F H σ ρ n _ x _ e p xo fun b N H1 n1 s1 c1 p1 => by
  cases b with
  | true =>
    rw [if_pos rfl] at p1 ⊢
    exact h1 so N H1 σ ρ n1 q x Q (e.step s1 c1) p1 (xo.step s1 e.src c1) (KF.step k s1 e.src c1)
  | false =>
    rw [if_neg Bool.false_ne_true] at p1 ⊢
    exact h2 so N H1 σ ρ n1 q x Q (e.step s1 c1) p1 (xo.step s1 e.src c1) (KF.step k s1 e.src c1)
theorem se_chain {r r' : R2} {g g' : D → D → PM D} (h : SR K r g) (h' : SR K r' g') (ha : SimB K W ta pa) (hb : SimB K W tb pb) (hc : SimB K W tc pc) : SimE K W (tChain r r' ta tb tc) (pChain g g' pa pb pc) := fun so F H σ ρ n q x Q e p xo k =>
  ha so F H σ ρ n _ x _ e p xo fun v d N H1 n1 s1 c1 b1 p1 => hb so N H1 σ ρ n1 _ x _ (e.step s1 c1) p1 (xo.step s1 e.src c1) fun v2 d2 M H2 n2 s2 c2 b2 p2 =>
    h so M H2 n2 v v2 d d2 _ x _ s2.sub c2 (b1.step s2) b2 p2 fun z dz N3 H3 n3 s3 c3 rz p3 => by
      have s12 := s1.trans s2 e.src c1
      have s13 := s12.trans s3 e.src c2
      cases rz <;> first
        | exact p3.elim
        | (rename_i b
           refine ⟨b, rfl, ?_⟩
           cases b with
           | true =>
             rw [if_pos rfl]
             exact hc so N3 H3 σ ρ n3 _ x _ (e.step s13 c3) p3 (xo.step s13 e.src c3) fun v4 d4 N4 H4 n4 s4 c4 b4 p4 =>
               h' so N4 H4 n4 v2 v4 d2 d4 q x Q s4.sub c4 ((b2.step s3).step s4) b4 p4 (KE.step k (s13.trans s4 e.src c3) e.src c4)
           | false =>
             rw [if_neg Bool.false_ne_true]
             exact k _ _ N3 H3 n3 s13 c3 (.bl false) p3)
/-! slices -/
def cutD (l : List D) (lo hi : Option Int) : List D := (l.drop (HT.sIx l.length 0 lo)).take (HT.sIx l.length l.length hi - HT.sIx l.length 0 lo)
theorem Rps.cut {F : Hp} {xs : List V} {ds : List D} (h : Rps K F xs ds) (lo hi : Option Int) : Rps K F (cutV xs lo hi) (cutD ds lo hi) := by
  unfold cutV cutD
  rw [h.len]
  exact (h.drop _).take _
abbrev POx := List PV → PM (Option Int)
def SimO (K : PySem.W.Frag) (W : WX') (to : TO) (po : POx) : Prop := ∀ so F H σ ρ n q x (Q : Option Int → Hp → Prop), En K so F H σ ρ n → po ρ n q x → XOk K W so F H σ x →
  (∀ o N H' n', Step so F H N H' → SrcN so H' n' → q o n' → Q o H') → to σ H Q
def pNoPart : POx := fun _ n q _ => q none n
def pPart (pe : PEx) : POx := fun ρ n q x => pe ρ n (fun d n1 => match d with | .int i => q (some i) n1 | _ => False) x
theorem so_none : SimO K W tNoPart pNoPart := fun so F H σ ρ n q x Q e p xo k => k none F H n (Step.refl e.sub) e.src p
theorem so_some (h : SimE K W te pe) : SimO K W (tPart te) (pPart pe) := fun so F H σ ρ n q x Q e p xo k => h so F H σ ρ n _ x _ e p xo fun v d N H1 n1 s1 c1 r p1 => by
  cases r <;> first | exact p1.elim | exact ⟨_, rfl, k _ N H1 n1 s1 c1 p1⟩
def pSl (g : D → Option Int → Option Int → PM D) (pe : PEx) (pl ph : POx) : PEx := fun ρ n q x => pe ρ n (fun d n1 => pl ρ n1 (fun lo n2 => ph ρ n2 (fun hi n3 => g d lo hi n3 q x) x) x) x
def gSlL : D → Option Int → Option Int → PM D
  | .lst l, lo, hi => fun n q _ => q (.lst (cutD l lo hi)) n
  | _, _, _ => fun _ _ _ => False
def gSlT : D → Option Int → Option Int → PM D
  | .tup l, lo, hi => fun n q _ => q (.tup (cutD l lo hi)) n
  | _, _, _ => fun _ _ _ => False
def gSlS : D → Option Int → Option Int → PM D
  | .str z, lo, hi => fun n q _ => z.length ≤ 100000 ∧ q (.str (cutS z lo hi)) n
  | _, _, _ => fun _ _ _ => False
theorem sf_slL {tl th : TO} {pl ph : POx} (h : SimB K W te pe) (hl : SimO K W tl pl) (hh : SimO K W th ph) : SimF K W (tSl (rSlL K) te tl th) (pSl gSlL pe pl ph) := fun so F H σ ρ n q x Q e p xo k =>
  h so F H σ ρ n _ x _ e p xo fun v d N H1 n1 s1 c1 b1 p1 => hl so N H1 σ ρ n1 _ x _ (e.step s1 c1) p1 (xo.step s1 e.src c1) fun lo N2 H2 n2 s2 c2 p2 => by
    have s12 := s1.trans s2 e.src c1
    refine hh so N2 H2 σ ρ n2 _ x _ (e.step s12 c2) p2 (xo.step s12 e.src c2) fun hi N3 H3 n3 s3 c3 p3 => ?_
    have s13 := s12.trans s3 e.src c2
    have b3 := (b1.step s2).step s3
    unfold gSlL at p3
    split at p3
    case h_1 =>
      obtain ⟨a, xs, ev, ha, r⟩ := b3.lst s3.sub
      exact ⟨a, xs, ev, sq_of ha, KF.here (KF.step k s13 e.src c3) s3.sub c3 (.lst (r.cut lo hi)) p3⟩
    case h_2 => exact p3.elim
theorem se_slT {tl th : TO} {pl ph : POx} (h : SimB K W te pe) (hl : SimO K W tl pl) (hh : SimO K W th ph) : SimE K W (tSl (rSlA K) te tl th) (pSl gSlT pe pl ph) := fun so F H σ ρ n q x Q e p xo k =>
  h so F H σ ρ n _ x _ e p xo fun v d N H1 n1 s1 c1 b1 p1 => hl so N H1 σ ρ n1 _ x _ (e.step s1 c1) p1 (xo.step s1 e.src c1) fun lo N2 H2 n2 s2 c2 p2 => by
    have s12 := s1.trans s2 e.src c1
    refine hh so N2 H2 σ ρ n2 _ x _ (e.step s12 c2) p2 (xo.step s12 e.src c2) fun hi N3 H3 n3 s3 c3 p3 => ?_
    have s13 := s12.trans s3 e.src c2
    have b3 := (b1.step s2).step s3
    unfold gSlT at p3
    split at p3
    case h_1 l =>
      obtain ⟨a, xs, ev, ha, r⟩ := b3.tup s3.sub
      have k3 := KE.step k s13 e.src c3
      refine ⟨a, xs, ev, ha, fun hw => ?_, fun _ => KE.tup k3 s3.sub c3 (r.cut lo hi) p3⟩
      rw [← ev]
      have e1 : cutD l lo hi = l := by
        unfold cutD
        rw [r.len] at hw
        rw [hw.1, hw.2]
        simp
      rw [e1] at p3
      exact KE.here k3 s3.sub c3 b3.tupF p3
    case h_2 => exact p3.elim
theorem se_slS {tl th : TO} {pl ph : POx} (h : SimB K W te pe) (hl : SimO K W tl pl) (hh : SimO K W th ph) : SimE K W (tSl rSlS te tl th) (pSl gSlS pe pl ph) := fun so F H σ ρ n q x Q e p xo k =>
  h so F H σ ρ n _ x _ e p xo fun v d N H1 n1 s1 c1 b1 p1 => hl so N H1 σ ρ n1 _ x _ (e.step s1 c1) p1 (xo.step s1 e.src c1) fun lo N2 H2 n2 s2 c2 p2 => by
    have s12 := s1.trans s2 e.src c1
    refine hh so N2 H2 σ ρ n2 _ x _ (e.step s12 c2) p2 (xo.step s12 e.src c2) fun hi N3 H3 n3 s3 c3 p3 => ?_
    have s13 := s12.trans s3 e.src c2
    have b3 := (b1.step s2).step s3
    unfold gSlS at p3
    split at p3
    case h_1 z => exact ⟨z, b3.str, sz_of p3.1, KE.here (KE.step k s13 e.src c3) s3.sub c3 (.str _) p3.2⟩
    case h_2 => exact p3.elim
/-! lists of data -/
abbrev PLx := List PV → PM (List D)
def SimL (K : PySem.W.Frag) (W : WX') (ta : TA) (pl : PLx) : Prop := ∀ so F H σ ρ n q x (Q : List V → Hp → Prop), En K so F H σ ρ n → pl ρ n q x → XOk K W so F H σ x →
  (∀ vs ds N H' n', Step so F H N H' → SrcN so H' n' → Rps K N vs ds → q ds n' → Q vs H') → ta σ H Q
def pNil : PLx := fun _ n q _ => q [] n
def pCons (pe : PEx) (pl : PLx) : PLx := fun ρ n q x => pe ρ n (fun d n1 => pl ρ n1 (fun ds n2 => q (d :: ds) n2) x) x
def pStar (pe : PEx) (pl : PLx) : PLx := fun ρ n q x => pe ρ n (fun d n1 => ∃ l, itemsD d = some l ∧ pl ρ n1 (fun ds n2 => q (l ++ ds) n2) x) x
def pLst (pl : PLx) : PEx := fun ρ n q x => pl ρ n (fun ds n1 => ds.length ≤ 100000 ∧ q (.lst ds) n1) x
def pTup (pl : PLx) : PEx := fun ρ n q x => pl ρ n (fun ds n1 => ds.length ≤ 100000 ∧ q (.tup ds) n1) x
variable {tr : TA} {pl : PLx}
theorem sl_nil : SimL K W tNil pNil := fun so F H σ ρ n q x Q e p xo k => k [] [] F H n (Step.refl e.sub) e.src .nil p
theorem sl_cons (h : SimE K W te pe) (ht : SimL K W tr pl) : SimL K W (tCons te tr) (pCons pe pl) := fun so F H σ ρ n q x Q e p xo k =>
  h so F H σ ρ n _ x _ e p xo fun v d N H1 n1 s1 c1 r1 p1 => ht so N H1 σ ρ n1 _ x _ (e.step s1 c1) p1 (xo.step s1 e.src c1) fun vs ds M H2 n2 s2 c2 r2 p2 => k _ _ M H2 n2 (s1.trans s2 e.src c1) c2 (.cons (r1.mono s2.ex) r2) p2
theorem sl_star (h : SimB K W te pe) (ht : SimL K W tr pl) : SimL K W (StX.tStar K te tr) (pStar pe pl) := fun so F H σ ρ n q x Q e p xo k =>
  h so F H σ ρ n _ x _ e p xo fun v d N H1 n1 s1 c1 b1 ⟨l, hl, p1⟩ => by
    obtain ⟨a, xs, ev, ha, r⟩ := b1.items s1.sub hl
    exact ⟨a, xs, ev, ha.symm, ht so N H1 σ ρ n1 _ x _ (e.step s1 c1) p1 (xo.step s1 e.src c1) fun vs ds M H2 n2 s2 c2 r2 p2 => k _ _ M H2 n2 (s1.trans s2 e.src c1) c2 ((r.mono s2.ex).append r2) p2⟩
theorem sf_lst (h : SimL K W tr pl) : SimF K W (tLst tr) (pLst pl) := fun so F H σ ρ n q x Q e p xo k =>
  h so F H σ ρ n _ x _ e p xo fun vs ds N H1 n1 s1 c1 r1 p1 => ⟨sz_of (by rw [r1.len]; exact p1.1), KF.here (KF.step k s1 e.src c1) s1.sub c1 (.lst r1) p1.2⟩
theorem se_tup (h : SimL K W tr pl) : SimE K W (tTup tr) (pTup pl) := fun so F H σ ρ n q x Q e p xo k =>
  h so F H σ ρ n _ x _ e p xo fun vs ds N H1 n1 s1 c1 r1 p1 => ⟨sz_of (by rw [r1.len]; exact p1.1), KE.tup (KE.step k s1 e.src c1) s1.sub c1 r1 p1.2⟩
/-! built-ins of one argument -/
def SC (K : PySem.W.Frag) (r : List V → Hp → VK → Prop) (g : D → PM D) : Prop := ∀ so F H n vx a q (x : PX) (Q : VK), Sub F H → SrcN so H n → Bw K so F H vx a → g a n q x → KE K so F H q Q → r [vx] H Q
def SCF (K : PySem.W.Frag) (r : List V → Hp → VK → Prop) (g : D → PM D) : Prop := ∀ so F H n vx a q (x : PX) (Q : VK), Sub F H → SrcN so H n → Bw K so F H vx a → g a n q x → KF K so F H q Q → r [vx] H Q
theorem se_cb {r : List V → Hp → VK → Prop} {g : D → PM D} (h : SC K r g) (ha : SimB K W ta pa) : SimE K W (tCB r (tCons ta tNil)) (pUn g pa) := fun so F H σ ρ n q x Q e p xo k =>
  ha so F H σ ρ n _ x _ e p xo fun v d N H1 n1 s1 c1 b1 p1 => h so N H1 n1 v d q x Q s1.sub c1 b1 p1 (KE.step k s1 e.src c1)
theorem sf_cb {r : List V → Hp → VK → Prop} {g : D → PM D} (h : SCF K r g) (ha : SimB K W ta pa) : SimF K W (tCB r (tCons ta tNil)) (pUn g pa) := fun so F H σ ρ n q x Q e p xo k =>
  ha so F H σ ρ n _ x _ e p xo fun v d N H1 n1 s1 c1 b1 p1 => h so N H1 n1 v d q x Q s1.sub c1 b1 p1 (KF.step k s1 e.src c1)
def gLen : D → PM D := fun d n q _ => ∃ l, itemsD d = some l ∧ q (.int l.length) n
theorem sc_len : SC K (rLenS K) gLen := fun so F H n vx a q x Q s c b ⟨l, hl, p⟩ k => by
  obtain ⟨a, xs, ev, ha, r⟩ := b.items s hl
  refine ⟨a, xs, by rw [ev], ha, ?_⟩
  rw [r.len]
  exact KE.here k s c (.int _) p
def gLenS : D → PM D
  | .str z => fun n q _ => z.length ≤ 100000 ∧ q (.int z.length) n
  | _ => fun _ _ _ => False
theorem sc_lenS : SC K (fun xs H Q => ∃ z, xs = [.str z] ∧ z.length ≤ sizeLine ∧ Q (.int z.length) H) gLenS := fun so F H n vx a q x Q s c b p k => by
  unfold gLenS at p
  split at p
  · exact ⟨_, by rw [b.str], sz_of p.1, KE.here k s c (.int _) p.2⟩
  · exact p.elim
def gInt : D → PM D
  | .int i => fun n q _ => q (.int i) n
  | .bl b => fun n q _ => q (.int (if b then 1 else 0)) n
  | _ => fun _ _ _ => False
theorem sc_int : SC K (fun xs H Q => (∃ i, xs = [.int i] ∧ Q (.int i) H) ∨ ∃ k, xs = [.bl k] ∧ Q (.int (if k then 1 else 0)) H) gInt := fun so F H n vx a q x Q s c b p k => by
  unfold gInt at p
  split at p
  · exact .inl ⟨_, by rw [b.int], KE.here k s c (.int _) p⟩
  · exact .inr ⟨_, by rw [b.bl], KE.here k s c (.int _) p⟩
  · exact p.elim
def gStrI : D → PM D
  | .int i => fun n q _ => i.natAbs < 1000000000000 ∧ q (.str (toString i)) n
  | _ => fun _ _ _ => False
theorem log_lt {i : Int} (h : i.natAbs < 1000000000000) : i.natAbs.log2 < 1920 := by
  by_cases h0 : i.natAbs = 0
  · rw [h0]
    decide
  · refine (Nat.log2_lt h0).mpr (Nat.lt_of_lt_of_le h ?_)
    exact Nat.le_trans (by decide : (1000000000000 : Nat) ≤ 2 ^ 40) (Nat.pow_le_pow_right (by decide) (by decide))
theorem sc_strI : SC K (fun xs H Q => ∃ i, xs = [.int i] ∧ i.natAbs.log2 < 1920 ∧ Q (.str (toString i)) H) gStrI := fun so F H n vx a q x Q s c b p k => by
  unfold gStrI at p
  split at p
  · exact ⟨_, by rw [b.int], log_lt p.1, KE.here k s c (.str _) p.2⟩
  · exact p.elim
def gStrS : D → PM D
  | .str z => fun n q _ => q (.str z) n
  | _ => fun _ _ _ => False
theorem sc_strS : SC K (fun xs H Q => ∃ a, xs = [.str a] ∧ Q (.str a) H) gStrS := fun so F H n vx a q x Q s c b p k => by
  unfold gStrS at p
  split at p
  · exact ⟨_, by rw [b.str], KE.here k s c (.str _) p⟩
  · exact p.elim
/-- the truths of a list -/
def blsD : List D → Option (List Bool)
  | [] => some []
  | .bl b :: l => (blsD l).map (b :: ·)
  | _ => none
theorem Rps.bls {F : Hp} : ∀ {xs : List V} {ds : List D} {bs : List Bool}, Rps K F xs ds → blsD ds = some bs → xs = bs.map V.bl
  | _, _, _, .nil, e => by simp only [blsD] at e; cases e; rfl
  | _, _, _, .cons h t, e => by
    unfold blsD at e
    split at e
    · rename_i z; cases z
    · rename_i b l z
      cases z
      obtain ⟨bs, e1, rfl⟩ := Option.map_eq_some_iff.mp e
      rw [Rps.bls t e1, Bw.bl (so := none) (H := F) (.inl h)]
      rfl
    · cases e
def gAll : D → PM D
  | .lst l => fun n q _ => ∃ bs, blsD l = some bs ∧ q (.bl (bs.all id)) n
  | _ => fun _ _ _ => False
theorem sc_all : SC K (rAll K) gAll := fun so F H n vx a q x Q s c b p k => by
  unfold gAll at p
  split at p
  · obtain ⟨bs, h1, p⟩ := p
    obtain ⟨a, xs, ev, ha, r⟩ := b.lst s
    rw [r.bls h1] at ha
    exact ⟨a, bs, by rw [ev], sq_of ha, KE.here k s c (.bl _) p⟩
  · exact p.elim
def gAny : D → PM D
  | .lst l => fun n q _ => ∃ bs, blsD l = some bs ∧ q (.bl (bs.any id)) n
  | _ => fun _ _ _ => False
theorem sc_any : SC K (rAny K) gAny := fun so F H n vx a q x Q s c b p k => by
  unfold gAny at p
  split at p
  · obtain ⟨bs, h1, p⟩ := p
    obtain ⟨a, xs, ev, ha, r⟩ := b.lst s
    rw [r.bls h1] at ha
    exact ⟨a, bs, by rw [ev], sq_of ha, KE.here k s c (.bl _) p⟩
  · exact p.elim
def gList : D → PM D := fun d n q _ => ∃ l, itemsD d = some l ∧ q (.lst l) n
theorem scf_list : SCF K (rListS K) gList := fun so F H n vx a q x Q s c b ⟨l, hl, p⟩ k => by
  obtain ⟨a, xs, ev, ha, r⟩ := b.items s hl
  exact ⟨a, xs, by rw [ev], ha, KF.here k s c (.lst r) p⟩
def gTuple : D → PM D := fun d n q _ => ∃ l, itemsD d = some l ∧ q (.tup l) n
theorem sc_tuple : SC K (rTupS K) gTuple := fun so F H n vx a q x Q s c b ⟨l, hl, p⟩ k => by
  cases a with
  | lst ds =>
    cases hl
    obtain ⟨a, xs, ev, ha, r⟩ := b.lst s
    exact ⟨a, xs, by rw [ev], .inl ⟨sq_of ha, KE.tup k s c r p⟩⟩
  | tup ds =>
    cases hl
    obtain ⟨a, xs, ev, ha, r⟩ := b.tup s
    refine ⟨a, xs, by rw [ev], .inr ⟨ha, ?_⟩⟩
    rw [← ev]
    exact KE.here k s c b.tupF p
  | _ => cases hl
end
end G39

namespace G39
open PySem PySem.Spec PyProof.Rows L2 Evl
section
variable {K : PySem.W.Frag} {W : WX'} {so : Option Addr} {F N H H' : Hp} {σ σ' : L2.St} {ρ : List PV} {n : Nat}
/-! slots set, slots wiped -/
theorem En.set {i : Nat} {v : V} {d : D} (e : En K so F H σ ρ n) (r : Rp K F v d) : En K so F H (σ.set i (some v)) (ρ.set i (.val d)) n := by
  refine ⟨e.sub, e.src, e.nsr, by rw [List.length_set, List.length_set]; exact e.len, fun j pv h => ?_⟩
  rw [List.getElem?_set] at h ⊢
  by_cases c : i = j
  · rw [if_pos c] at h ⊢
    by_cases l : i < ρ.length
    · rw [if_pos l] at h
      rw [if_pos (by rw [e.len]; exact l)]
      cases h
      exact ⟨_, rfl, v, rfl, r⟩
    · rw [if_neg l] at h
      cases h
  · rw [if_neg c] at h ⊢
    exact e.sl j pv h
def wipeP (ρ : List PV) : List Nat → List PV
  | [] => ρ
  | v :: vs => (wipeP ρ vs).set v .un
theorem En.un {i : Nat} (e : En K so F H σ ρ n) (o : Option V) : En K so F H (σ.set i o) (ρ.set i .un) n := by
  refine ⟨e.sub, e.src, e.nsr, by rw [List.length_set, List.length_set]; exact e.len, fun j pv h => ?_⟩
  rw [List.getElem?_set] at h ⊢
  by_cases c : i = j
  · rw [if_pos c] at h ⊢
    by_cases l : i < ρ.length
    · rw [if_pos l] at h
      rw [if_pos (by rw [e.len]; exact l)]
      cases h
      exact ⟨_, rfl, trivial⟩
    · rw [if_neg l] at h
      cases h
  · rw [if_neg c] at h ⊢
    exact e.sl j pv h
theorem En.wipe (e : En K so F H σ ρ n) : ∀ vs : List Nat, En K so F H (L2.wipe σ vs) (wipeP ρ vs) n
  | [] => e
  | v :: vs => (En.wipe e vs).un none
/-- apart from js nothing changes -/
def Off (js : List Nat) (σ σ' : L2.St) (ρ ρ' : List PV) : Prop := σ'.length = σ.length ∧ (∀ i, i ∉ js → σ'[i]? = σ[i]?) ∧ ∀ (i : Nat) (pv : PV), ρ'[i]? = some pv → (∃ d, pv = .val d) ∨ (ρ[i]? = some pv ∧ σ'[i]? = σ[i]?)
theorem wipe_at (σ : L2.St) : ∀ (vs : List Nat) (i : Nat), (L2.wipe σ vs)[i]? = if i ∈ vs then (if i < σ.length then some none else none) else σ[i]?
  | [], i => by simp [L2.wipe]
  | v :: vs, i => by
    unfold L2.wipe
    rw [List.getElem?_set, wipe_length, wipe_at σ vs i]
    by_cases c : v = i
    · subst c
      rw [if_pos rfl, if_pos (List.mem_cons_self ..)]
    · rw [if_neg c]
      have : i ∈ v :: vs ↔ i ∈ vs := by
        rw [List.mem_cons]
        exact ⟨fun z => z.resolve_left fun q => c q.symm, .inr⟩
      simp only [this]
theorem wipe_off {js vs : List Nat} {ρ ρ' : List PV} (h : Off js (L2.wipe σ vs) σ' ρ ρ') (hj : ∀ j ∈ js, j ∈ vs) : L2.wipe σ' vs = L2.wipe σ vs := by
  refine List.ext_getElem? fun i => ?_
  rw [wipe_at, wipe_at]
  have hl : σ'.length = σ.length := h.1.trans (wipe_length σ vs)
  by_cases c : i ∈ vs
  · rw [if_pos c, if_pos c, hl]
  · rw [if_neg c, if_neg c, h.2.1 i fun z => c (hj i z), wipe_at, if_neg c]
/-! targets -/
abbrev PGx := D → List PV → (List PV → Prop) → Prop
def SimG (K : PySem.W.Frag) (js : List Nat) (g : L2.TG) (pg : PGx) : Prop := ∀ so F H v d σ ρ n (k : List PV → Prop) (Q : L2.St → Hp → Prop), En K so F H σ ρ n → Rp K F v d → pg d ρ k → (∀ σ' ρ', En K so F H σ' ρ' n → Off js σ σ' ρ ρ' → k ρ' → Q σ' H) → g v σ H Q
def pgN (i : Nat) : PGx := fun d ρ k => k (ρ.set i (.val d))
theorem sg_name (i : Nat) : SimG K [i] (gName i) (pgN i) := fun so F H v d σ ρ n k Q e r p q => q _ _ (e.set r) ⟨List.length_set, fun j hj => by
  rw [List.getElem?_set, if_neg fun z => hj (by rw [z]; exact List.mem_cons_self ..)], fun j pv h => by
  rw [List.getElem?_set] at h ⊢
  by_cases c : i = j
  · rw [if_pos c] at h
    split at h
    · cases h
      exact .inl ⟨_, rfl⟩
    · cases h
  · rw [if_neg c] at h ⊢
    exact .inr ⟨h, rfl⟩⟩ p
abbrev PGs := List D → List PV → (List PV → Prop) → Prop
def SimGs (K : PySem.W.Frag) (js : List Nat) (g : L2.TGs) (pg : PGs) : Prop := ∀ so F H vs ds σ ρ n (k : List PV → Prop) (Q : L2.St → Hp → Prop), En K so F H σ ρ n → Rps K F vs ds → pg ds ρ k → (∀ σ' ρ', En K so F H σ' ρ' n → Off js σ σ' ρ ρ' → k ρ' → Q σ' H) → g vs σ H Q
def pgNil : PGs := fun ds ρ k => ds = [] ∧ k ρ
def pgCons (pg : PGx) (pgs : PGs) : PGs := fun ds ρ k => match ds with
  | d :: l => pg d ρ fun ρ' => pgs l ρ' k
  | [] => False
theorem sgs_nil : SimGs K [] gNil pgNil := fun so F H vs ds σ ρ n k Q e r p q => by
  obtain ⟨rfl, p⟩ := p
  cases r
  exact ⟨rfl, q _ _ e ⟨rfl, fun _ _ => rfl, fun _ _ h => .inr ⟨h, rfl⟩⟩ p⟩
theorem sgs_cons {js ks : List Nat} {g : L2.TG} {gs : L2.TGs} {pg : PGx} {pgs : PGs} (h : SimG K js g pg) (ht : SimGs K ks gs pgs) : SimGs K (js ++ ks) (gCons g gs) (pgCons pg pgs) := fun so F H vs ds σ ρ n k Q e r p q => by
  cases r with
  | nil => exact p.elim
  | cons r t => exact ⟨_, _, rfl, h so F H _ _ σ ρ n _ _ e r p fun σ' ρ' e' o' p' => ht so F H _ _ σ' ρ' n _ _ e' t p' fun σ2 ρ2 e2 o2 p2 => q σ2 ρ2 e2 ⟨o2.1.trans o'.1, fun i hi => (o2.2.1 i fun z => hi (List.mem_append_right _ z)).trans (o'.2.1 i fun z => hi (List.mem_append_left _ z)), fun i pv h => (o2.2.2 i pv h).elim .inl fun z => (o'.2.2 i pv z.1).imp id fun y => ⟨y.1, z.2.trans y.2⟩⟩ p2⟩
def pgTup (m : Nat) (pgs : PGs) : PGx := fun d ρ k => match d with
  | .tup l => l.length = m ∧ pgs l ρ k
  | _ => False
theorem sg_tup {js : List Nat} {gs : L2.TGs} {pgs : PGs} {m : Nat} (h : SimGs K js gs pgs) : SimG K js (gTup K m gs) (pgTup m pgs) := fun so F H v d σ ρ n k Q e r p q => by
  cases d with
  | tup l =>
    obtain ⟨a, xs, ev, ha, r⟩ := Bw.tup (so := so) (.inl r) e.sub
    exact ⟨a, xs, ev, ha, by rw [r.len]; exact p.1, h so F H xs l σ ρ n k Q e r p.2 q⟩
  | _ => exact p.elim
def pgLst (m : Nat) (pgs : PGs) : PGx := fun d ρ k => match d with
  | .lst l => l.length = m ∧ pgs l ρ k
  | _ => False
theorem sg_lst {js : List Nat} {gs : L2.TGs} {pgs : PGs} {m : Nat} (h : SimGs K js gs pgs) : SimG K js (gLst K m gs) (pgLst m pgs) := fun so F H v d σ ρ n k Q e r p q => by
  cases d with
  | lst l =>
    obtain ⟨a, xs, ev, ha, r⟩ := Bw.lst (so := so) (.inl r) e.sub
    exact ⟨a, xs, ev, sq_of ha, by rw [r.len]; exact p.1, h so F H xs l σ ρ n k Q e r p.2 q⟩
  | _ => exact p.elim
/-! walks -/
structure WalkD (K : PySem.W.Frag) (G : Hp → Prop) (J : It) (N : Hp) (ds : List D) : Prop where
  goes : ∀ i H, i < ds.length → G H → J.go i H
  stops : ∀ H, G H → J.stop ds.length H
  yields : ∀ i H1 x H2 N1 d, ds[i]? = some d → G H1 → Ex N N1 → Sub N1 H1 → J.yld i H1 x H2 → ∃ N2, Step none N1 H1 N2 H2 ∧ Rp K N2 x d
abbrev PIx := List PV → PM (List D)
/-- a walk that stands while all but the source stays -/
def SimI (K : PySem.W.Frag) (W : WX') (wi : TI) (pi : PIx) : Prop := ∀ so F H σ ρ n q x (R : It → Hp → Prop), En K so F H σ ρ n → pi ρ n q x → XOk K W so F H σ x →
  (∀ J ds G N H' n', Step so F H N H' → SrcN so H' n' → WalkD K G J N ds → (∀ H'', Keep so H' H'' → G H'') → q ds n' → R J H') → wi σ H R
/-- a walk that stands while what is known stays -/
def SimJ (K : PySem.W.Frag) (W : WX') (wi : TI) (pi : PIx) : Prop := ∀ so F H σ ρ n q x (R : It → Hp → Prop), En K so F H σ ρ n → pi ρ n q x → XOk K W so F H σ x →
  (∀ J ds G N H' n', Step so F H N H' → SrcN so H' n' → WalkD K G J N ds → (∀ N'' H'', Ex N N'' → Sub N'' H'' → G H'') → q ds n' → R J H') → wi σ H R
theorem Sub.keep (s : Sub F H) (hs : ∀ sa, so = some sa → F sa = none) (k : Keep so H H') : Sub F H' := fun a u e => by
  have ne : so ≠ some a := fun z => by
    rw [hs a z] at e
    cases e
  rcases s a u e with h | ⟨d, o, h⟩
  · exact .inl (k a _ ne h)
  · exact .inr ⟨d, o, k a _ ne h⟩
theorem Step.nsr {n : Nat} (s : Step so F H N H') (hs : ∀ sa, so = some sa → F sa = none) (c : SrcN so H n) : ∀ sa, so = some sa → N sa = none := fun sa e => by
  obtain ⟨_, _, _, h1, _⟩ := c sa e
  rw [s.new sa (by rw [h1]; exact fun z => by cases z)]
  exact hs sa e
theorem SimJ.i {wi : TI} {pi : PIx} (h : SimJ K W wi pi) : SimI K W wi pi := fun so F H σ ρ n q x R e p xo k => h so F H σ ρ n q x R e p xo fun J ds G N H' n' s c w g z =>
  k J ds G N H' n' s c w (fun H'' kp => g N H'' (Ex.refl N) (s.sub.keep (s.nsr e.nsr e.src) kp)) z
theorem Step.any (s : Step none F H N H') : Step so F H N H' := ⟨s.sub, s.ex, fun a o _ h => s.keep a o (by simp) h, s.new⟩
theorem Step.srcN {n : Nat} (s : Step none F H N H') (c : SrcN so H n) : SrcN so H' n := fun sa e => by
  obtain ⟨c0, u, m, z, r⟩ := c sa e
  exact ⟨c0, u, m, s.keep sa _ (by simp) z, r⟩
theorem walk_of {J : It} {xs : List V} {ds : List D} {G : Hp → Prop} (w : Walk J xs.length G (YOf xs id)) (r : Rps K N xs ds) : WalkD K G J N ds :=
  ⟨fun i H hi g => w.goes i H (by rw [r.len]; exact hi) g, fun H g => by rw [← r.len]; exact w.stops H g, fun i H1 x H2 N1 d hd g e s y => by
    obtain ⟨v, hv, rv⟩ := r.getD hd
    have hi : i < xs.length := (List.getElem?_eq_some_iff.mp hv).1
    obtain ⟨rfl, a, ha, rfl⟩ := w.yields i H1 x H2 hi g y
    rw [hv] at ha
    cases ha
    exact ⟨N1, Step.refl s, rv.mono e⟩⟩
def pItL (pe : PEx) : PIx := fun ρ n q x => pe ρ n (fun d n1 => match d with | .lst l => q l n1 | _ => False) x
def pItT (pe : PEx) : PIx := fun ρ n q x => pe ρ n (fun d n1 => match d with | .tup l => q l n1 | _ => False) x
def sgnsD (z : Str) : List D := z.cps.toList.map fun c => .str ⟨#[c]⟩
def pItS (pe : PEx) : PIx := fun ρ n q x => pe ρ n (fun d n1 => match d with | .str z => q (sgnsD z) n1 | _ => False) x
def rngD (lo : Int) (m : Nat) : List D := (List.range m).map fun i => .int (lo + (i : Nat))
variable {te : TE} {pe : PEx}
theorem si_list (h : SimB K W te pe) : SimI K W (iList K te) (pItL pe) := fun so F H σ ρ n q x R e p xo k => h so F H σ ρ n _ x _ e p xo fun v d N H1 n1 s1 c1 b1 p1 => by
  cases d with
  | lst l =>
    have ns : ∀ a xs, v = .ref a → H1 a = some (.lst xs) → so ≠ some a := fun a xs ev ha z => by
      obtain ⟨_, _, _, h2, _⟩ := c1 a z
      rcases b1 with r | ⟨p, u, ev2, _, hs, _⟩
      · rw [ev] at r
        cases r with
        | lst hf _ =>
          rw [s1.nsr e.nsr e.src a z] at hf
          cases hf
      · rw [ev] at ev2
        cases ev2
        exact hs z
    obtain ⟨a, xs, ev, ha, r⟩ := b1.lst s1.sub
    exact ⟨a, ev, ⟨xs, sq_of ha⟩, k _ l (fun H => SqL K H a xs) N H1 n1 s1 c1 (walk_of (walk_list.mono (fun _ z => z) fun i H x H' _ _ y => ⟨y.1, x, y.2, rfl⟩) r) (fun H'' kp => sq_of (kp a _ (ns a xs ev ha) ha)) p1⟩
  | _ => exact p1.elim
theorem sj_list (h : SimE K W te pe) : SimJ K W (iList K te) (pItL pe) := fun so F H σ ρ n q x R e p xo k => h so F H σ ρ n _ x _ e p xo fun v d N H1 n1 s1 c1 r1 p1 => by
  cases r1 with
  | lst hf r =>
    have get : ∀ N'' H'', Ex N N'' → Sub N'' H'' → SqL K H'' _ _ := fun N'' H'' e2 s2 => by
      rcases s2 _ _ (e2 _ _ hf) with z | ⟨z, _⟩
      · exact sq_of z
      · exact z.elim
    exact ⟨_, rfl, ⟨_, get N H1 (Ex.refl N) s1.sub⟩, k _ _ (fun H => SqL K H _ _) N H1 n1 s1 c1 (walk_of (walk_list.mono (fun _ z => z) fun i H x H' _ _ y => ⟨y.1, x, y.2, rfl⟩) r) get p1⟩
  | _ => exact p1.elim
theorem sj_tup (h : SimE K W te pe) : SimJ K W (iTup K te) (pItT pe) := fun so F H σ ρ n q x R e p xo k => h so F H σ ρ n _ x _ e p xo fun v d N H1 n1 s1 c1 r1 p1 => by
  cases r1 with
  | tup hf r =>
    have get : ∀ N'' H'', Ex N N'' → Sub N'' H'' → SqT K H'' _ _ := fun N'' H'' e2 s2 => by
      rcases s2 _ _ (e2 _ _ hf) with z | ⟨z, _⟩
      · exact st_of z
      · exact z.elim
    exact ⟨_, rfl, ⟨_, get N H1 (Ex.refl N) s1.sub⟩, k _ _ (fun H => SqT K H _ _) N H1 n1 s1 c1 (walk_of (walk_tup.mono (fun _ z => z) fun i H x H' _ _ y => ⟨y.1, x, y.2, rfl⟩) r) get p1⟩
  | wtup hw r => exact ⟨_, rfl, ⟨_, .inr hw⟩, k _ _ (fun H => SqT K H _ _) N H1 n1 s1 c1 (walk_of (walk_tup.mono (fun _ z => z) fun i H x H' _ _ y => ⟨y.1, x, y.2, rfl⟩) r) (fun _ _ _ _ => .inr hw) p1⟩
  | _ => exact p1.elim
theorem Rps.map {α : Type} {F : Hp} {f : α → V} {g : α → D} (h : ∀ a, Rp K F (f a) (g a)) : ∀ l : List α, Rps K F (l.map f) (l.map g)
  | [] => .nil
  | a :: l => .cons (h a) (Rps.map h l)
theorem sj_str (h : SimE K W te pe) : SimJ K W (iStr te) (pItS pe) := fun so F H σ ρ n q x R e p xo k => h so F H σ ρ n _ x _ e p xo fun v d N H1 n1 s1 c1 r1 p1 => by
  cases r1 with
  | str z =>
    have wk : Walk (Its z) (z.cps.toList.map fun c => V.str ⟨#[c]⟩).length (fun _ => True) (YOf (z.cps.toList.map fun c => V.str ⟨#[c]⟩) id) := by
      rw [List.length_map, Array.length_toList]
      exact walk_str.mono (fun _ z => z) fun i H x H' _ _ y => ⟨y.1, by
        obtain ⟨c, h1, h2⟩ := y.2
        exact ⟨_, by rw [List.getElem?_map, Array.getElem?_toList, h1]; rfl, h2⟩⟩
    exact ⟨z, rfl, k _ _ (fun _ => True) N H1 n1 s1 c1 (walk_of wk (Rps.map (fun c => .str _) _)) (fun _ _ _ _ => trivial) p1⟩
  | _ => exact p1.elim
def pRng1 (pl : PLx) : PIx := fun ρ n q x => pl ρ n (fun ds n1 => match ds with | [.int j] => j ≤ 1000000 ∧ -1000000 ≤ j ∧ q (rngD 0 j.toNat) n1 | _ => False) x
def pRng2 (pl : PLx) : PIx := fun ρ n q x => pl ρ n (fun ds n1 => match ds with | [.int i, .int j] => (i ≤ 1000000 ∧ -1000000 ≤ i ∧ j ≤ 1000000 ∧ -1000000 ≤ j) ∧ q (rngD i (j - i).toNat) n1 | _ => False) x
theorem walk_rng {N : Hp} {lo : Int} {m : Nat} : WalkD K (fun _ => True) (Itr lo m) N (rngD lo m) := by
  have wk : Walk (Itr lo m) ((List.range m).map fun i : Nat => V.int (lo + i)).length (fun _ => True) (YOf ((List.range m).map fun i : Nat => V.int (lo + i)) id) := by
    rw [List.length_map, List.length_range]
    exact walk_range.mono (fun _ z => z) fun i H x H' hi _ y => ⟨y.1, _, by rw [List.getElem?_map, List.getElem?_range hi]; rfl, y.2⟩
  exact walk_of wk (Rps.map (fun c => .int _) _)
theorem sj_rng1 {ta : TA} {pl : PLx} (h : SimL K W ta pl) : SimJ K W (iRng1 ta) (pRng1 pl) := fun so F H σ ρ n q x R e p xo k => h so F H σ ρ n _ x _ e p xo fun vs ds N H1 n1 s1 c1 r1 p1 => by
  split at p1
  · rename_i j
    cases r1 with
    | cons a b =>
      cases b
      cases a
      exact ⟨j, rfl, by omega, by omega, k _ _ (fun _ => True) N H1 n1 s1 c1 walk_rng (fun _ _ _ _ => trivial) p1.2.2⟩
  · exact p1.elim
theorem sj_rng2 {ta : TA} {pl : PLx} (h : SimL K W ta pl) : SimJ K W (iRng2 ta) (pRng2 pl) := fun so F H σ ρ n q x R e p xo k => h so F H σ ρ n _ x _ e p xo fun vs ds N H1 n1 s1 c1 r1 p1 => by
  split at p1
  · rename_i i j
    cases r1 with
    | cons a b =>
      cases b with
      | cons b c =>
        cases c
        cases a
        cases b
        exact ⟨i, j, rfl, ⟨by omega, by omega, by omega, by omega⟩, k _ _ (fun _ => True) N H1 n1 s1 c1 walk_rng (fun _ _ _ _ => trivial) p1.2⟩
  · exact p1.elim
/-! comprehensions -/
def colP (f : D → Nat → (Option D → Nat → Prop) → Prop) : List D → Nat → (List D → Nat → Prop) → Prop
  | [], n, q => q [] n
  | d :: ds, n, q => f d n fun o n1 => colP f ds n1 fun l n2 => q (match o with | some y => y :: l | none => l) n2
def elP (pg : PGx) (pt : PTx) (pe : PEx) (ρ : List PV) : D → Nat → (Option D → Nat → Prop) → Prop := fun d n k => pg d ρ fun ρ' => pt ρ' n (fun b n1 => if b = true then pe ρ' n1 (fun y n2 => k (some y) n2) noX else k none n1) noX
def pLc (pi : PIx) (pg : PGx) (pt : PTx) (pe : PEx) (vs : List Nat) : PEx := fun ρ n q x => pi ρ n (fun ds n1 => ds.length ≤ 40000 ∧ colP (elP pg pt pe (wipeP ρ vs)) ds n1 fun l n2 => q (.lst l) n2) x
theorem Sub.beside (s : Sub F H) {p : Addr} {o : HO} (h : F p = none) : Sub F (upd H p o) := fun a u e => by
  rw [upd_ne fun z => by rw [z, h] at e; cases e]
  exact s a u e
theorem SrcN.beside (c : SrcN so H n) {p : Addr} {o : HO} (h : so ≠ some p) : SrcN so (upd H p o) n := fun sa e => by
  obtain ⟨c0, u, m, h1, r⟩ := c sa e
  exact ⟨c0, u, m, by rw [upd_ne fun z => h (by rw [← z]; exact e)]; exact h1, r⟩
theorem Step.beside' (s : Step so F H N H') {p : Addr} {o : HO} (h : H p = none) (hn : N p = none) : Step so F H N (upd H' p o) :=
  ⟨s.sub.beside hn, s.ex, fun a u ns e => by rw [upd_ne (ne_of_none e h)]; exact s.keep a u ns e, s.new⟩
/-- nothing is raised -/
def WF : WX' := fun _ _ _ _ => False
theorem xo_no {H : Hp} {W0 : WX'} : XOk K W0 so F H σ noX := fun _ _ _ _ _ _ _ _ _ z => z.elim
theorem drop_at {α : Type} {l : List α} {i : Nat} (h : i < l.length) : ∃ d, l[i]? = some d ∧ l.drop i = d :: l.drop (i + 1) := ⟨l[i], List.getElem?_eq_getElem h, List.drop_eq_getElem_cons h⟩
theorem sf_lc {wi : TI} {pi : PIx} {js vs : List Nat} {g : L2.TG} {pg : PGx} {tt : TT} {pt : PTx} (hi : SimI K W wi pi) (hg : SimG K js g pg) (hj : ∀ j ∈ js, j ∈ vs) (ht : SimT K WF tt pt) (he : SimE K WF te pe) :
    SimF K W (tLc wi g tt te vs) (pLc pi pg pt pe vs) := fun so F H σ ρ n q x Q e p xo k => hi so F H σ ρ n _ x _ e p xo fun J ds G N1 H1 n1 s1 c1 w gk p1 Dl hD => by
  have nD := s1.sub.nil hD
  have sD := c1.ne hD
  have hlen := p1.1
  have wk : Walk J ds.length G (fun i H x H' => J.yld i H x H') := ⟨w.goes, w.stops, fun _ _ _ _ _ _ y => y⟩
  refine lc_it wk (fun i Hc => ∃ N n' acc ys, Step so N1 H1 N Hc ∧ SrcN so Hc n' ∧ N Dl = none ∧ Hc Dl = some (.lst ys) ∧ Rps K N ys acc ∧ acc.length ≤ i ∧ colP (elP pg pt pe (wipeP ρ vs)) (ds.drop i) n' fun l n2 => q (.lst (acc ++ l)) n2)
    ⟨N1, n1, [], [], (Step.refl s1.sub).beside' hD nD, c1.beside sD, nD, upd_same, .nil, Nat.le_refl _, p1.2⟩ (fun i Hc _ ⟨N, n', acc, ys, h1, _⟩ => gk Hc h1.keep) (fun i x Hc H2 hi2 ⟨N, n', acc, ys, h1, h2, h3, h4, h5, h6, h7⟩ y => ?_) (fun Hc ⟨N, n', acc, ys, h1, h2, h3, h4, h5, h6, h7⟩ => ?_)
  · obtain ⟨d, hd, ed⟩ := drop_at hi2
    rw [ed] at h7
    obtain ⟨N2, s2', r2⟩ := w.yields i Hc x H2 N d hd (gk Hc h1.keep) h1.ex h1.sub y
    have s2 : Step so N Hc N2 H2 := s2'.any
    have c2 : SrcN so H2 n' := s2'.srcN h2
    have t2 := h1.trans s2 c1 h2
    have d2 : H2 Dl = some (.lst ys) := s2.keep Dl _ sD h4
    have n2 : N2 Dl = none := by rw [s2.new Dl (by rw [h4]; exact fun q => by cases q)]; exact h3
    have e2 := (e.step (s1.trans t2 e.src c1) c2).wipe vs
    refine hg so N2 H2 x d _ _ n' _ _ e2 r2 h7 fun σ2 ρ2 e3 o3 p3 => ⟨wipe_off o3 hj, ht so N2 H2 σ2 ρ2 n' _ noX _ e3 p3 xo_no fun b N3 H3 n3 s3 c3 p4 => ?_⟩
    have t3 := t2.trans s3 c1 c2
    have d3 : H3 Dl = some (.lst ys) := s3.keep Dl _ sD d2
    have n3' : N3 Dl = none := by rw [s3.new Dl (by rw [d2]; exact fun q => by cases q)]; exact n2
    cases b with
    | true =>
      rw [if_pos rfl] at p4 ⊢
      refine he so N3 H3 σ2 ρ2 n3 _ noX _ (e3.step s3 c3) p4 xo_no fun v dv N4 H4 n4 s4 c4 r4 p5 => ?_
      have t4 := t3.trans s4 c1 c3
      have d4 : H4 Dl = some (.lst ys) := s4.keep Dl _ sD d3
      have n4' : N4 Dl = none := by rw [s4.new Dl (by rw [d3]; exact fun q => by cases q)]; exact n3'
      refine ⟨ys, d4, ?_, N4, n4, acc ++ [dv], ys ++ [v], t4.beside' hD n4', c4.beside sD, n4', upd_same, ((h5.mono (s2.ex.trans (s3.ex.trans s4.ex)))).snoc r4, by rw [List.length_append]; simp only [List.length_cons, List.length_nil]; omega, ?_⟩
      · rw [h5.len, sizeLine_eq]
        omega
      · simpa using p5
    | false =>
      rw [if_neg Bool.false_ne_true] at p4 ⊢
      exact ⟨N3, n3, acc, ys, t3, c3, n3', d3, h5.mono (s2.ex.trans s3.ex), by omega, p4⟩
  · rw [List.drop_of_length_le (Nat.le_refl _)] at h7
    have z : q (.lst (acc ++ [])) n' := h7
    rw [List.append_nil] at z
    exact KF.step k s1 e.src c1 Dl (.lst ys) (.lst acc) N Hc n' h1 h2 hD h3 h4 sD (.lst h5) z
end
end G39

namespace G39
open PySem PySem.Spec PyProof.Rows L2 Evl
/-! arguments, calls -/
abbrev PSp := List PV → PM D
/-- a promise over data -/
def lift (K : PySem.W.Frag) (psp : PSp) : Sp := fun vs H Q E => ∃ so F ps n q x, Sub F H ∧ SrcN so H n ∧ (∀ sa, so = some sa → F sa = none) ∧ Ags K so F H vs ps ∧ psp ps n q x ∧ KE K so F H q Q ∧
  ∀ cls dd fs N H' n', Step so F H N H' → SrcN so H' n' → XRp K N H' dd fs → x cls fs n' → E cls dd H'
def paNil : PAx := fun _ n q _ => q [] n
def paVal (pe : PEx) (pa : PAx) : PAx := fun ρ n q x => pe ρ n (fun d n1 => pa ρ n1 (fun ps n2 => q (.val d :: ps) n2) x) x
def paSrc (i : Nat) (pa : PAx) : PAx := fun ρ n q x => match ρ[i]? with
  | some .src => pa ρ n (fun ps n2 => q (.src :: ps) n2) x
  | _ => False
def pCall0 (psp : PSp) (pa : PAx) : PEx := fun ρ n q x => pa ρ n (fun ps n1 => psp ps n1 q noX) x
def pCall (psp : PSp) (pa : PAx) : PEx := fun ρ n q x => pa ρ n (fun ps n1 => psp ps n1 q x) x
section
variable {K : PySem.W.Frag} {W : WX'} {te : TE} {pe : PEx} {ta : TA} {pa : PAx}
theorem sa_nil : SimA K W tNil paNil := fun so F H σ ρ n q x Q e p xo k => k [] [] F H n (Step.refl e.sub) e.src .nil p
theorem sa_val (h : SimE K W te pe) (ht : SimA K W ta pa) : SimA K W (tCons te ta) (paVal pe pa) := fun so F H σ ρ n q x Q e p xo k =>
  h so F H σ ρ n _ x _ e p xo fun v d N H1 n1 s1 c1 r1 p1 => ht so N H1 σ ρ n1 _ x _ (e.step s1 c1) p1 (xo.step s1 e.src c1) fun vs ps M H2 n2 s2 c2 r2 p2 => k _ _ M H2 n2 (s1.trans s2 e.src c1) c2 (.cons (p := .val d) (show Rp K M v d from r1.mono s2.ex) r2) p2
theorem sa_src (i : Nat) (ht : SimA K W ta pa) : SimA K W (tCons (tVar i) ta) (paSrc i pa) := fun so F H σ ρ n q x Q e p xo k => by
  unfold paSrc at p
  split at p
  case h_1 hd =>
    obtain ⟨o, h1, sa, rfl, hs⟩ := e.sl i _ hd
    exact ⟨_, h1, ht so F H σ ρ n _ x _ e p xo fun vs ps M H2 n2 s2 c2 r2 p2 => k _ _ M H2 n2 s2 c2 (.cons (p := .src) (show ∃ sb, V.ref sa = .ref sb ∧ so = some sb from ⟨sa, rfl, hs⟩) r2) p2⟩
  case h_2 => exact p.elim
theorem se_call0 {psp : PSp} (h : SimA K W ta pa) : SimE K W (tCall (lift K psp) [] E0 ta) (pCall0 psp pa) := fun so F H σ ρ n q x Q e p xo k =>
  h so F H σ ρ n _ x _ e p xo fun vs ps N H1 n1 s1 c1 r1 p1 => by
    show lift K psp (vs ++ []) H1 Q E0
    rw [List.append_nil]
    exact ⟨so, N, ps, n1, q, noX, s1.sub, c1, s1.nsr e.nsr e.src, r1, p1, KE.step k s1 e.src c1, fun _ _ _ _ _ _ _ _ _ z => z.elim⟩
theorem se_call {psp : PSp} {E : XK} (hE : ∀ cls dd σ H, W cls dd σ H → E cls dd H) (h : SimA K W ta pa) : SimE K W (tCall (lift K psp) [] E ta) (pCall psp pa) := fun so F H σ ρ n q x Q e p xo k =>
  h so F H σ ρ n _ x _ e p xo fun vs ps N H1 n1 s1 c1 r1 p1 => by
    show lift K psp (vs ++ []) H1 Q E
    rw [List.append_nil]
    exact ⟨so, N, ps, n1, q, x, s1.sub, c1, s1.nsr e.nsr e.src, r1, p1, KE.step k s1 e.src c1, fun cls dd fs M H2 n2 s2 c2 r z => hE cls dd σ H2 (xo cls dd fs M H2 n2 (s1.trans s2 e.src c1) c2 r z)⟩
end
/-! statements -/
structure PEnds where
  nx : List PV → Nat → Prop
  rt : D → Nat → Prop
  xc : PX
  bk : List PV → Nat → Prop
  ct : List PV → Nat → Prop
abbrev PSt := PEnds → List PV → Nat → Prop
structure Rel (K : PySem.W.Frag) (Fb F0 H0 : Hp) (so0 so : Option Addr) (F H : Hp) (σ : L2.St) (ρ : List PV) (n : Nat) : Prop where
  en : En K so F H σ ρ n
  bs : Ex Fb F
  grow : Ex F0 F
  keep : Keep so0 H0 H
  new : ∀ a, H0 a ≠ none → F a = F0 a
  so_ : so = so0 ∨ (so0 = none ∧ ∃ sa, so = some sa ∧ H0 sa = none)
  own : ∀ (i : Nat) (d : D) (p : Addr), ρ[i]? = some (.own d) → σ[i]? = some (some (.ref p)) → H0 p = none
  dis : ∀ (i j : Nat) (d d' : D) (p : Addr), i ≠ j → ρ[i]? = some (.own d) → ρ[j]? = some (.own d') → σ[i]? = some (some (.ref p)) → σ[j]? ≠ some (some (.ref p))
  scr : ∀ (i : Nat) (ns : List Int) (a : Addr), ρ[i]? = some (.scr ns) → σ[i]? = some (some (.ref a)) → SqL K H0 a (ns.map V.int) ∧ so0 = none
structure Cont (K : PySem.W.Frag) (Fb F0 H0 : Hp) (so0 : Option Addr) (W : WX') (D : Ends) (E : PEnds) : Prop where
  nx : ∀ so N H σ ρ n, Rel K Fb F0 H0 so0 so N H σ ρ n → E.nx ρ n → D.nx σ H
  rt : ∀ v d N H n, Step so0 F0 H0 N H → SrcN so0 H n → Rp K N v d → E.rt d n → D.rt v H
  xc : ∀ so N H σ ρ n cls dd fs, Rel K Fb F0 H0 so0 so N H σ ρ n → XRp K N H dd fs → E.xc cls fs n → W cls dd σ H
  bk : ∀ so N H σ ρ n, Rel K Fb F0 H0 so0 so N H σ ρ n → E.bk ρ n → D.bk σ H
  ct : ∀ so N H σ ρ n, Rel K Fb F0 H0 so0 so N H σ ρ n → E.ct ρ n → D.ct σ H
def SimS (K : PySem.W.Frag) (W : WX') (ts : TS) (ps : PSt) : Prop := ∀ Fb F0 H0 so0 so F H σ ρ n D E, Rel K Fb F0 H0 so0 so F H σ ρ n → ps E ρ n → Cont K Fb F0 H0 so0 W D E → ts D σ H
section
variable {K : PySem.W.Frag} {W : WX'} {Fb F0 H0 F H N H' : Hp} {so0 so : Option Addr} {σ σ' : L2.St} {ρ ρ' : List PV} {n n' : Nat} {D' : Ends} {E : PEnds}
theorem Rel.soNe (r : Rel K Fb F0 H0 so0 so F H σ ρ n) {a : Addr} {o : HO} (h : H0 a = some o) (hs : so0 ≠ some a) : so ≠ some a := by
  rcases r.so_ with e | ⟨_, sa, e, h2⟩
  · rw [e]
    exact hs
  · rw [e]
    intro z
    cases z
    rw [h] at h2
    cases h2
theorem Rel.live (r : Rel K Fb F0 H0 so0 so F H σ ρ n) {a : Addr} (h : H0 a ≠ none) : H a ≠ none := by
  cases e : H0 a with
  | none => exact absurd e h
  | some o =>
    by_cases hs : so0 = some a
    · rcases r.so_ with e2 | ⟨e2, _⟩
      · obtain ⟨_, _, _, h1, _⟩ := r.en.src a (by rw [e2]; exact hs)
        rw [h1]
        exact fun z => by cases z
      · rw [e2] at hs
        cases hs
    · rw [r.keep a o hs e]
      exact fun z => by cases z
theorem Rel.dead (r : Rel K Fb F0 H0 so0 so F H σ ρ n) {a : Addr} (h : H a = none) : H0 a = none := by
  cases e : H0 a with
  | none => rfl
  | some o => exact absurd h (r.live (by rw [e]; exact fun z => by cases z))
theorem Rel.step (r : Rel K Fb F0 H0 so0 so F H σ ρ n) (s : Step so F H N H') (c : SrcN so H' n') : Rel K Fb F0 H0 so0 so N H' σ ρ n' :=
  { en := r.en.step s c, bs := r.bs.trans s.ex, grow := r.grow.trans s.ex, keep := fun a o hs h => s.keep a o (r.soNe h hs) (r.keep a o hs h),
    new := fun a h => by rw [s.new a (r.live h)]; exact r.new a h, so_ := r.so_, own := r.own, dis := r.dis, scr := r.scr }
theorem Rel.st0 (r : Rel K Fb F0 H0 so0 so F H σ ρ n) : Step so0 F0 H0 F H := ⟨r.en.sub, r.grow, r.keep, r.new⟩
theorem Rel.src0 (r : Rel K Fb F0 H0 so0 so F H σ ρ n) : SrcN so0 H n := by
  rcases r.so_ with e | ⟨e, _⟩
  · rw [← e]
    exact r.en.src
  · intro sa z
    rw [e] at z
    cases z
theorem Rel.xo (r : Rel K Fb F0 H0 so0 so F H σ ρ n) (k : Cont K Fb F0 H0 so0 W D' E) : XOk K W so F H σ E.xc := fun cls dd fs N H' n' s c x z => k.xc so N H' σ ρ n' cls dd fs (r.step s c) x z
/-- slots set to data -/
theorem Rel.off (r : Rel K Fb F0 H0 so0 so F H σ ρ n) {js : List Nat} (e : En K so F H σ' ρ' n) (o : Off js σ σ' ρ ρ') : Rel K Fb F0 H0 so0 so F H σ' ρ' n :=
  { r with
    en := e
    own := fun i d p h1 h2 => by
      rcases o.2.2 i _ h1 with ⟨_, z⟩ | ⟨z1, z2⟩
      · cases z
      · exact r.own i d p z1 (by rw [← z2]; exact h2)
    dis := fun i j d d' p hij h1 h2 h3 => by
      rcases o.2.2 i _ h1 with ⟨_, z⟩ | ⟨z1, z2⟩
      · cases z
      · rcases o.2.2 j _ h2 with ⟨_, z⟩ | ⟨z3, z4⟩
        · cases z
        · rw [z4]
          exact r.dis i j d d' p hij z1 z3 (by rw [← z2]; exact h3)
    scr := fun i ns a h1 h2 => by
      rcases o.2.2 i _ h1 with ⟨_, z⟩ | ⟨z1, z2⟩
      · cases z
      · exact r.scr i ns a z1 (by rw [← z2]; exact h2) }
theorem get_set {α : Type} {l : List α} {i j : Nat} {x y : α} (h : (l.set i x)[j]? = some y) : (i = j ∧ y = x ∧ i < l.length) ∨ (i ≠ j ∧ l[j]? = some y) := by
  rw [List.getElem?_set] at h
  by_cases c : i = j
  · rw [if_pos c] at h
    split at h
    · cases h
      exact .inl ⟨c, rfl, by assumption⟩
    · cases h
  · rw [if_neg c] at h
    exact .inr ⟨c, h⟩
/-- a new object for a slot -/
theorem Rel.setOwn (r : Rel K Fb F0 H0 so0 so F H σ ρ n) {p : Addr} {u : HO} {d : D} {i : Nat} (h0 : H0 p = none) (hn : F p = none) (hp : H p = some u) (hs : so ≠ some p) (ro : Ro K F u d) (fr : ∀ (j : Nat) (d : D), ρ[j]? = some (.own d) → σ[j]? ≠ some (some (.ref p))) :
    Rel K Fb F0 H0 so0 so F H (σ.set i (some (.ref p))) (ρ.set i (.own d)) n :=
  { r with
    en := ⟨r.en.sub, r.en.src, r.en.nsr, by rw [List.length_set, List.length_set]; exact r.en.len, fun j pv h => by
      rcases get_set h with ⟨rfl, rfl, hl⟩ | ⟨hne, h⟩
      · exact ⟨some (.ref p), by rw [List.getElem?_set, if_pos rfl, if_pos (by rw [r.en.len]; exact hl)], p, u, rfl, hp, ro, hn, hs⟩
      · obtain ⟨o, h1, h2⟩ := r.en.sl j pv h
        exact ⟨o, by rw [List.getElem?_set, if_neg hne]; exact h1, h2⟩⟩
    own := fun j d' p' h1 h2 => by
      rcases get_set h1 with ⟨rfl, _, hl⟩ | ⟨hne, h⟩
      · rw [List.getElem?_set, if_pos rfl, if_pos (by rw [r.en.len]; exact hl)] at h2
        cases h2
        exact h0
      · rw [List.getElem?_set, if_neg hne] at h2
        exact r.own j d' p' h h2
    dis := fun j k d1 d2 p' hjk h1 h2 h3 => by
      rcases get_set h1 with ⟨rfl, _, hl⟩ | ⟨hne, h⟩
      · rw [List.getElem?_set, if_pos rfl, if_pos (by rw [r.en.len]; exact hl)] at h3
        cases h3
        rcases get_set h2 with ⟨e, _⟩ | ⟨hne2, h2⟩
        · exact absurd e hjk
        · rw [List.getElem?_set, if_neg hne2]
          exact fr k d2 h2
      · rw [List.getElem?_set, if_neg hne] at h3
        rcases get_set h2 with ⟨rfl, _, hl⟩ | ⟨hne2, h2⟩
        · rw [List.getElem?_set, if_pos rfl, if_pos (by rw [r.en.len]; exact hl)]
          intro z
          cases z
          exact fr j d1 h h3
        · rw [List.getElem?_set, if_neg hne2]
          exact r.dis j k d1 d2 p' hjk h h2 h3
    scr := fun j ns a h1 h2 => by
      rcases get_set h1 with ⟨_, z, _⟩ | ⟨hne, h⟩
      · cases z
      · rw [List.getElem?_set, if_neg hne] at h2
        exact r.scr j ns a h h2 }
/-- an own object changed -/
theorem Rel.mut (r : Rel K Fb F0 H0 so0 so F H σ ρ n) {p : Addr} {u : HO} {d d0 : D} {i : Nat} (hi : ρ[i]? = some (.own d0)) (hp : σ[i]? = some (some (.ref p))) (ro : Ro K F u d) : Rel K Fb F0 H0 so0 so F (upd H p u) σ (ρ.set i (.own d)) n := by
  have h0 := r.own i d0 p hi hp
  obtain ⟨o, e1, p', u', e2, hH, _, hF, hs⟩ := r.en.sl i _ hi
  rw [hp] at e1
  cases e1
  cases e2
  have il : i < ρ.length := (List.getElem?_eq_some_iff.mp hi).1
  refine { r with en := ⟨r.en.sub.beside hF, r.en.src.beside hs, r.en.nsr, by rw [List.length_set]; exact r.en.len, fun j pv h => ?_⟩, keep := fun a o ns h => by rw [upd_ne (ne_of_none h h0)]; exact r.keep a o ns h, own := fun j d' p' h1 h2 => ?_, dis := fun j k d1 d2 p' hjk h1 h2 h3 => ?_, scr := fun j ns a h1 h2 => ?_ }
  · rcases get_set h with ⟨rfl, rfl, _⟩ | ⟨hne, h⟩
    · exact ⟨_, hp, p, u, rfl, upd_same, ro, hF, hs⟩
    · obtain ⟨o, h1, h2⟩ := r.en.sl j pv h
      refine ⟨o, h1, ?_⟩
      cases pv with
      | un => trivial
      | val d => exact h2
      | own d2 =>
        obtain ⟨p2, u2, rfl, g1, g2, g3, g4⟩ := h2
        have : p2 ≠ p := fun z => by
          subst z
          exact r.dis i j d0 d2 p2 hne hi h hp h1
        exact ⟨p2, u2, rfl, by rw [upd_ne this]; exact g1, g2, g3, g4⟩
      | src => exact h2
      | me p => exact h2
      | scr ns =>
        obtain ⟨a, rfl, g1, g2⟩ := h2
        obtain ⟨g3, g4⟩ := r.scr j ns a h h1
        refine ⟨a, rfl, ?_, g2⟩
        exact sq_keep (so := so0) (fun b o ns hb => by rw [upd_ne (ne_of_none hb h0)]; exact r.keep b o ns hb) (by rw [g4]; simp) g3
  · rcases get_set h1 with ⟨rfl, _, _⟩ | ⟨hne, h⟩
    · rw [hp] at h2
      cases h2
      exact h0
    · exact r.own j d' p' h h2
  · rcases get_set h1 with ⟨rfl, _, _⟩ | ⟨hne, h⟩
    · rcases get_set h2 with ⟨e, _⟩ | ⟨hne2, h2⟩
      · exact absurd e hjk
      · exact r.dis i k d0 d2 p' hne2 hi h2 h3
    · rcases get_set h2 with ⟨rfl, _, _⟩ | ⟨hne2, h2⟩
      · exact r.dis j i d1 d0 p' hjk h hi h3
      · exact r.dis j k d1 d2 p' hjk h h2 h3
  · rcases get_set h1 with ⟨_, z, _⟩ | ⟨hne, h⟩
    · cases z
    · exact r.scr j ns a h h2

/-! statements, one by one -/
def pNext : PSt := fun E ρ n => E.nx ρ n
def pSeq (p r : PSt) : PSt := fun E ρ n => p { E with nx := fun ρ n => r E ρ n } ρ n
def pRet (pe : PEx) : PSt := fun E ρ n => pe ρ n E.rt E.xc
def pRetN : PSt := fun E ρ n => E.rt .non n
def pRetB (i : Nat) : PSt := fun E ρ n => match ρ[i]? with
  | some (.val d) => E.rt d n
  | some (.own d) => E.rt d n
  | _ => False
def pIfS (pt : PTx) (p r : PSt) : PSt := fun E ρ n => pt ρ n (fun b n1 => if b = true then p E ρ n1 else r E ρ n1) E.xc
def pAsg (pe : PEx) (pg : PGx) : PSt := fun E ρ n => pe ρ n (fun d n1 => pg d ρ fun ρ' => E.nx ρ' n1) E.xc
def pAsgF (pe : PEx) (i : Nat) : PSt := fun E ρ n => pe ρ n (fun d n1 => E.nx (ρ.set i (.own d)) n1) E.xc
def pDrop (pe : PEx) : PSt := fun E ρ n => pe ρ n (fun _ n1 => E.nx ρ n1) E.xc
def pNever : PSt := fun _ _ _ => False
variable {ts tu : TS} {ps pu : PSt} {te : TE} {pe : PEx} {tt : TT} {pt : PTx} {g : L2.TG} {pg : PGx} {js : List Nat}
theorem ss_next : SimS K W tNext pNext := fun Fb F0 H0 so0 so F H σ ρ n D E r p k => k.nx so F H σ ρ n r p
theorem ss_never : SimS K W tNever pNever := fun Fb F0 H0 so0 so F H σ ρ n D E r p k => p.elim
theorem ss_seq (h1 : SimS K W ts ps) (h2 : SimS K W tu pu) : SimS K W (tSeq ts tu) (pSeq ps pu) := fun Fb F0 H0 so0 so F H σ ρ n D E r p k =>
  h1 Fb F0 H0 so0 so F H σ ρ n _ _ r p ⟨fun so N H σ ρ n r p => h2 Fb F0 H0 so0 so N H σ ρ n D E r p k, k.rt, k.xc, k.bk, k.ct⟩
theorem ss_ret (h : SimE K W te pe) : SimS K W (tRet te) (pRet pe) := fun Fb F0 H0 so0 so F H σ ρ n D E r p k =>
  h so F H σ ρ n _ _ _ r.en p (r.xo k) fun v d N H1 n1 s1 c1 rv z => k.rt v d N H1 n1 (r.step s1 c1).st0 (r.step s1 c1).src0 rv z
theorem ss_retN : SimS K W tRetN pRetN := fun Fb F0 H0 so0 so F H σ ρ n D E r p k => k.rt _ _ F H n r.st0 r.src0 .non p
theorem ss_retB (i : Nat) : SimS K W (tRet (tVar i)) (pRetB i) := fun Fb F0 H0 so0 so F H σ ρ n D E r p k => by
  unfold pRetB at p
  split at p
  case h_1 d hd =>
    obtain ⟨o, h1, v, rfl, rv⟩ := r.en.sl i _ hd
    exact ⟨v, h1, k.rt v d F H n r.st0 r.src0 rv p⟩
  case h_2 d hd =>
    obtain ⟨o, h1, a, u, rfl, h2, h3, h4, h5⟩ := r.en.sl i _ hd
    have h0 := r.own i d a hd h1
    have e1 : Ex F (upd F a u) := Ex.new h4
    refine ⟨_, h1, k.rt _ d (upd F a u) H n ⟨fun b o hb => ?_, r.grow.trans e1, r.keep, fun b hb => ?_⟩ r.src0 (h3.rp e1 upd_same) p⟩
    · by_cases q : b = a
      · subst q
        rw [upd_same] at hb
        cases hb
        exact .inl h2
      · rw [upd_ne q] at hb
        exact r.en.sub b o hb
    · rw [upd_ne fun z => hb (by rw [z]; exact h0)]
      exact r.new b hb
  case h_3 => exact p.elim
theorem ss_if (h : SimT K W tt pt) (h1 : SimS K W ts ps) (h2 : SimS K W tu pu) : SimS K W (tIfS tt ts tu) (pIfS pt ps pu) := fun Fb F0 H0 so0 so F H σ ρ n D E r p k =>
  h so F H σ ρ n _ _ _ r.en p (r.xo k) fun b N H1 n1 s1 c1 z => by
    cases b with
    | true =>
      rw [if_pos rfl] at z ⊢
      exact h1 Fb F0 H0 so0 so N H1 σ ρ n1 D E (r.step s1 c1) z k
    | false =>
      rw [if_neg Bool.false_ne_true] at z ⊢
      exact h2 Fb F0 H0 so0 so N H1 σ ρ n1 D E (r.step s1 c1) z k
theorem ss_asg (h : SimE K W te pe) (hg : SimG K js g pg) : SimS K W (tAsg te g) (pAsg pe pg) := fun Fb F0 H0 so0 so F H σ ρ n D E r p k =>
  h so F H σ ρ n _ _ _ r.en p (r.xo k) fun v d N H1 n1 s1 c1 rv z => hg so N H1 v d σ ρ n1 _ _ (r.step s1 c1).en rv z fun σ' ρ' e o z2 => k.nx so N H1 σ' ρ' n1 ((r.step s1 c1).off e o) z2
theorem ss_asgF {i : Nat} (h : SimF K W te pe) : SimS K W (tAsg te (gName i)) (pAsgF pe i) := fun Fb F0 H0 so0 so F H σ ρ n D E r p k =>
  h so F H σ ρ n _ _ _ r.en p (r.xo k) fun a u d N H1 n1 s1 c1 hH hN hH1 hs ro z => by
    have r1 := r.step s1 c1
    refine k.nx so N H1 _ _ n1 (r1.setOwn (r.dead hH) hN hH1 hs ro fun j dj hj hz => ?_) z
    obtain ⟨o, e1, p', u', e2, h5, _⟩ := r.en.sl j _ hj
    rw [hz] at e1
    cases e1
    cases e2
    rw [hH] at h5
    cases h5
theorem ss_drop (h : SimE K W te pe) : SimS K W (tDrop te) (pDrop pe) := fun Fb F0 H0 so0 so F H σ ρ n D E r p k =>
  h so F H σ ρ n _ _ _ r.en p (r.xo k) fun v d N H1 n1 s1 c1 rv z => k.nx so N H1 σ ρ n1 (r.step s1 c1) z
def loopP (pg : PGx) (pb : PSt) (E : PEnds) : List D → List PV → Nat → Prop
  | [], ρ, n => E.nx ρ n
  | d :: ds, ρ, n => pg d ρ fun ρ' => pb { E with nx := loopP pg pb E ds, ct := loopP pg pb E ds, bk := E.nx } ρ' n
def pFor (pi : PIx) (pg : PGx) (pb : PSt) : PSt := fun E ρ n => pi ρ n (fun ds n1 => loopP pg pb E ds ρ n1) E.xc
theorem ss_for {wi : TI} {pi : PIx} (hi : SimJ K W wi pi) (hg : SimG K js g pg) (hb : SimS K W ts ps) : SimS K W (tFor wi g ts) (pFor pi pg ps) := fun Fb F0 H0 so0 so F H σ ρ n D E r p k =>
  hi so F H σ ρ n _ _ _ r.en p (r.xo k) fun J ds G N1 H1 n1 s1 c1 w gk p1 => by
    have wk : Walk J ds.length G (fun i H x H' => J.yld i H x H') := ⟨w.goes, w.stops, fun _ _ _ _ _ _ y => y⟩
    have r1 := r.step s1 c1
    have soK : ∀ {so' : Option Addr} {N' H' : Hp} {σ' : L2.St} {ρ' : List PV} {n' : Nat}, Rel K N1 F0 H0 so0 so' N' H' σ' ρ' n' → Rel K Fb F0 H0 so0 so' N' H' σ' ρ' n' := fun r' => { r' with bs := r1.bs.trans r'.bs }
    refine for_it wk (fun i σ' H' => ∃ so' N' ρ' n', Rel K N1 F0 H0 so0 so' N' H' σ' ρ' n' ∧ loopP pg ps E (ds.drop i) ρ' n') ⟨so, N1, ρ, n1, { r1 with bs := Ex.refl N1 }, p1⟩ (fun i σ' H' _ ⟨so', N', ρ', n', r', _⟩ => gk N' H' r'.bs r'.en.sub) (fun i x σ' H' H2 hi2 ⟨so', N', ρ', n', r', p'⟩ y => ?_) (fun σ' H' ⟨so', N', ρ', n', r', p'⟩ => ?_)
    · obtain ⟨d, hd, ed⟩ := drop_at hi2
      rw [ed] at p'
      obtain ⟨N2, s2', r2⟩ := w.yields i H' x H2 N' d hd (gk N' H' r'.bs r'.en.sub) r'.bs r'.en.sub y
      have r3 := r'.step (s2'.any (so := so')) (s2'.srcN r'.en.src)
      refine hg so' N2 H2 x d σ' ρ' n' _ _ r3.en r2 p' fun σ2 ρ2 e2 o2 p2 => hb N1 F0 H0 so0 so' N2 H2 σ2 ρ2 n' _ _ (r3.off e2 o2) p2 ⟨?_, k.rt, ?_, ?_, ?_⟩
      · exact fun so4 N4 H4 σ4 ρ4 n4 r4 p4 => ⟨so4, N4, ρ4, n4, r4, p4⟩
      · exact fun so4 N4 H4 σ4 ρ4 n4 cls dd fs r4 x4 p4 => k.xc so4 N4 H4 σ4 ρ4 n4 cls dd fs (soK r4) x4 p4
      · exact fun so4 N4 H4 σ4 ρ4 n4 r4 p4 => k.nx so4 N4 H4 σ4 ρ4 n4 (soK r4) p4
      · exact fun so4 N4 H4 σ4 ρ4 n4 r4 p4 => ⟨so4, N4, ρ4, n4, r4, p4⟩
    · rw [List.drop_of_length_le (Nat.le_refl _)] at p'
      exact k.nx so' N' H' σ' ρ' n' (soK r') p'
/-- while: W by a measure, the slots, the draws -/
def pWhile (pt : PTx) (pb : PSt) : PSt := fun E ρ n => ∃ Wp : Nat → List PV → Nat → Prop, (∃ m, Wp m ρ n) ∧ ∀ m ρ n, Wp m ρ n → pt ρ n (fun b n1 => if b = true then pb { E with nx := fun ρ n => ∃ m', m' < m ∧ Wp m' ρ n, ct := fun ρ n => ∃ m', m' < m ∧ Wp m' ρ n, bk := E.nx } ρ n1 else E.nx ρ n1) E.xc
theorem ss_while (h : SimT K W tt pt) (hb : SimS K W ts ps) : SimS K W (tWhile tt ts) (pWhile pt ps) := fun Fb F0 H0 so0 so F H σ ρ n D E r ⟨Wp, ⟨m, w0⟩, turn⟩ k =>
  ⟨fun m σ' H' => ∃ so' N' ρ' n', Rel K Fb F0 H0 so0 so' N' H' σ' ρ' n' ∧ Wp m ρ' n', ⟨m, so, F, ρ, n, r, w0⟩, fun m σ' H' ⟨so', N', ρ', n', r', w'⟩ =>
    h so' N' H' σ' ρ' n' _ _ _ r'.en (turn m ρ' n' w') (r'.xo k) fun b N2 H2 n2 s2 c2 p2 => by
      have r2 := r'.step s2 c2
      cases b with
      | true =>
        rw [if_pos rfl] at p2 ⊢
        refine ⟨fun σ4 H4 => ∃ m', m' < m ∧ ∃ so4 N4 ρ4 n4, Rel K Fb F0 H0 so0 so4 N4 H4 σ4 ρ4 n4 ∧ Wp m' ρ4 n4, fun σ4 H4 z => z, hb Fb F0 H0 so0 so' N2 H2 σ' ρ' n2 _ _ r2 p2 ⟨?_, k.rt, k.xc, k.nx, ?_⟩⟩
        · exact fun so4 N4 H4 σ4 ρ4 n4 r4 ⟨m', hm, p4⟩ => ⟨m', hm, so4, N4, ρ4, n4, r4, p4⟩
        · exact fun so4 N4 H4 σ4 ρ4 n4 r4 ⟨m', hm, p4⟩ => ⟨m', hm, so4, N4, ρ4, n4, r4, p4⟩
      | false =>
        rw [if_neg Bool.false_ne_true] at p2 ⊢
        exact k.nx so' N2 H2 σ' ρ' n2 r2 p2⟩
/-- x op= e of whole numbers -/
def pAug (i : Nat) (f : Int → Int → Int) (pe : PEx) : PSt := fun E ρ n => match ρ[i]? with
  | some (.val (.int a)) => pe ρ n (fun d n1 => match d with | .int b => E.nx (ρ.set i (.val (.int (f a b)))) n1 | _ => False) E.xc
  | _ => False
theorem ss_aug {i : Nat} {f : Int → Int → Int} (h : SimE K W te pe) : SimS K W (tAug i te (ipI f)) (pAug i f pe) := fun Fb F0 H0 so0 so F H σ ρ n D E r p k => by
  unfold pAug at p
  split at p
  case h_1 a ha =>
    obtain ⟨o, h1, v, rfl, rv⟩ := r.en.sl i _ ha
    cases rv
    refine ⟨_, h1, h so F H σ ρ n _ _ _ r.en p (r.xo k) fun v d N H1 n1 s1 c1 rv z => ?_⟩
    cases rv with
    | int b =>
      have r1 := r.step s1 c1
      refine ⟨a, b, rfl, rfl, sg_name i so N H1 (.int (f a b)) (.int (f a b)) σ ρ n1 (fun ρ' => E.nx ρ' n1) _ r1.en (.int _) z fun σ' ρ' e o z2 => k.nx so N H1 σ' ρ' n1 (r1.off e o) z2⟩
    | _ => exact z.elim
  case h_2 => exact p.elim
/-- found.append(e) -/
def pApp (i : Nat) (pe : PEx) : PSt := fun E ρ n => match ρ[i]? with
  | some (.own (.lst l)) => l.length < 100000 ∧ pe ρ n (fun d n1 => E.nx (ρ.set i (.own (.lst (l ++ [d])))) n1) E.xc
  | _ => False
theorem ss_app {i : Nat} (h : SimE K W te pe) : SimS K W (tDrop (tBM K "list" rAppend (tVar i) (tCons te tNil))) (pApp i pe) := fun Fb F0 H0 so0 so F H σ ρ n D E r p k => by
  unfold pApp at p
  split at p
  case h_1 l hl =>
    obtain ⟨o, h1, a, u, rfl, h2, h3, h4, h5⟩ := r.en.sl i _ hl
    cases h3 with
    | lst t =>
      refine ⟨_, h1, .inl ⟨rfl, _, sq_of h2⟩, h so F H σ ρ n _ _ _ r.en p.2 (r.xo k) fun v d N H1 n1 s1 c1 rv z => ⟨a, _, v, rfl, rfl, s1.keep a _ h5 h2, sz_lt (by rw [t.len]; exact p.1), ?_⟩⟩
      exact k.nx so N _ σ _ n1 ((r.step s1 c1).mut hl h1 (.lst ((t.mono s1.ex).snoc rv))) z
  case h_2 => exact p.elim
/-- found.extend(e) -/
def pExt (i : Nat) (pe : PEx) : PSt := fun E ρ n => match ρ[i]? with
  | some (.own (.lst l)) => pe ρ n (fun d n1 => match d with | .lst m => l.length + m.length ≤ 100000 ∧ E.nx (ρ.set i (.own (.lst (l ++ m)))) n1 | _ => False) E.xc
  | _ => False
theorem ss_ext {i : Nat} (h : SimE K W te pe) : SimS K W (tDrop (tBM K "list" rExtend (tVar i) (tCons te tNil))) (pExt i pe) := fun Fb F0 H0 so0 so F H σ ρ n D E r p k => by
  unfold pExt at p
  split at p
  case h_1 l hl =>
    obtain ⟨o, h1, a, u, rfl, h2, h3, h4, h5⟩ := r.en.sl i _ hl
    cases h3 with
    | lst t =>
      refine ⟨_, h1, .inl ⟨rfl, _, sq_of h2⟩, h so F H σ ρ n _ _ _ r.en p (r.xo k) fun v d N H1 n1 s1 c1 rv z => ?_⟩
      cases d with
      | lst m =>
        obtain ⟨b, ys, rfl, hb, rb⟩ := Bw.lst (so := so) (.inl rv) s1.sub
        refine ⟨a, b, _, ys, rfl, rfl, s1.keep a _ h5 h2, hb, sz_of (by rw [t.len, rb.len]; exact z.1), ?_⟩
        exact k.nx so N _ σ _ n1 ((r.step s1 c1).mut hl h1 (.lst ((t.mono s1.ex).append rb))) z.2
      | _ => exact z.elim
  case h_2 => exact p.elim
/-- a def's body -/
theorem ags_scr {vs : List V} {ps : List PV} (h : Ags K so F H vs ps) : ∀ (i : Nat) (ns : List Int), ps[i]? = some (.scr ns) → so = none := by
  induction h with
  | nil => intro i pv e; simp at e
  | @cons v vs p ps h t ih =>
    intro i ns e
    cases i with
    | zero =>
      simp at e
      subst e
      obtain ⟨_, _, _, z⟩ := h
      exact z
    | succ i => exact ih i ns (by simpa using e)
theorem ags_sl {vs : List V} {ps : List PV} (h : Ags K so F H vs ps) : ∀ (i : Nat) (pv : PV), ps[i]? = some pv → ∃ v, vs[i]? = some v ∧ Sl K so F H (some v) pv ∧ (∀ d, pv ≠ .own d) := by
  induction h with
  | nil => intro i pv e; simp at e
  | @cons v vs p ps h t ih =>
    intro i pv e
    cases i with
    | zero =>
      simp at e
      subst e
      refine ⟨v, rfl, ?_, fun d z => by subst z; exact h⟩
      cases p with
      | un => exact h.elim
      | val d => exact ⟨v, rfl, h⟩
      | own d => exact h.elim
      | me p => exact (congrArg some h : some v = some (V.ref p))
      | src =>
        obtain ⟨sa, e1, e2⟩ := h
        exact ⟨sa, by rw [e1], e2⟩
      | scr ns =>
        obtain ⟨a, e1, e2, e3⟩ := h
        exact ⟨a, by rw [e1], e2, .inl (by rw [e3]; simp)⟩
    | succ i => exact ih i pv (by simpa using e)
theorem Ags.len {vs : List V} {ps : List PV} (h : Ags K so F H vs ps) : vs.length = ps.length := by
  induction h with
  | nil => rfl
  | cons _ _ ih => rw [List.length_cons, List.length_cons, ih]
def noE : List PV → Nat → Prop := fun _ _ => False
theorem fn_sim {psp : PSp} {Ns : List Str} {vs : List V} {Q : VK} {E : XK} {m : Nat} (hl : lift K psp vs H Q E) (hs : SimS K W ts ps) (hW : ∀ cls dd σ H, E cls dd H → W cls dd σ H) (hm : Ns.length - vs.length = m)
    (hp : ∀ args n q x, psp args n q x → args.length = vs.length → ps ⟨fun _ n => q .non n, q, x, noE, noE⟩ (args ++ List.replicate m .un) n) : ts { nx := fun _ H' => Q .non H', rt := Q } (L2.start Ns vs) H := by
  obtain ⟨so, F, as, n, q, x, s, c, ns, ag, p, k, kx⟩ := hl
  have hal := ag.len
  have at' : ∀ (i : Nat) (pv : PV), (as ++ List.replicate m PV.un)[i]? = some pv → (∃ v, vs[i]? = some v ∧ (L2.start Ns vs)[i]? = some (some v) ∧ Sl K so F H (some v) pv ∧ as[i]? = some pv ∧ ∀ d, pv ≠ .own d) ∨ (pv = .un ∧ ∃ o, (L2.start Ns vs)[i]? = some o) := fun i pv e => by
    by_cases hi : i < as.length
    · rw [List.getElem?_append_left hi] at e
      obtain ⟨v, h1, h2, h3⟩ := ags_sl ag i pv e
      refine .inl ⟨v, h1, ?_, h2, e, h3⟩
      unfold L2.start
      rw [List.getElem?_append_left (by rw [List.length_map, hal]; exact hi), List.getElem?_map, h1]
      rfl
    · rw [List.getElem?_append_right (by omega), List.getElem?_replicate] at e
      split at e
      · cases e
        refine .inr ⟨rfl, none, ?_⟩
        unfold L2.start
        rw [List.getElem?_append_right (by rw [List.length_map, hal]; omega), List.getElem?_replicate, List.length_map, if_pos (by omega)]
      · cases e
  have r : Rel K F F H so so F H (L2.start Ns vs) (as ++ List.replicate m .un) n := {
    en := ⟨s, c, ns, by
        unfold L2.start
        rw [List.length_append, List.length_append, List.length_map, List.length_replicate, List.length_replicate, hal, ← hm, hal], fun i pv e => by
        rcases at' i pv e with ⟨v, _, h1, h2, _⟩ | ⟨rfl, o, h1⟩
        · exact ⟨_, h1, h2⟩
        · exact ⟨o, h1, trivial⟩⟩
    bs := Ex.refl F, grow := Ex.refl F, keep := Keep.refl so H, new := fun _ _ => rfl, so_ := .inl rfl
    own := fun i d p h1 _ => by
      rcases at' i _ h1 with ⟨_, _, _, _, _, h⟩ | ⟨h, _⟩
      · exact absurd rfl (h d)
      · cases h
    dis := fun i j d d' p _ h1 _ _ => by
      rcases at' i _ h1 with ⟨_, _, _, _, _, h⟩ | ⟨h, _⟩
      · exact absurd rfl (h d)
      · cases h
    scr := fun i ns' a h1 h2 => by
      rcases at' i _ h1 with ⟨v, _, h3, ⟨b, e, h4, h5⟩, h6, _⟩ | ⟨h, _⟩
      · rw [h3] at h2
        cases h2
        cases e
        exact ⟨h4, ags_scr ag i ns' h6⟩
      · cases h }
  refine hs F F H so so F H _ _ n _ _ r (hp as n q x p hal.symm) ⟨fun so' N H' σ' ρ' n' r' z => k _ _ N H' n' r'.st0 r'.src0 .non z, fun v d N H' n' s' c' rv z => k v d N H' n' s' c' rv z, fun so' N H' σ' ρ' n' cls dd fs r' xr z => hW cls dd σ' H' (kx cls dd fs N H' n' r'.st0 r'.src0 xr z), fun _ _ _ _ _ _ _ z => z.elim, fun _ _ _ _ _ _ _ z => z.elim⟩
end
end G39

namespace G39
open PySem PySem.Spec PyProof.Rows L2 Evl
section
variable {K : PySem.W.Frag} {W : WX'} {te ta tb to : TE} {pe pa pb po : PEx}
/-! types -/
def tyD : D → Option String
  | .non => some "NoneType"
  | .bl _ => some "bool"
  | .int _ => some "int"
  | .str _ => some "str"
  | .tup _ => some "tuple"
  | .lst _ => some "list"
  | .dic _ => some "dict"
  | _ => none
theorem Bw.ty {so : Option Addr} {F H : Hp} {v : V} {d : D} {t : String} (h : Bw K so F H v d) (s : Sub F H) (e : tyD d = some t) : TyX K H v (.type t) := by
  cases d with
  | non => cases e; rw [h.non]; exact .base .non
  | bl b => cases e; rw [h.bl]; exact .base (.bl b)
  | int i => cases e; rw [h.int]; exact .base (.int i)
  | str x => cases e; rw [h.str]; exact .base (.str x)
  | tup l =>
    cases e
    cases h.tupF with
    | tup hf _ =>
      rcases s _ _ hf with z | ⟨z, _⟩
      · exact .base (.tup z)
      · exact z.elim
    | wtup hw _ =>
      obtain ⟨o, its, n, h1, h2, _⟩ := hw
      exact .kTuple h1 h2
  | lst l =>
    cases e
    obtain ⟨p, xs, rfl, h1, _⟩ := h.lst s
    exact .base (.lst h1)
  | dic l =>
    cases e
    obtain ⟨p, kvs, rfl, h1, _⟩ := h.dic s
    rcases h1 with h1 | ⟨o, h1⟩
    · exact .base (.dK h1)
    · exact .fDict h1
  | dct l => cases e
  | obj C l => cases e
  | kn P w ks => cases e
def tysOk : List String := ["str", "tuple", "list", "int", "bool", "dict"]
def isiT (t T : String) : Bool := (t == T) || (t == "bool" && T == "int")
theorem kit_all : ∀ t ∈ tys, ∀ T ∈ tysOk, kitB t T = some (isiT t T) := by decide +kernel
def isiD (T : String) (d : D) : Bool := match tyD d with
  | some t => isiT t T
  | none => false
theorem tyD_in {d : D} {t : String} (h : tyD d = some t) : t ∈ tys := by
  cases d <;> simp only [tyD] at h <;> cases h <;> decide
def gIsi (T : String) : D → PM D := fun d n q _ => (tyD d).isSome = true ∧ T ∈ tysOk ∧ q (.bl (isiD T d)) n
theorem se_isi {T : String} (h : SimB K W te pe) : SimE K W (tCB (rIsi K) (tCons te (tCons (tC (.ty T)) tNil))) (pUn (gIsi T) pe) := fun so F H σ ρ n q x Q e p xo k =>
  h so F H σ ρ n _ x _ e p xo fun v d N H1 n1 s1 c1 b1 ⟨h1, h2, p1⟩ => by
    obtain ⟨t, ht⟩ := Option.isSome_iff_exists.mp h1
    refine ⟨v, .ty T, _, _, isiT t T, rfl, .ty T, b1.ty s1.sub ht, kit_ty (kit_all t (tyD_in ht) T h2), k _ _ N H1 n1 s1 c1 (.bl _) ?_⟩
    unfold isiD at p1
    rw [ht] at p1
    exact p1
/-! texts -/
/-- the texts of a list -/
def strsD : List D → Option (List Str)
  | [] => some []
  | .str x :: l => (strsD l).map (x :: ·)
  | _ => none
theorem Rps.strs' {F : Hp} : ∀ {xs : List V} {ds : List D} {l : List Str}, Rps K F xs ds → strsD ds = some l → xs = l.map V.str
  | _, _, _, .nil, e => by simp only [strsD] at e; cases e; rfl
  | _, _, _, .cons h t, e => by
    unfold strsD at e
    split at e
    · rename_i z; cases z
    · rename_i b l z
      cases z
      obtain ⟨bs, e1, rfl⟩ := Option.map_eq_some_iff.mp e
      rw [Rps.strs' t e1, Bw.str (so := none) (H := F) (.inl h)]
      rfl
    · cases e
theorem strsD_map : ∀ l : List Str, strsD (l.map D.str) = some l
  | [] => rfl
  | x :: l => by simp [strsD, strsD_map l]
def SM (K : PySem.W.Frag) (r : V → List V → Hp → VK → Prop) (g : D → D → PM D) : Prop := ∀ so F H n vx vy a b q (x : PX) (Q : VK), Sub F H → SrcN so H n → Bw K so F H vx a → Bw K so F H vy b → g a b n q x → KE K so F H q Q → r vx [vy] H Q
def SMF (K : PySem.W.Frag) (r : V → List V → Hp → VK → Prop) (g : D → D → PM D) : Prop := ∀ so F H n vx vy a b q (x : PX) (Q : VK), Sub F H → SrcN so H n → Bw K so F H vx a → Bw K so F H vy b → g a b n q x → KF K so F H q Q → r vx [vy] H Q
def isS : D → Prop
  | .str _ => True
  | _ => False
def pMS (g : D → D → PM D) (pa pb : PEx) : PEx := fun ρ n q x => pa ρ n (fun a n1 => isS a ∧ pb ρ n1 (fun b n2 => g a b n2 q x) x) x
theorem Bw.isS {so : Option Addr} {F H : Hp} {v : V} {d : D} (h : Bw K so F H v d) (z : G39.isS d) : ∃ x, v = .str x ∧ d = .str x := by
  cases d with
  | str x => exact ⟨x, h.str, rfl⟩
  | _ => exact z.elim
theorem se_bmS {r : V → List V → Hp → VK → Prop} {g : D → D → PM D} (h : SM K r g) (ha : SimB K W ta pa) (hb : SimB K W tb pb) : SimE K W (tBM K "str" r ta (tCons tb tNil)) (pMS g pa pb) := fun so F H σ ρ n q x Q e p xo k =>
  ha so F H σ ρ n _ x _ e p xo fun v d N H1 n1 s1 c1 b1 ⟨z1, p1⟩ => by
    obtain ⟨y, rfl, rfl⟩ := b1.isS z1
    exact ⟨rfl, hb so N H1 σ ρ n1 _ x _ (e.step s1 c1) p1 (xo.step s1 e.src c1) fun v2 d2 M H2 n2 s2 c2 b2 p2 => h so M H2 n2 _ v2 _ d2 q x Q s2.sub c2 (b1.step s2) b2 p2 (KE.step k (s1.trans s2 e.src c1) e.src c2)⟩
theorem sf_bmS {r : V → List V → Hp → VK → Prop} {g : D → D → PM D} (h : SMF K r g) (ha : SimB K W ta pa) (hb : SimB K W tb pb) : SimF K W (tBM K "str" r ta (tCons tb tNil)) (pMS g pa pb) := fun so F H σ ρ n q x Q e p xo k =>
  ha so F H σ ρ n _ x _ e p xo fun v d N H1 n1 s1 c1 b1 ⟨z1, p1⟩ => by
    obtain ⟨y, rfl, rfl⟩ := b1.isS z1
    exact ⟨rfl, hb so N H1 σ ρ n1 _ x _ (e.step s1 c1) p1 (xo.step s1 e.src c1) fun v2 d2 M H2 n2 s2 c2 b2 p2 => h so M H2 n2 _ v2 _ d2 q x Q s2.sub c2 (b1.step s2) b2 p2 (KF.step k (s1.trans s2 e.src c1) e.src c2)⟩
theorem se_m1 {r : V → List V → Hp → VK → Prop} {g : D → D → PM D} (h : SM K r g) (ha : SimB K W ta pa) (hb : SimB K W tb pb) : SimE K W (tM1 r ta tb) (pMS g pa pb) := fun so F H σ ρ n q x Q e p xo k =>
  ha so F H σ ρ n _ x _ e p xo fun v d N H1 n1 s1 c1 b1 ⟨z1, p1⟩ => by
    obtain ⟨y, rfl, rfl⟩ := b1.isS z1
    exact ⟨⟨y, rfl⟩, hb so N H1 σ ρ n1 _ x _ (e.step s1 c1) p1 (xo.step s1 e.src c1) fun v2 d2 M H2 n2 s2 c2 b2 p2 => h so M H2 n2 _ v2 _ d2 q x Q s2.sub c2 (b1.step s2) b2 p2 (KE.step k (s1.trans s2 e.src c1) e.src c2)⟩
def gJoin : D → D → PM D
  | .str s, d => fun n q _ => ∃ l ys, itemsD d = some l ∧ strsD l = some ys ∧ (ys.map (·.length)).sum + ys.length * s.length ≤ 16777216 ∧ q (.str (Str.join s ys)) n
  | _, _ => fun _ _ _ => False
theorem tjoin (a : Str) (ys : List Str) : Txt.join a ys = Str.join a ys := by
  unfold Txt.join
  first | exact StrLaws.glued_eq_join a ys | (split <;> first | rfl | exact StrLaws.glued_eq_join a ys)
theorem sm_join : SM K (rJoin K) gJoin := fun so F H n vx vy a b q x Q s c ba bb p k => by
  unfold gJoin at p
  split at p
  · obtain ⟨l, ys, h1, h2, h3, p⟩ := p
    obtain ⟨a, xs, ev, ha, r⟩ := bb.items s h1
    rw [r.strs' h2] at ha
    refine ⟨_, a, ys, ba.str, by rw [ev], ha, h3, ?_⟩
    rw [tjoin]
    exact KE.here k s c (.str _) p
  · exact p.elim
def gFind : D → D → PM D
  | .str a, .str b => fun n q _ => q (.int (Txt.find a b)) n
  | _, _ => fun _ _ _ => False
theorem sm_find : SM K (fun x xs H Q => ∃ a b, x = .str a ∧ xs = [.str b] ∧ Q (.int (Txt.find a b)) H) gFind := fun so F H n vx vy a b q x Q s c ba bb p k => by
  unfold gFind at p
  split at p
  · exact ⟨_, _, ba.str, by rw [bb.str], KE.here k s c (.int _) p⟩
  · exact p.elim
def gSplit : D → D → PM D
  | .str a, .str b => fun n q _ => (b.length == 0) = false ∧ a.length ≤ 90000 ∧ q (.lst ((Txt.split a b).map D.str)) n
  | _, _ => fun _ _ _ => False
theorem smf_split : SMF K (fun x xs H Q => ∃ a b, x = .str a ∧ xs = [.str b] ∧ (b.length == 0) = false ∧ a.length + 2 ≤ sizeLine ∧ rNewStrs (Txt.split a b) H Q) gSplit := fun so F H n vx vy a b q x Q s c ba bb p k => by
  unfold gSplit at p
  split at p
  · exact ⟨_, _, ba.str, by rw [bb.str], p.1, sz_of (by omega), KF.here k s c (.lst (Rps.strs _)) p.2.2⟩
  · exact p.elim
def gPart : D → D → PM D
  | .str a, .str b => fun n q _ => (b.length == 0) = false ∧ a.length ≤ 90000 ∧ q (.tup [.str (Txt.partition a b).1, .str (Txt.partition a b).2.1, .str (Txt.partition a b).2.2]) n
  | _, _ => fun _ _ _ => False
theorem sm_part : SM K (fun x xs H Q => ∃ a b, x = .str a ∧ xs = [.str b] ∧ (b.length == 0) = false ∧ a.length ≤ sizeLine ∧ ∀ p, H p = none → Q (.ref p) (upd H p (.tup [.str (Txt.partition a b).1, .str (Txt.partition a b).2.1, .str (Txt.partition a b).2.2]))) gPart := fun so F H n vx vy a b q x Q s c ba bb p k => by
  unfold gPart at p
  split at p
  · exact ⟨_, _, ba.str, by rw [bb.str], p.1, sz_of (by omega), KE.tup k s c (.cons (.str _) (.cons (.str _) (.cons (.str _) .nil))) p.2.2⟩
  · exact p.elim
/-- f'..' -/
def gFmt : D → PM D
  | .str y => fun n q _ => y.length ≤ 90000 ∧ q (.str y) n
  | .int i => fun n q _ => i.natAbs < 1000000000000 ∧ q (.str (toString i)) n
  | _ => fun _ _ _ => False
theorem se_fmt (h : SimB K W te pe) : SimE K W (tFmt te) (pUn gFmt pe) := fun so F H σ ρ n q x Q e p xo k =>
  h so F H σ ρ n _ x _ e p xo fun v d N H1 n1 s1 c1 b1 p1 => by
    unfold gFmt at p1
    split at p1
    · exact .inl ⟨_, b1.str, sz_of (by omega), k _ _ N H1 n1 s1 c1 (.str _) p1.2⟩
    · exact .inr ⟨_, b1.int, log_lt p1.1, k _ _ N H1 n1 s1 c1 (.str _) p1.2⟩
    · exact p1.elim
def pJs : List PEx → Str → List PV → PM Str
  | [], acc, _ => fun n q _ => q acc n
  | p :: ps, acc, ρ => fun n q x => p ρ n (fun d n1 => match d with | .str y => acc.length + y.length ≤ 90000 ∧ pJs ps (acc ++ y) ρ n1 q x | _ => False) x
inductive SimJs (K : PySem.W.Frag) (W : WX') : List TE → List PEx → Prop
  | nil : SimJs K W [] []
  | cons {t : TE} {p : PEx} {ts : List TE} {ps : List PEx} : SimE K W t p → SimJs K W ts ps → SimJs K W (t :: ts) (p :: ps)
theorem js_run {ts : List TE} {ps : List PEx} (h : SimJs K W ts ps) : ∀ (acc : Str) so F H σ ρ n q x (Q : Str → Hp → Prop), En K so F H σ ρ n → pJs ps acc ρ n q x → XOk K W so F H σ x →
    (∀ out N H' n', Step so F H N H' → SrcN so H' n' → q out n' → Q out H') → tJs ts acc σ H Q := by
  induction h with
  | nil => exact fun acc so F H σ ρ n q x Q e p xo k => k acc F H n (Step.refl e.sub) e.src p
  | cons h t ih =>
    intro acc so F H σ ρ n q x Q e p xo k
    refine h so F H σ ρ n _ x _ e p xo fun v d N H1 n1 s1 c1 r1 p1 => ?_
    cases r1 with
    | str y => exact ⟨y, rfl, sz_of (by
        have : (acc ++ y).length = acc.length + y.length := len_add acc y
        omega), ih (acc ++ y) so N H1 σ ρ n1 q x Q (e.step s1 c1) p1.2 (xo.step s1 e.src c1) fun out M H2 n2 s2 c2 z => k out M H2 n2 (s1.trans s2 e.src c1) c2 z⟩
    | _ => exact p1.elim
def pJoined (ps : List PEx) : PEx := fun ρ n q x => pJs ps Str.empty ρ n (fun s n1 => q (.str s) n1) x
theorem se_joined {ts : List TE} {ps : List PEx} (h : SimJs K W ts ps) : SimE K W (fun σ H Q => tJs ts Str.empty σ H fun out H1 => Q (.str out) H1) (pJoined ps) := fun so F H σ ρ n q x Q e p xo k =>
  js_run h Str.empty so F H σ ρ n _ x _ e p xo fun out N H1 n1 s1 c1 z => k _ _ N H1 n1 s1 c1 (.str _) z
/-! draws -/
def psDraw : PSp := fun args n q _ => match args with
  | [.src, .val (.int lim)] => n ≤ 900000 ∧ 0 < lim ∧ lim ≤ 1000000 ∧ ∀ m : Nat, (m : Int) < lim → q (.int m) (n + 1)
  | _ => False
theorem lift_draw {vs : List V} {H : Hp} {Q : VK} {E : XK} (h : lift K psDraw vs H Q E) : spDraw vs H Q E := by
  obtain ⟨so, F, ps, n, q, x, s, c, ns, ag, p, k, _⟩ := h
  unfold psDraw at p
  split at p
  · rename_i lim
    cases ag with
    | cons a1 t1 =>
      cases t1 with
      | cons a2 t2 =>
        cases t2
        obtain ⟨sa, rfl, rfl⟩ := a1
        have e2 : _ = V.int lim := Bw.int (so := none) (H := F) (.inl a2)
        subst e2
        refine ⟨sa, n, lim, rfl, c sa rfl, by omega, p.2.1, p.2.2.1, fun v H' h0 h1 xb s' => ?_⟩
        obtain ⟨m, rfl⟩ := Int.eq_ofNat_of_zero_le h0
        have kp : Keep (some sa) H H' := fun a o ne h => xb a o (fun z => ne (by rw [z])) h
        refine k _ _ F H' (n + 1) ⟨s.keep ns kp, Ex.refl F, kp, fun _ _ => rfl⟩ (fun sb e => by cases e; exact s') (.int _) (p.2.2.2 m h1)
  · exact p.elim
/-- source = _law_source(cell), where there was none at the entry -/
def pSource (i : Nat) (pe : PEx) : PSt := fun E ρ n => pe ρ n (fun d _ => match d with | .int c => Builtin.Int.intBits c ≤ 1048576 ∧ (∃ (k : Nat) (ns : List Int), ρ[k]? = some (.scr ns)) ∧ (∀ (j : Nat), j ≠ i → ρ[j]? ≠ some .src) ∧ E.nx (ρ.set i .src) 0 | _ => False) E.xc
theorem ss_source {i : Nat} (h : SimE K W te pe) : SimS K W (tAsg (tCall spSource [] E0 (tCons te tNil)) (gName i)) (pSource i pe) := fun Fb F0 H0 so0 so F H σ ρ n D E r p k =>
  h so F H σ ρ n _ _ _ r.en p (r.xo k) fun v d N H1 n1 s1 c1 rv z => by
    cases rv with
    | int c =>
      obtain ⟨hb, ⟨ks, ns, hks⟩, hno, z⟩ := z
      refine ⟨c, rfl, hb, fun pa H2 hp e2 s2 => ?_⟩
      have r1 := r.step s1 c1
      have s0 : so0 = none := by
        obtain ⟨o, h1, a, rfl, _⟩ := r.en.sl ks _ hks
        exact (r.scr ks ns a hks h1).2
      have nN : N pa = none := r1.en.sub.nil hp
      have sub2 : Sub N H2 := fun a u e => by
        rcases r1.en.sub a u e with q | ⟨q, o, q2⟩
        · exact .inl (e2 _ _ q)
        · exact .inr ⟨q, o, e2 _ _ q2⟩
      refine k.nx (some pa) N H2 _ _ 0 ⟨⟨sub2, fun sa e => by cases e; exact s2, fun sa e => by cases e; exact nN, by rw [List.length_set, List.length_set]; exact r.en.len, fun j pv hj => ?_⟩, r1.bs, r1.grow, fun a o ns h => e2 _ _ (r1.keep a o ns h), r1.new, .inr ⟨s0, pa, rfl, r1.dead hp⟩, fun j d p' h1 h2 => ?_, fun j l d d' p' hjl h1 h2 h3 => ?_, fun j ns' a h1 h2 => ?_⟩ z
      · rcases get_set hj with ⟨rfl, rfl, hl⟩ | ⟨hne, hj⟩
        · exact ⟨_, by rw [List.getElem?_set, if_pos rfl, if_pos (by rw [r.en.len]; exact hl)], pa, rfl, rfl⟩
        · obtain ⟨o, h1, h2⟩ := r1.en.sl j pv hj
          refine ⟨o, by rw [List.getElem?_set, if_neg hne]; exact h1, ?_⟩
          cases pv with
          | un => trivial
          | val d => exact h2
          | own d =>
            obtain ⟨p', u, e, g1, g2, g3, g4⟩ := h2
            exact ⟨p', u, e, e2 _ _ g1, g2, g3, fun q => by cases q; rw [hp] at g1; cases g1⟩
          | src => exact absurd hj (hno j fun q => hne q.symm)
          | me p => exact h2
          | scr ns' =>
            obtain ⟨a, e, g1, g2⟩ := h2
            refine ⟨a, e, sq_keep (so := none) (fun b o _ hb => e2 _ _ hb) (by simp) g1, ?_⟩
            rcases g1 with (q | ⟨o, q⟩) | q
            · exact .inl fun y => by cases y; rw [hp] at q; cases q
            · exact .inl fun y => by cases y; rw [hp] at q; cases q
            · exact .inr q
      · rcases get_set h1 with ⟨_, q, _⟩ | ⟨hne, h1⟩
        · cases q
        · rw [List.getElem?_set, if_neg hne] at h2
          exact r1.own j d p' h1 h2
      · rcases get_set h1 with ⟨_, q, _⟩ | ⟨hne, h1⟩
        · cases q
        · rcases get_set h2 with ⟨_, q, _⟩ | ⟨hne2, h2⟩
          · cases q
          · rw [List.getElem?_set, if_neg hne] at h3
            rw [List.getElem?_set, if_neg hne2]
            exact r1.dis j l d d' p' hjl h1 h2 h3
      · rcases get_set h1 with ⟨_, q, _⟩ | ⟨hne, h1⟩
        · cases q
        · rw [List.getElem?_set, if_neg hne] at h2
          exact r1.scr j ns' a h1 h2
    | _ => exact z.elim
/-- the script cut -/
def pScr (i : Nat) (pl ph : POx) : PEx := fun ρ n q x => match ρ[i]? with
  | some (.scr ns) => pl ρ n (fun lo n1 => ph ρ n1 (fun hi n2 => q (.lst (cutD (ns.map D.int) lo hi)) n2) x) x
  | _ => False
theorem sf_scr {i : Nat} {tl th : TO} {pl ph : POx} (hl : SimO K W tl pl) (hh : SimO K W th ph) : SimF K W (tSl (rSlL K) (tVar i) tl th) (pScr i pl ph) := fun so F H σ ρ n q x Q e p xo k => by
  unfold pScr at p
  split at p
  case h_1 ns hns =>
    obtain ⟨o, h1, a, rfl, ha, hsa⟩ := e.sl i _ hns
    refine ⟨_, h1, hl so F H σ ρ n _ x _ e p xo fun lo N2 H2 n2 s2 c2 p2 => hh so N2 H2 σ ρ n2 _ x _ (e.step s2 c2) p2 (xo.step s2 e.src c2) fun hi N3 H3 n3 s3 c3 p3 => ?_⟩
    have s13 := s2.trans s3 e.src c2
    have r : Rps K N3 (ns.map V.int) (ns.map D.int) := Rps.map (fun i => .int i) ns
    exact ⟨a, _, rfl, scr_keep s13.keep hsa ha, KF.here (KF.step k s13 e.src c3) s3.sub c3 (.lst (r.cut lo hi)) p3⟩
  case h_2 => exact p.elim
end
end G39

namespace G39
open PySem PySem.Spec PyProof.Rows L2 Evl
/-! texts sorted -/
def leT (a b : Str) : Bool := !ltT b a
theorem leT_trans : ∀ a b c : Str, leT a b = true → leT b c = true → leT a c = true := fun a b c h1 h2 => by
  unfold leT at *
  simp only [Bool.not_eq_true'] at *
  cases e : ltT c a with
  | false => rfl
  | true =>
    cases e2 : ltT a b with
    | true =>
      have z := ltT_trans e e2
      rw [h2] at z
      cases z
    | false =>
      rw [ltT_tri e2 h1, h2] at e
      cases e
theorem leT_total : ∀ a b : Str, (leT a b || leT b a) = true := fun a b => by
  unfold leT
  cases e : ltT b a with
  | false => rfl
  | true => rw [ltT_asym e]; rfl
def srtS (l : List Str) : List Str := l.mergeSort leT
theorem srtS_perm (l : List Str) : (srtS l).Perm l := List.mergeSort_perm l leT
theorem srtS_pw (l : List Str) : (srtS l).Pairwise (fun a b => leT a b = true) := List.pairwise_mergeSort leT_trans leT_total l
theorem leT_leS {a b : Str} (h : leT a b = true) : leS a b := by
  unfold leT at h
  simp only [Bool.not_eq_true'] at h
  exact leS_of (by rw [ltCps_eq]; exact h)
theorem pw_uniq {l m : List Str} (hl : l.Pairwise leS) (hm : m.Pairwise leS) (p : l.Perm m) : l = m := List.Perm.eq_of_pairwise (fun a b _ _ h1 h2 => str_ext (List.le_antisymm h1 h2)) hl hm p
theorem srtS_of {ys xs : List Str} (h : ys.Perm xs) (hs : sortedS ys = true) : ys = srtS xs := pw_uniq (sorted_pw hs) ((srtS_pw xs).imp fun z => leT_leS z) (h.trans (srtS_perm xs).symm)
theorem srtS_eq {ys xs : List Str} (h : ys.Perm xs) (hs : ys.Pairwise (fun a b => leT a b = true)) : ys = srtS xs := pw_uniq (hs.imp fun z => leT_leS z) ((srtS_pw xs).imp fun z => leT_leS z) (h.trans (srtS_perm xs).symm)
/-! tuples of texts sorted -/
def leP (a b : List Str) : Bool := !ltP b a
theorem leP_trans : ∀ a b c : List Str, leP a b = true → leP b c = true → leP a c = true := fun a b c h1 h2 => by
  unfold leP at *
  simp only [Bool.not_eq_true'] at *
  cases e : ltP c a with
  | false => rfl
  | true =>
    cases e2 : ltP a b with
    | true =>
      have z := ltP_trans e e2
      rw [h2] at z
      cases z
    | false =>
      rw [ltP_tri e2 h1, h2] at e
      cases e
theorem leP_total : ∀ a b : List Str, (leP a b || leP b a) = true := fun a b => by
  unfold leP
  cases e : ltP b a with
  | false => rfl
  | true => rw [ltP_asym e]; rfl
theorem leP_anti {a b : List Str} (h1 : leP a b = true) (h2 : leP b a = true) : a = b := by
  unfold leP at h1 h2
  simp only [Bool.not_eq_true'] at h1 h2
  exact ltP_tri h2 h1
def srtP (l : List (List Str)) : List (List Str) := l.mergeSort leP
theorem srtP_perm (l : List (List Str)) : (srtP l).Perm l := List.mergeSort_perm l leP
theorem srtP_pw (l : List (List Str)) : (srtP l).Pairwise (fun a b => leP a b = true) := List.pairwise_mergeSort leP_trans leP_total l
theorem srtP_eq {ys xs : List (List Str)} (h : ys.Perm xs) (hs : ys.Pairwise (fun a b => leP a b = true)) : ys = srtP xs := List.Perm.eq_of_pairwise (fun a b _ _ h1 h2 => leP_anti h1 h2) hs (srtP_pw xs) (h.trans (srtP_perm xs).symm)
/-- once each, as they come -/
def onceP {α : Type} [DecidableEq α] (l : List α) : List α := l.foldl (fun m x => if x ∈ m then m else m ++ [x]) []
theorem once_step {α : Type} [DecidableEq α] : ∀ (l m : List α), m.Nodup → (l.foldl (fun m x => if x ∈ m then m else m ++ [x]) m).Nodup ∧ ∀ x, x ∈ l.foldl (fun m x => if x ∈ m then m else m ++ [x]) m ↔ x ∈ m ∨ x ∈ l
  | [], m, h => ⟨h, fun x => by simp⟩
  | y :: l, m, h => by
    rw [List.foldl_cons]
    by_cases c : y ∈ m
    · rw [if_pos c]
      obtain ⟨h1, h2⟩ := once_step l m h
      refine ⟨h1, fun x => ?_⟩
      rw [h2, List.mem_cons]
      constructor
      · rintro (z | z)
        · exact .inl z
        · exact .inr (.inr z)
      · rintro (z | rfl | z)
        · exact .inl z
        · exact .inl c
        · exact .inr z
    · rw [if_neg c]
      obtain ⟨h1, h2⟩ := once_step l (m ++ [y]) (by
        rw [List.nodup_append]
        exact ⟨h, by simp, fun a ha b hb e => by
          rw [List.mem_singleton.mp hb] at e
          exact c (by rw [← e]; exact ha)⟩)
      refine ⟨h1, fun x => ?_⟩
      rw [h2, List.mem_append, List.mem_singleton, List.mem_cons, or_assoc]
theorem once_nodup {α : Type} [DecidableEq α] (l : List α) : (onceP l).Nodup := (once_step l [] List.nodup_nil).1
theorem mem_once {α : Type} [DecidableEq α] {l : List α} {x : α} : x ∈ onceP l ↔ x ∈ l := by
  unfold onceP
  rw [(once_step l [] List.nodup_nil).2]
  simp
theorem plus_once (l : List Str) : l.foldl plus [] = onceP l := rfl
section
variable {K : PySem.W.Frag} {W : WX'} {w : World} {te ta tb to : TE} {pe pa pb po : PEx}
def gSortS : D → PM D
  | .lst l => fun n q _ => ∃ xs, strsD l = some xs ∧ xs.length < 64 ∧ q (.lst ((srtS xs).map D.str)) n
  | _ => fun _ _ _ => False
theorem scf_sortS : SCF K (rSortedS K) gSortS := fun so F H n vx a q x Q s c b p k => by
  unfold gSortS at p
  split at p
  · obtain ⟨xs, h1, h2, p⟩ := p
    obtain ⟨a, vs, ev, ha, r⟩ := b.lst s
    rw [r.strs' h1] at ha
    refine ⟨a, xs, by rw [ev], sq_of ha, h2, fun ys pp hp hs hn => ?_⟩
    rw [srtS_of hp hs]
    exact KF.here k s c (.lst (Rps.strs _)) p pp hn
  · exact p.elim
/-- sorted({..}) of texts -/
def colS (f : D → Nat → (Option D → Nat → Prop) → Prop) : List D → List Str → Nat → (List Str → Nat → Prop) → Prop
  | [], acc, n, q => q acc n
  | d :: ds, acc, n, q => f d n fun o n1 => match o with
    | none => colS f ds acc n1 q
    | some (.str z) => colS f ds (acc ++ [z]) n1 q
    | _ => False
def pSortSg (pi : PIx) (pg : PGx) (pt : PTx) (pe : PEx) (vs : List Nat) : PEx := fun ρ n q x => pi ρ n (fun ds n1 => ds.length ≤ 900 ∧ colS (elP pg pt pe (wipeP ρ vs)) ds [] n1 fun xs n2 => (onceP xs).length < 64 ∧ q (.lst ((srtS (onceP xs)).map D.str)) n2) x
theorem plus_le (L : List Str) (k : Str) : (plus L k).length ≤ L.length + 1 := plus_len L k
theorem sf_sortSg {wi : TI} {pi : PIx} {js vs : List Nat} {g : L2.TG} {pg : PGx} {tt : TT} {pt : PTx} (hi : SimI K W wi pi) (hg : SimG K js g pg) (hj : ∀ j ∈ js, j ∈ vs) (ht : SimT K WF tt pt) (he : SimE K WF te pe) :
    SimF K W (tCB (rSortTx w) (tCons (tSg (fun D => SetTx w D []) (addTx w) wi g tt te vs) tNil)) (pSortSg pi pg pt pe vs) := fun so F H σ ρ n q x Q e p xo k => hi so F H σ ρ n _ x _ e p xo fun J ds G N1 H1 n1 s1 c1 w1 gk p1 Dl hD => by
  have nD := s1.sub.nil hD
  have sD := c1.ne hD
  have hlen := p1.1
  refine ⟨fun i m Hc => m = ds.length - i ∧ i ≤ ds.length ∧ ∃ N n' L, Step so N1 H1 N Hc ∧ SrcN so Hc n' ∧ N Dl = none ∧ Hc Dl = some (SetTx w Dl (onceP L)) ∧ L.length ≤ i ∧ colS (elP pg pt pe (wipeP ρ vs)) (ds.drop i) L n' fun xs n2 => (onceP xs).length < 64 ∧ q (.lst ((srtS (onceP xs)).map D.str)) n2,
    ⟨ds.length, by simp, Nat.zero_le _, N1, n1, [], (Step.refl s1.sub).beside' hD nD, c1.beside sD, nD, upd_same, Nat.le_refl _, p1.2⟩, ?_⟩
  rintro i m Hc ⟨rfl, hle, N, n', L, h1, h2, h3, h4, h5, h6⟩
  by_cases hlt : i < ds.length
  · refine .inr ⟨w1.goes i Hc hlt (gk Hc h1.keep), fun H' => ∃ N n' L, Step so N1 H1 N H' ∧ SrcN so H' n' ∧ N Dl = none ∧ H' Dl = some (SetTx w Dl (onceP L)) ∧ L.length ≤ i + 1 ∧ colS (elP pg pt pe (wipeP ρ vs)) (ds.drop (i + 1)) L n' fun xs n2 => (onceP xs).length < 64 ∧ q (.lst ((srtS (onceP xs)).map D.str)) n2,
      fun H' z => ⟨ds.length - (i + 1), by omega, rfl, hlt, z⟩, fun x H2 y => ?_⟩
    obtain ⟨d, hd, ed⟩ := drop_at hlt
    rw [ed] at h6
    obtain ⟨N2, s2', r2⟩ := w1.yields i Hc x H2 N d hd (gk Hc h1.keep) h1.ex h1.sub y
    have s2 : Step so N Hc N2 H2 := s2'.any
    have c2 : SrcN so H2 n' := s2'.srcN h2
    have t2 := h1.trans s2 c1 h2
    have d2 : H2 Dl = some (SetTx w Dl (onceP L)) := s2.keep Dl _ sD h4
    have n2 : N2 Dl = none := by rw [s2.new Dl (by rw [h4]; exact fun q => by cases q)]; exact h3
    have e2 := (e.step (s1.trans t2 e.src c1) c2).wipe vs
    refine hg so N2 H2 x d _ _ n' _ _ e2 r2 h6 fun σ2 ρ2 e3 o3 p3 => ⟨wipe_off o3 hj, ht so N2 H2 σ2 ρ2 n' _ noX _ e3 p3 xo_no fun b N3 H3 n3 s3 c3 p4 => ?_⟩
    have t3 := t2.trans s3 c1 c2
    have d3 : H3 Dl = some (SetTx w Dl (onceP L)) := s3.keep Dl _ sD d2
    have n3' : N3 Dl = none := by rw [s3.new Dl (by rw [d2]; exact fun q => by cases q)]; exact n2
    cases b with
    | true =>
      rw [if_pos rfl] at p4 ⊢
      refine he so N3 H3 σ2 ρ2 n3 _ noX _ (e3.step s3 c3) p4 xo_no fun v dv N4 H4 n4 s4 c4 r4 p5 => ?_
      have t4 := t3.trans s4 c1 c3
      have d4 : H4 Dl = some (SetTx w Dl (onceP L)) := s4.keep Dl _ sD d3
      have n4' : N4 Dl = none := by rw [s4.new Dl (by rw [d3]; exact fun q => by cases q)]; exact n3'
      cases r4 with
      | str z =>
        have lenL : (onceP L).length ≤ L.length := by
          have q := fold_len L []
          rw [plus_once] at q
          simpa using q
        refine ⟨z, onceP L, rfl, d4, by omega, N4, n4, L ++ [z], t4.beside' hD n4', c4.beside sD, n4', ?_, by rw [List.length_append]; simp only [List.length_cons, List.length_nil]; omega, ?_⟩
        · rw [upd_same]
          have : onceP (L ++ [z]) = plus (onceP L) z := by
            unfold onceP
            rw [List.foldl_append]
            rfl
          rw [this]
        · exact p5
      | _ => exact p5.elim
    | false =>
      rw [if_neg Bool.false_ne_true] at p4 ⊢
      exact ⟨N3, n3, L, t3, c3, n3', d3, by omega, p4⟩
  · have ei : i = ds.length := by omega
    subst ei
    rw [List.drop_of_length_le (Nat.le_refl _)] at h6
    obtain ⟨g2, g3⟩ : (onceP L).length < 64 ∧ q (.lst ((srtS (onceP L)).map D.str)) n' := h6
    refine .inl ⟨w1.stops Hc (gk Hc h1.keep), Dl, onceP L, rfl, h4, g2, fun ys pp hp hs hn => ?_⟩
    rw [srtS_of hp hs]
    exact KF.here (KF.step k (s1.trans h1 e.src c1) e.src h2) h1.sub h2 (.lst (Rps.strs _)) g3 pp hn
end
end G39

namespace G39
open PySem PySem.Spec PyProof.Rows L2 Evl
section
variable {X : Cx} {K : PySem.W.Frag} {P : Program} {w : World}
theorem cr_setPK (hK : X.K = K) (hP : X.prog = P) (hw : X.w = w) (hc : X.calm = true) (hu : X.A.units + 64 < cLine) : CallR X (.type "set") (rSetP K P w) := by
  subst hK hP hw
  exact cr_setP hc hu
theorem cr_sortPK (hK : X.K = K) (hP : X.prog = P) (hw : X.w = w) (hc : X.calm = true) : CallR X (.builtin "sorted") (rSortP K P w) := by
  subst hK hP hw
  exact cr_sortP hc
theorem cr_sortLP : CallR X (.builtin "sorted") (rSortLP X.K) := by
  intro pins s σ H vs us Q I r h
  obtain ⟨a, L, rfl, hl, hz, hk, q⟩ := h
  rw [Vals.ref1 r]
  obtain ⟨its, rv, pl, _⟩ := I.list hl
  have ei : its = L.map fun q => Value.ref q.1 := by
    rw [refs_vals rv]
    unfold valP
    rw [List.map_map]
    rfl
  have hlen : its.length ≤ 100000 := by
    rw [ei, List.length_map]
    exact hz
  refine SrtO.sorted_ord (swo_P (keyP X.prog X.w s.heap)) pl.isList (Nat.le_trans hlen (by rw [sizeLine_eq]; decide)) (fun h2 h₁ b hb kk => ?_) fun out hs hb => ?_
  · have el : ∀ v ∈ its, ∃ k, (FK X.prog X.w).is s.heap k v ∧ k ≠ [] := fun v hv => by
      rw [ei] at hv
      obtain ⟨z, hzm, rfl⟩ := List.mem_map.mp hv
      exact ⟨z.2, inv_is I (hk z hzm).1, (hk z hzm).2⟩
    have z := sortable_P (P := X.prog) (w := X.w) (A := X.A.in1.in1) (s := { s with heap := h₁ }) (a := b) (vs := its) (by omega) (fun v hv => (el v hv).imp fun k hk => ⟨is_keep hk.1 fun c o e => (kk c o e).2, hk.2⟩) fun o e => by
      have e' : some o = some (seqObj "list" its.toArray 0) := e.symm.trans hb
      cases e'
      exact fun c => absurd (Value.type.inj c) (by decide)
    intro h' keep
    obtain ⟨κ, z1, z2⟩ := z h' keep
    refine ⟨κ, z1, fun p q hp hq => wpAny_mono (z2 p q hp hq) (fun r s' hr => ⟨hr.1, ?_⟩) fun _ _ f => f⟩
    rw [hr.2]
    show ltP (keyP X.prog X.w h₁ p.1) (keyP X.prog X.w h₁ q.1) = ltP (keyP X.prog X.w s.heap p.1) (keyP X.prog X.w s.heap q.1)
    obtain ⟨k1, g1, _⟩ := el _ hp
    obtain ⟨k2, g2, _⟩ := el _ hq
    rw [keyP_of (is_keep (H := FK X.prog X.w) g1 fun c o e => (kk c o e).2), keyP_of (is_keep (H := FK X.prog X.w) g2 fun c o e => (kk c o e).2), keyP_of g1, keyP_of g2]
  · obtain ⟨L1, e1, e2⟩ := refs_pick (L := L) (vs := out) fun v hm => by
      have z := hb.perm.mem_iff.mp hm
      rw [ei] at z
      obtain ⟨y, hy, e⟩ := List.mem_map.mp z
      exact ⟨y, hy, e.symm⟩
    obtain ⟨ep, he⟩ := sortedAll_at s.heap its out.toArray
    have pm : (L1.map fun q => Value.ref q.1).Perm (L.map fun q => Value.ref q.1) := by
      rw [← e1, ← ei]
      exact hb.perm
    have pmK : (L1.map (·.2)).Perm (L.map (·.2)) := by
      have z := pm.map (keyP X.prog X.w s.heap)
      rw [List.map_map, List.map_map] at z
      have g : ∀ M : List (Addr × List Str), (∀ q ∈ M, q ∈ L) → M.map (keyP X.prog X.w s.heap ∘ fun q => Value.ref q.1) = M.map (·.2) := fun M hM => List.map_congr_left fun q hq => keyP_of (inv_is I (hk q (hM q hq)).1)
      rw [g L1 e2, g L fun q hq => hq] at z
      exact z
    have hlen1 : (L1.map fun q => V.ref q.1).length ≤ sizeLine := by
      have z := pm.length_eq
      rw [List.length_map, List.length_map] at z
      rw [List.length_map, z]
      exact Nat.le_trans hz (by rw [sizeLine_eq]; decide)
    refine ⟨.ref _, upd H (s.heap.objs.size + 1) (.lst (L1.map fun q => V.ref q.1)), I.laid (t' := s.toks) (fun _ _ => sortedAll_old) (Nat.le_succ _) ⟨hlen1, out, ep, by rw [e1]; exact vals_refs L1, he⟩, rfl, q L1 _ pmK e2 ?_ (I.hok.fresh (Nat.le_succ _))⟩
    rw [e1] at hs
    refine List.Pairwise.imp_of_mem (fun {q r} hq hr z => ?_) (List.pairwise_map.mp hs)
    have z : ltP (keyP X.prog X.w s.heap (.ref r.1)) (keyP X.prog X.w s.heap (.ref q.1)) = false := z
    rw [keyP_of (inv_is I (hk r (e2 r hr)).1), keyP_of (inv_is I (hk q (e2 q hq)).1)] at z
    exact z
theorem cr_sortLPK (hK : X.K = K) : CallR X (.builtin "sorted") (rSortLP K) := by
  subst hK
  exact cr_sortLP
theorem op_inDK (hK : X.K = K) (hu : X.A.units + 65 < cLine) : OpR X (compareOp .In) (rInD K) := by
  subst hK
  exact op_inD hu
theorem op_notInDK (hK : X.K = K) (hu : X.A.units + 65 < cLine) : OpR X (compareOp .NotIn) (rNotInD K) := by
  subst hK
  exact op_notInD hu
end
section
variable {K : PySem.W.Frag} {W : WX'} {P : Program} {w : World} {te ta tb to : TE} {pe pa pb po : PEx}
/-- a tuple of texts -/
def tupD (k : List Str) : D := .tup (k.map D.str)
def patsD : List D → Option (List (List Str))
  | [] => some []
  | .tup l :: r => match strsD l, patsD r with
    | some k, some ks => some (k :: ks)
    | _, _ => none
  | _ => none
theorem patsD_map : ∀ ks : List (List Str), patsD (ks.map tupD) = some ks
  | [] => rfl
  | k :: ks => by
    show patsD (.tup (k.map D.str) :: ks.map tupD) = _
    unfold patsD
    rw [strsD_map, patsD_map ks]
theorem strsD_of : ∀ {l : List D} {k : List Str}, strsD l = some k → l = k.map D.str
  | [], k, e => by simp only [strsD] at e; cases e; rfl
  | d :: l, k, e => by
    unfold strsD at e
    split at e
    · rename_i z; cases z
    · rename_i x r z
      cases z
      obtain ⟨ys, e1, rfl⟩ := Option.map_eq_some_iff.mp e
      rw [strsD_of e1]
      rfl
    · cases e
theorem patsD_of : ∀ {l : List D} {ks : List (List Str)}, patsD l = some ks → l = ks.map tupD
  | [], ks, e => by simp only [patsD] at e; cases e; rfl
  | d :: l, ks, e => by
    unfold patsD at e
    split at e
    · rename_i z; cases z
    · rename_i m r z
      cases z
      split at e
      · rename_i k ks' e1 e2
        cases e
        rw [patsD_of e2, strsD_of e1]
        rfl
      · cases e
    · cases e
/-- the rows of a list of tuples of texts -/
theorem Rps.rows {F H : Hp} (s : Sub F H) : ∀ {xs : List V} {ks : List (List Str)}, Rps K F xs (ks.map tupD) → ∃ L : List (Addr × List Str), xs = L.map (fun q => V.ref q.1) ∧ L.map (·.2) = ks ∧ ∀ q ∈ L, Rp K F (.ref q.1) (tupD q.2) ∧ SqT K H q.1 (q.2.map V.str)
  | _, [], h => by
    cases h
    exact ⟨[], rfl, rfl, fun q hq => by cases hq⟩
  | _, k :: ks, h => by
    cases h with
    | cons r t =>
      obtain ⟨L, e1, e2, e3⟩ := Rps.rows s t
      obtain ⟨a, ys, rfl, ha, ry⟩ := Bw.tup (so := none) (.inl r) s
      rw [ry.strs' (strsD_map k)] at ha
      refine ⟨(a, k) :: L, by rw [List.map_cons, e1], by rw [List.map_cons, e2], fun q hq => ?_⟩
      rcases List.mem_cons.mp hq with rfl | hq
      · exact ⟨r, ha⟩
      · exact e3 q hq
theorem rows_rps {F : Hp} : ∀ {L : List (Addr × List Str)}, (∀ q ∈ L, Rp K F (.ref q.1) (tupD q.2)) → Rps K F (L.map fun q => V.ref q.1) ((L.map (·.2)).map tupD)
  | [], _ => .nil
  | q :: L, h => .cons (h q (List.mem_cons_self ..)) (rows_rps fun r hr => h r (List.mem_cons_of_mem _ hr))
def gSortSet : D → PM D := fun d n q _ => ∃ l ks, itemsD d = some l ∧ patsD l = some ks ∧ ks.length < 64 ∧ (∀ k ∈ ks, k ≠ []) ∧ q (.lst ((srtP (onceP ks)).map tupD)) n
theorem sf_sortSet (h : SimB K W te pe) : SimF K W (tCB (rSortP K P w) (tCons (tCB (rSetP K P w) (tCons te tNil)) tNil)) (pUn gSortSet pe) := fun so F H σ ρ n q x Q e p xo k =>
  h so F H σ ρ n _ x _ e p xo fun v d N H1 n1 s1 c1 b1 ⟨l, ks, h1, h2, h3, h4, p1⟩ => by
    obtain ⟨a, xs, ev, ha, r⟩ := b1.items s1.sub h1
    rw [patsD_of h2] at r
    obtain ⟨L, e1, e2, e3⟩ := r.rows s1.sub
    rw [e1] at ha
    refine ⟨a, L, by rw [ev], ha, fun z hz => (e3 z hz).2, by rw [← e2, List.length_map] at h3; exact h3, fun b M hb m1 m2 m3 => ?_⟩
    have s2 : Step so N H1 N (upd H1 b (SetPO P w b M)) := Step.beside s1.sub hb
    have c2 : SrcN so (upd H1 b (SetPO P w b M)) n1 := c1.fresh hb
    have t2 := s1.trans s2 e.src c1
    refine ⟨b, M, rfl, upd_same, fun z hz => ⟨?_, h4 _ (by rw [← e2]; exact List.mem_map_of_mem (m1 z hz))⟩, fun M' pp pm pw hp => ?_⟩
    · have rz := (e3 z (m1 z hz)).1
      obtain ⟨a', ys, ea, ha', ry⟩ := Bw.tup (so := none) (.inl rz) s2.sub
      cases ea
      rw [ry.strs' (strsD_map z.2)] at ha'
      exact ha'
    · have ek : M'.map (·.2) = srtP (onceP ks) := by
        refine srtP_eq ((pm.map (·.2)).trans ?_) (List.pairwise_map.mpr (pw.imp fun z => by unfold leP; rw [z]; rfl))
        refine (List.perm_ext_iff_of_nodup m3 (once_nodup ks)).mpr fun z => ?_
        rw [mem_once, ← e2]
        constructor
        · intro hz
          obtain ⟨y, hy, rfl⟩ := List.mem_map.mp hz
          exact List.mem_map_of_mem (m1 y hy)
        · intro hz
          obtain ⟨y, hy, rfl⟩ := List.mem_map.mp hz
          exact m2 y hy
      have rr := rows_rps (K := K) (F := N) (L := M') fun z hz => (e3 z (m1 z (pm.mem_iff.mp hz))).1
      rw [ek] at rr
      exact KF.here (KF.step k t2 e.src c2) s2.sub c2 (.lst rr) p1 pp hp
def gSortLP : D → PM D
  | .lst l => fun n q _ => ∃ ks, patsD l = some ks ∧ ks.length ≤ 100000 ∧ (∀ k ∈ ks, k ≠ []) ∧ q (.lst ((srtP ks).map tupD)) n
  | _ => fun _ _ _ => False
theorem scf_sortLP : SCF K (rSortLP K) gSortLP := fun so F H n vx a q x Q s c b p k => by
  unfold gSortLP at p
  split at p
  · obtain ⟨ks, h1, h2, h3, p⟩ := p
    obtain ⟨a, xs, ev, ha, r⟩ := b.lst s
    rw [patsD_of h1] at r
    obtain ⟨L, e1, e2, e3⟩ := r.rows s
    rw [e1] at ha
    refine ⟨a, L, by rw [ev], sq_of ha, by rw [← e2, List.length_map] at h2; exact h2, fun z hz => ⟨(e3 z hz).2, h3 _ (by rw [← e2]; exact List.mem_map_of_mem hz)⟩, fun M' pp pm m1 pw hp => ?_⟩
    have ek : M'.map (·.2) = srtP ks := by
      rw [← e2]
      exact srtP_eq pm (List.pairwise_map.mpr (pw.imp fun z => by unfold leP; rw [z]; rfl))
    have rr := rows_rps (K := K) (F := F) (L := M') fun z hz => (e3 z (m1 z hz)).1
    rw [ek] at rr
    exact KF.here k s c (.lst rr) p pp hp
  · exact p.elim
/-- x in a list of data -/
def gInD (f : Bool → Bool) : D → D → PM D := fun a b n q _ => ∃ d e ds, toPy a = some d ∧ toPy b = some e ∧ e = .list ds ∧ SeqAt.shaped d = true ∧ SeqAt.shaped e = true ∧ q (.bl (f (ds.any fun z => PyData.eqv z d))) n
theorem sr_inD : SR K (rInD K) (gInD id) := fun so F H n vx vy a b q x Q s c ba bb ⟨d, e, ds, h1, h2, h5, h3, h4, p⟩ k => by
  subst h5
  exact ⟨d, ds, ba.dp s h1, bb.dp s h2, h3, h4, KE.here k s c (.bl _) p⟩
theorem sr_notInD : SR K (rNotInD K) (gInD not) := fun so F H n vx vy a b q x Q s c ba bb ⟨d, e, ds, h1, h2, h5, h3, h4, p⟩ k => by
  subst h5
  exact ⟨d, ds, ba.dp s h1, bb.dp s h2, h3, h4, KE.here k s c (.bl _) p⟩
/-- xs[::-1] -/
def gRev : D → PM D
  | .lst l => fun n q _ => q (.lst l.reverse) n
  | _ => fun _ _ _ => False
theorem Rps.rev {F : Hp} : ∀ {xs : List V} {ds : List D}, Rps K F xs ds → Rps K F xs.reverse ds.reverse
  | _, _, .nil => .nil
  | _, _, .cons h t => by
    rw [List.reverse_cons, List.reverse_cons]
    exact (Rps.rev t).snoc h
theorem sf_rev (h : SimB K W te pe) : SimF K W (tRevL K te) (pUn gRev pe) := fun so F H σ ρ n q x Q e p xo k =>
  h so F H σ ρ n _ x _ e p xo fun v d N H1 n1 s1 c1 b1 p1 => by
    unfold gRev at p1
    split at p1
    · obtain ⟨a, xs, ev, ha, r⟩ := b1.lst s1.sub
      exact ⟨a, xs, ev, sq_of ha, KF.here (KF.step k s1 e.src c1) s1.sub c1 (.lst r.rev) p1⟩
    · exact p1.elim
/-- tuple * int -/
def gRepT : D → D → PM D
  | .tup l, .int k => fun n q _ => l ≠ [] ∧ 0 ≤ k ∧ k ≤ 1000 ∧ l.length ≤ 1000 ∧ q (.tup (List.replicate k.toNat l).flatten) n
  | _, _ => fun _ _ _ => False
theorem Rps.rep {F : Hp} {xs : List V} {ds : List D} (h : Rps K F xs ds) : ∀ k : Nat, Rps K F (List.replicate k xs).flatten (List.replicate k ds).flatten
  | 0 => .nil
  | k + 1 => by
    rw [List.replicate_succ, List.replicate_succ, List.flatten_cons, List.flatten_cons]
    exact h.append (Rps.rep h k)
theorem sr_repT : SR K (rRepA K) gRepT := fun so F H n vx vy a b q x Q s c ba bb p k => by
  unfold gRepT at p
  split at p
  · rename_i l kk
    obtain ⟨h1, h2, h3, h4, p⟩ := p
    obtain ⟨a, xs, ev, ha, r⟩ := ba.tup s
    refine ⟨a, kk, xs, ev, bb.int, ha, fun z => ?_, h2, h3, by rw [r.len]; exact h4, fun e1 => ?_, fun _ => KE.tup k s c (r.rep _) p⟩
    · subst z
      cases r
      exact h1 rfl
    · subst e1
      rw [← ev]
      have e2 : (List.replicate (1 : Int).toNat l).flatten = l := by simp
      rw [e2] at p
      exact KE.here k s c ba.tupF p
  · exact p.elim
/-- text * int -/
def gRepS : D → D → PM D
  | .str z, .int k => fun n q _ => z.length ≠ 0 ∧ 2 ≤ k ∧ k ≤ 1000 ∧ z.length ≤ 1000 ∧ (repS z k.toNat).length ≤ 100000 ∧ q (.str (repS z k.toNat)) n
  | _, _ => fun _ _ _ => False
theorem sr_repS : SR K rRepS gRepS := fun so F H n vx vy a b q x Q s c ba bb p k => by
  unfold gRepS at p
  split at p
  · rename_i z kk
    obtain ⟨h1, h2, h3, h4, h5, p⟩ := p
    refine ⟨z, kk.toNat, ba.str, ?_, h1, by omega, by omega, h4, sz_of h5, KE.here k s c (.str _) p⟩
    rw [bb.int]
    congr 1
    omega
  · exact p.elim
/-- enumerate(list) -/
def pEnum (pe : PEx) : PIx := fun ρ n q x => pe ρ n (fun d n1 => match d with | .lst l => q (l.zipIdx.map fun p => .tup [.int (p.2 : Nat), p.1]) n1 | _ => False) x
theorem sj_enum (h : SimE K W te pe) : SimJ K W (iEnum K (tCons te tNil)) (pEnum pe) := fun so F H σ ρ n q x R e p xo k => h so F H σ ρ n _ x _ e p xo fun v d N H1 n1 s1 c1 r1 p1 => by
  cases r1 with
  | @lst a xs l hf r =>
    have get : ∀ N'' H'', Ex N N'' → Sub N'' H'' → SqL K H'' a xs := fun N'' H'' e2 s2 => by
      rcases s2 _ _ (e2 _ _ hf) with z | ⟨z, _⟩
      · exact sq_of z
      · exact z.elim
    have hl : (l.zipIdx.map fun p => D.tup [.int (p.2 : Nat), p.1]).length = xs.length := by rw [List.length_map, List.length_zipIdx, r.len]
    have wk := walk_enum (K := K) (a := a) (xs := xs)
    refine ⟨a, xs, rfl, get N H1 (Ex.refl N) s1.sub, k _ _ (fun H => SqL K H a xs) N H1 n1 s1 c1 ⟨fun i H hi g => wk.goes i H (by rw [← hl]; exact hi) g, fun H g => by rw [hl]; exact wk.stops H g, fun i Ha u Hb N1 d hd g eN sN y => ?_⟩ get p1⟩
    have hi : i < xs.length := by
      rw [← hl]
      exact (List.getElem?_eq_some_iff.mp hd).1
    obtain ⟨T, y1, y2, rfl, hT, rfl, g1, g2⟩ := wk.yields i Ha u Hb hi g y
    cases g1
    obtain ⟨dd, g3, g4⟩ := r.get g2
    have ed : d = .tup [.int (i : Nat), dd] := by
      rw [List.getElem?_map, List.getElem?_zipIdx, g3] at hd
      simpa using hd.symm
    subst ed
    exact ⟨_, Step.newF sN hT, .tup upd_same (.cons (.int _) (.cons ((g4.mono eN).mono (Ex.new (sN.nil hT))) .nil))⟩
  | _ => exact p1.elim
end
end G39

namespace G39
open PySem PySem.Spec PyProof.Rows L2 Evl
section
variable {X : Cx} {K : PySem.W.Frag} {W : WX'} {ts : TS} {ps : PSt}
theorem pa_starK {e : Expr} {p : Pos} {es : List Expr} {te : TE} {t : TA} (h : X.K = K) (he : PE X e te) (hr : PA X es t) (hs : starEach (.Starred e p :: es) X.env = (true, eval e X.env) :: starEach es X.env := by rfl) : PA X (.Starred e p :: es) (StX.tStar K te t) := by subst h; exact StX.pa_star he hr hs
theorem op_repAK (hK : X.K = K) : OpR X (binaryOp .Mult) (rRepA K) := by subst hK; exact op_repA
theorem pi_enumK {e : Expr} {ta : TA} {p pos tpos : Pos} {elts : List Expr} {kk : Nat} (hK : X.K = K) (hg : Gl X "enumerate") (hm : X.mg "enumerate" = none) (ha : PA X [e] ta) (hs : starEach [e] X.env = [(false, eval e X.env)] := by rfl) :
    PI X (.Tuple elts kk tpos) (.Call (.Name "enumerate" p) [e] [] pos) (iEnum K ta) := by subst hK; exact pi_enum hg hm ha hs
theorem pe_revLK {e : Expr} {te : TE} {k : Nat} {p1 p2 p3 pos : Pos} (hK : X.K = K) (he : PE X e te) : PE X (.Subscript e (.Slice none none (some (.UnaryOp .USub (.Constant (.int 1) k p1) p2)) p3) pos) (tRevL K te) := by subst hK; exact pe_revL he
theorem lift_len {psp : PSp} {k : Nat} (h : ∀ args n q x, psp args n q x → args.length = k) : ∀ vs H Q E, lift K psp vs H Q E → vs.length = k := fun vs H Q E ⟨so, F, ps, n, q, x, s, c, ns, ag, p, _⟩ => by
  rw [ag.len]
  exact h ps n q x p
/-- an own object given to the data -/
def pFreeze (i : Nat) (ps : PSt) : PSt := fun E ρ n => match ρ[i]? with
  | some (.own d) => ps E (ρ.set i (.val d)) n
  | some (.val d) => ps E ρ n
  | _ => False
theorem ss_freeze (i : Nat) (h : SimS K W ts ps) : SimS K W ts (pFreeze i ps) := fun Fb F0 H0 so0 so F H σ ρ n D E r p k => by
  unfold pFreeze at p
  split at p
  case h_1 d hd =>
    obtain ⟨o, h1, a, u, rfl, h2, h3, h4, h5⟩ := r.en.sl i _ hd
    have h0 := r.own i d a hd h1
    have e1 : Ex F (upd F a u) := Ex.new h4
    have ha : so ≠ some a := h5
    refine h Fb F0 H0 so0 so (upd F a u) H σ (ρ.set i (.val d)) n D E ⟨⟨fun b o hb => ?_, r.en.src, fun sa e => ?_, by rw [List.length_set]; exact r.en.len, fun j pv hj => ?_⟩, r.bs.trans e1, r.grow.trans e1, r.keep, fun b hb => ?_, r.so_, fun j d' p' g1 g2 => ?_, fun j l d1 d2 p' hjl g1 g2 g3 => ?_, fun j ns a' g1 g2 => ?_⟩ p k
    · by_cases q : b = a
      · subst q
        rw [upd_same] at hb
        cases hb
        exact .inl h2
      · rw [upd_ne q] at hb
        exact r.en.sub b o hb
    · rw [upd_ne fun z => ha (by rw [← z]; exact e)]
      exact r.en.nsr sa e
    · rcases get_set hj with ⟨rfl, rfl, _⟩ | ⟨hne, hj⟩
      · exact ⟨_, h1, _, rfl, h3.rp e1 upd_same⟩
      · obtain ⟨o, g1, g2⟩ := r.en.sl j pv hj
        refine ⟨o, g1, ?_⟩
        cases pv with
        | un => trivial
        | val d' =>
          obtain ⟨v, e, rv⟩ := g2
          exact ⟨v, e, rv.mono e1⟩
        | own d' =>
          obtain ⟨p', u', rfl, q1, q2, q3, q4⟩ := g2
          have : p' ≠ a := fun z => by
            subst z
            exact r.dis i j d d' p' hne hd hj h1 g1
          exact ⟨p', u', rfl, q1, q2.mono e1, by rw [upd_ne this]; exact q3, q4⟩
        | src => exact g2
        | me p => exact g2
        | scr ns => exact g2
    · rw [upd_ne fun z => hb (by rw [z]; exact h0)]
      exact r.new b hb
    · rcases get_set g1 with ⟨_, z, _⟩ | ⟨_, g1⟩
      · cases z
      · exact r.own j d' p' g1 g2
    · rcases get_set g1 with ⟨_, z, _⟩ | ⟨_, g1⟩
      · cases z
      · rcases get_set g2 with ⟨_, z, _⟩ | ⟨_, g2⟩
        · cases z
        · exact r.dis j l d1 d2 p' hjl g1 g2 g3
    · rcases get_set g1 with ⟨_, z, _⟩ | ⟨_, g1⟩
      · cases z
      · exact r.scr j ns a' g1 g2
  case h_2 d hd => exact h Fb F0 H0 so0 so F H σ ρ n D E r p k
  case h_3 => exact p.elim
/-- a, b = x, y -/
def pPar (i j : Nat) (pl : PLx) : PSt := fun E ρ n => pl ρ n (fun ds n1 => match ds with | [a, b] => E.nx ((ρ.set i (.val a)).set j (.val b)) n1 | _ => False) E.xc
theorem ss_par {i j : Nat} {ta : TA} {pl : PLx} (h : SimL K W ta pl) : SimS K W (tPar i j ta) (pPar i j pl) := fun Fb F0 H0 so0 so F H σ ρ n D E r p k =>
  h so F H σ ρ n _ _ _ r.en p (r.xo k) fun vs ds N H1 n1 s1 c1 rv z => by
    split at z
    · cases rv with
      | cons a b =>
        cases b with
        | cons b c =>
          cases c
          have r1 := r.step s1 c1
          refine ⟨_, _, rfl, ?_⟩
          refine sg_name i so N H1 _ _ σ ρ n1 (fun ρ' => E.nx (ρ'.set j (.val _)) n1) (fun σ' _ => D.nx (σ'.set j (some _)) H1) r1.en a z fun σ' ρ' e o z2 => ?_
          refine sg_name j so N H1 _ _ σ' ρ' n1 (fun ρ2 => E.nx ρ2 n1) (fun σ2 _ => D.nx σ2 H1) e b z2 fun σ2 ρ2 e2 o2 z3 => ?_
          exact k.nx so N H1 σ2 ρ2 n1 ((r1.off e o).off e2 o2) z3
    · exact z.elim
end
end G39

/-! data: what the readings' questions come to -/
namespace G39
open PySem PySem.Spec PyProof.Rows L2 Evl
noncomputable instance : DecidableEq D := fun _ _ => Classical.propDecidable _
section
variable {n : Nat} {x : PX}
/-- a comprehension whose items are computed without draws -/
theorem colP_of {α : Type} {f : D → Nat → (Option D → Nat → Prop) → Prop} {v : α → D} {g : α → Option D} : ∀ {l : List α} {q : List D → Nat → Prop}, (∀ a ∈ l, ∀ k : Option D → Nat → Prop, k (g a) n → f (v a) n k) → q (l.filterMap g) n → colP f (l.map v) n q
  | [], q, _, hq => hq
  | a :: l, q, h, hq => by
    refine h a (List.mem_cons_self ..) _ ?_
    refine colP_of (l := l) (fun b hb => h b (List.mem_cons_of_mem _ hb)) ?_
    cases e : g a with
    | none =>
      rw [List.filterMap_cons_none e] at hq
      exact hq
    | some y =>
      rw [List.filterMap_cons_some e] at hq
      exact hq
theorem colP_map {α : Type} {f : D → Nat → (Option D → Nat → Prop) → Prop} {v g : α → D} {l : List α} {q : List D → Nat → Prop} (h : ∀ a ∈ l, ∀ k : Option D → Nat → Prop, k (some (g a)) n → f (v a) n k) (hq : q (l.map g) n) : colP f (l.map v) n q := by
  refine colP_of (g := fun a => some (g a)) h ?_
  have e : l.filterMap (fun a => some (g a)) = l.map g := by
    have z := List.filterMap_eq_map (f := g)
    exact congrFun z l
  rw [e]
  exact hq
theorem colP_filter {α : Type} {f : D → Nat → (Option D → Nat → Prop) → Prop} {v g : α → D} {b : α → Bool} {l : List α} {q : List D → Nat → Prop} (h : ∀ a ∈ l, ∀ k : Option D → Nat → Prop, k (if b a then some (g a) else none) n → f (v a) n k) (hq : q ((l.filter b).map g) n) : colP f (l.map v) n q := by
  refine colP_of (g := fun a => if b a then some (g a) else none) h ?_
  have e : ∀ l : List α, l.filterMap (fun a => if b a then some (g a) else none) = (l.filter b).map g := fun l => by
    induction l with
    | nil => rfl
    | cons a l ih =>
      cases c : b a with
      | true => rw [List.filterMap_cons_some (by rw [c]; rfl), List.filter_cons_of_pos (by rw [c]), List.map_cons, ih]
      | false => rw [List.filterMap_cons_none (by rw [c]; rfl), List.filter_cons_of_neg (by rw [c]; simp), ih]
  rw [e]
  exact hq
/-- .. of texts, for a set -/
theorem colS_filter {α : Type} {f : D → Nat → (Option D → Nat → Prop) → Prop} {v : α → D} {g : α → Str} {b : α → Bool} : ∀ {l : List α} {acc : List Str} {q : List Str → Nat → Prop}, (∀ a ∈ l, ∀ k : Option D → Nat → Prop, k (if b a then some (.str (g a)) else none) n → f (v a) n k) → q (acc ++ (l.filter b).map g) n → colS f (l.map v) acc n q
  | [], acc, q, _, hq => by
    show q acc n
    simpa using hq
  | a :: l, acc, q, h, hq => by
    refine h a (List.mem_cons_self ..) _ ?_
    cases c : b a with
    | true =>
      show colS f (l.map v) (acc ++ [g a]) n q
      refine colS_filter (fun b hb => h b (List.mem_cons_of_mem _ hb)) ?_
      rw [List.filter_cons_of_pos (by rw [c]), List.map_cons] at hq
      simpa using hq
    | false =>
      show colS f (l.map v) acc n q
      refine colS_filter (fun b hb => h b (List.mem_cons_of_mem _ hb)) ?_
      rw [List.filter_cons_of_neg (by rw [c]; simp)] at hq
      exact hq
theorem blsD_map {α : Type} (b : α → Bool) : ∀ l : List α, blsD (l.map fun a => D.bl (b a)) = some (l.map b)
  | [] => rfl
  | a :: l => by simp [blsD, blsD_map b l]
theorem flDs_strs : ∀ l : List Str, flDs (l.map D.str) = some (l.map V.str)
  | [] => rfl
  | a :: l => by simp [flDs, flD, flDs_strs l]
/-! plain data: no truth values, no objects; texts of proper signs -/
mutual
def plD : D → Bool
  | .non => true
  | .int _ => true
  | .str x => PyData.canLay0 (.str x)
  | .tup l => plDs l
  | .lst l => plDs l
  | _ => false
def plDs : List D → Bool
  | [] => true
  | d :: l => plD d && plDs l
end
mutual
def dpD : D → Nat
  | .tup l => dpDs l + 1
  | .lst l => dpDs l + 1
  | _ => 0
def dpDs : List D → Nat
  | [] => 0
  | d :: l => max (dpD d) (dpDs l)
end
mutual
theorem pl_py : ∀ (d : D), plD d = true → ∃ a, toPy d = some a ∧ a.canLay0 = true ∧ a.depth ≤ dpD d
  | .non, _ => ⟨_, rfl, rfl, by simp [PyData.depth]⟩
  | .int i, _ => ⟨_, rfl, rfl, by simp [PyData.depth]⟩
  | .str x, h => ⟨_, rfl, h, by simp [PyData.depth]⟩
  | .tup l, h => by
    obtain ⟨as, h1, h2, h3⟩ := pls_py l (by simpa [plD] using h)
    exact ⟨.tuple as, by simp [toPy, h1], by simpa [PyData.canLay0] using h2, by simp only [PyData.depth, dpD]; omega⟩
  | .lst l, h => by
    obtain ⟨as, h1, h2, h3⟩ := pls_py l (by simpa [plD] using h)
    exact ⟨.list as, by simp [toPy, h1], by simpa [PyData.canLay0] using h2, by simp only [PyData.depth, dpD]; omega⟩
  | .bl _, h => by simp [plD] at h
  | .dic _, h => by simp [plD] at h
  | .dct _, h => by simp [plD] at h
  | .obj _ _, h => by simp [plD] at h
  | .kn _ _ _, h => by simp [plD] at h
theorem pls_py : ∀ (l : List D), plDs l = true → ∃ as, toPys l = some as ∧ PyData.canLayAll0 as = true ∧ PyData.depthAll as ≤ dpDs l
  | [], _ => ⟨[], rfl, rfl, by simp [PyData.depthAll]⟩
  | d :: l, h => by
    have h' : plD d = true ∧ plDs l = true := by simpa [plDs] using h
    obtain ⟨a, a1, a2, a3⟩ := pl_py d h'.1
    obtain ⟨as, b1, b2, b3⟩ := pls_py l h'.2
    exact ⟨a :: as, by simp [toPys, a1, b1], by simp [PyData.canLayAll0, a2, b2], by simp only [PyData.depthAll, dpDs]; omega⟩
end
theorem eqv_strc (x y : Str) : PyData.eqv (.str x) (.str y) = decide (x = y) := by
  simp only [PyData.eqv]
  by_cases c : x = y
  · subst c
    simp
  · simp [c]
mutual
theorem pl_eqv : ∀ (d e : D) (a b : PyData), plD d = true → plD e = true → toPy d = some a → toPy e = some b → PyData.eqv a b = decide (d = e)
  | .non, .non, a, b, _, _, h, h' => by cases h; cases h'; simp [PyData.eqv]
  | .int i, .int j, a, b, _, _, h, h' => by
    cases h; cases h'
    by_cases c : i = j
    · simp [PyData.eqv, c]
    · simp [PyData.eqv, c]
  | .str x, .str y, a, b, _, _, h, h' => by
    cases h; cases h'
    rw [eqv_strc]
    simp
  | .tup l, .tup m, a, b, p, p', h, h' => by
    simp only [toPy, Option.map_eq_some_iff] at h h'
    obtain ⟨as, h1, rfl⟩ := h
    obtain ⟨bs, h2, rfl⟩ := h'
    have z := pls_eqv l m as bs (by simpa [plD] using p) (by simpa [plD] using p') h1 h2
    simp only [PyData.eqv, z, D.tup.injEq]
  | .lst l, .lst m, a, b, p, p', h, h' => by
    simp only [toPy, Option.map_eq_some_iff] at h h'
    obtain ⟨as, h1, rfl⟩ := h
    obtain ⟨bs, h2, rfl⟩ := h'
    have z := pls_eqv l m as bs (by simpa [plD] using p) (by simpa [plD] using p') h1 h2
    simp only [PyData.eqv, z, D.lst.injEq]
  | .non, .int j, a, b, _, _, h, h' => by cases h; cases h'; simp [PyData.eqv]
  | .non, .str j, a, b, _, _, h, h' => by cases h; cases h'; simp [PyData.eqv]
  | .int j, .non, a, b, _, _, h, h' => by cases h; cases h'; simp [PyData.eqv]
  | .int j, .str _, a, b, _, _, h, h' => by cases h; cases h'; simp [PyData.eqv]
  | .str j, .non, a, b, _, _, h, h' => by cases h; cases h'; simp [PyData.eqv]
  | .str j, .int _, a, b, _, _, h, h' => by cases h; cases h'; simp [PyData.eqv]
  | .non, .tup m, a, b, _, _, h, h' => by simp only [toPy, Option.map_eq_some_iff] at h h'; cases h; obtain ⟨bs, _, rfl⟩ := h'; simp [PyData.eqv]
  | .non, .lst m, a, b, _, _, h, h' => by simp only [toPy, Option.map_eq_some_iff] at h h'; cases h; obtain ⟨bs, _, rfl⟩ := h'; simp [PyData.eqv]
  | .int _, .tup m, a, b, _, _, h, h' => by simp only [toPy, Option.map_eq_some_iff] at h h'; cases h; obtain ⟨bs, _, rfl⟩ := h'; simp [PyData.eqv]
  | .int _, .lst m, a, b, _, _, h, h' => by simp only [toPy, Option.map_eq_some_iff] at h h'; cases h; obtain ⟨bs, _, rfl⟩ := h'; simp [PyData.eqv]
  | .str _, .tup m, a, b, _, _, h, h' => by simp only [toPy, Option.map_eq_some_iff] at h h'; cases h; obtain ⟨bs, _, rfl⟩ := h'; simp [PyData.eqv]
  | .str _, .lst m, a, b, _, _, h, h' => by simp only [toPy, Option.map_eq_some_iff] at h h'; cases h; obtain ⟨bs, _, rfl⟩ := h'; simp [PyData.eqv]
  | .tup m, .non, a, b, _, _, h, h' => by simp only [toPy, Option.map_eq_some_iff] at h h'; cases h'; obtain ⟨bs, _, rfl⟩ := h; simp [PyData.eqv]
  | .lst m, .non, a, b, _, _, h, h' => by simp only [toPy, Option.map_eq_some_iff] at h h'; cases h'; obtain ⟨bs, _, rfl⟩ := h; simp [PyData.eqv]
  | .tup m, .int _, a, b, _, _, h, h' => by simp only [toPy, Option.map_eq_some_iff] at h h'; cases h'; obtain ⟨bs, _, rfl⟩ := h; simp [PyData.eqv]
  | .lst m, .int _, a, b, _, _, h, h' => by simp only [toPy, Option.map_eq_some_iff] at h h'; cases h'; obtain ⟨bs, _, rfl⟩ := h; simp [PyData.eqv]
  | .tup m, .str _, a, b, _, _, h, h' => by simp only [toPy, Option.map_eq_some_iff] at h h'; cases h'; obtain ⟨bs, _, rfl⟩ := h; simp [PyData.eqv]
  | .lst m, .str _, a, b, _, _, h, h' => by simp only [toPy, Option.map_eq_some_iff] at h h'; cases h'; obtain ⟨bs, _, rfl⟩ := h; simp [PyData.eqv]
  | .tup l, .lst m, a, b, _, _, h, h' => by simp only [toPy, Option.map_eq_some_iff] at h h'; obtain ⟨as, _, rfl⟩ := h; obtain ⟨bs, _, rfl⟩ := h'; simp [PyData.eqv]
  | .lst l, .tup m, a, b, _, _, h, h' => by simp only [toPy, Option.map_eq_some_iff] at h h'; obtain ⟨as, _, rfl⟩ := h; obtain ⟨bs, _, rfl⟩ := h'; simp [PyData.eqv]
  | .bl _, _, _, _, p, _, _, _ => by simp [plD] at p
  | .dic _, _, _, _, p, _, _, _ => by simp [plD] at p
  | .dct _, _, _, _, p, _, _, _ => by simp [plD] at p
  | .obj _ _, _, _, _, p, _, _, _ => by simp [plD] at p
  | .kn _ _ _, _, _, _, p, _, _, _ => by simp [plD] at p
  | _, .bl _, _, _, _, p, _, _ => by simp [plD] at p
  | _, .dic _, _, _, _, p, _, _ => by simp [plD] at p
  | _, .dct _, _, _, _, p, _, _ => by simp [plD] at p
  | _, .obj _ _, _, _, _, p, _, _ => by simp [plD] at p
  | _, .kn _ _ _, _, _, _, p, _, _ => by simp [plD] at p
theorem pls_eqv : ∀ (l m : List D) (as bs : List PyData), plDs l = true → plDs m = true → toPys l = some as → toPys m = some bs → PyData.eqvAll as bs = decide (l = m)
  | [], [], as, bs, _, _, h, h' => by cases h; cases h'; simp [PyData.eqvAll]
  | [], e :: m, as, bs, _, p', h, h' => by
    cases h
    obtain ⟨cs, c1, _, _⟩ := pls_py (e :: m) p'
    rw [c1] at h'
    cases h'
    simp only [toPys] at c1
    split at c1
    · cases c1
      simp [PyData.eqvAll]
    · cases c1
  | d :: l, [], as, bs, p, _, h, h' => by
    cases h'
    obtain ⟨cs, c1, _, _⟩ := pls_py (d :: l) p
    rw [c1] at h
    cases h
    simp only [toPys] at c1
    split at c1
    · cases c1
      simp [PyData.eqvAll]
    · cases c1
  | d :: l, e :: m, as, bs, p, p', h, h' => by
    have q : plD d = true ∧ plDs l = true := by simpa [plDs] using p
    have q' : plD e = true ∧ plDs m = true := by simpa [plDs] using p'
    simp only [toPys] at h h'
    split at h
    · split at h'
      · rename_i e1 e2 _ _ _ _ e3 e4
        cases h
        cases h'
        simp only [PyData.eqvAll]
        rw [pl_eqv d e _ _ q.1 q'.1 e1 e3, pls_eqv l m _ _ q.2 q'.2 e2 e4]
        by_cases c : d = e
        · by_cases c2 : l = m
          · simp [c, c2]
          · simp [c, c2]
        · simp [c]
      · cases h'
    · cases h
end
theorem pl_shaped {d : D} {a : PyData} (h : toPy d = some a) (p : plD d = true) (hd : dpD d ≤ 50) : SeqAt.shaped a = true := by
  obtain ⟨a', h1, h2, h3⟩ := pl_py d p
  rw [h] at h1
  cases h1
  simp only [SeqAt.shaped, Bool.and_eq_true, decide_eq_true_eq]
  exact ⟨h2, by omega⟩
theorem gEqD_of {f : Bool → Bool} {a b : D} {q : D → Nat → Prop} (pa : plD a = true) (pb : plD b = true) (da : dpD a ≤ 50) (db : dpD b ≤ 50) (h : q (.bl (f (decide (a = b)))) n) : gEqD f a b n q x := by
  obtain ⟨d, h1, _⟩ := pl_py a pa
  obtain ⟨e, h2, _⟩ := pl_py b pb
  refine ⟨d, e, h1, h2, pl_shaped h1 pa da, pl_shaped h2 pb db, ?_⟩
  rw [pl_eqv a b d e pa pb h1 h2]
  exact h
theorem any_eqv {a : D} {d : PyData} (pa : plD a = true) (h1 : toPy a = some d) : ∀ {l : List D} {as : List PyData}, plDs l = true → toPys l = some as → (as.any fun z => PyData.eqv z d) = decide (a ∈ l)
  | [], as, _, h => by cases h; simp
  | e :: l, as, p, h => by
    have q : plD e = true ∧ plDs l = true := by simpa [plDs] using p
    simp only [toPys] at h
    split at h
    · rename_i a1 b1 e1 e2
      cases h
      rw [List.any_cons, any_eqv pa h1 q.2 e2, pl_eqv e a _ _ q.1 pa e1 h1]
      by_cases c : a = e
      · simp [c]
      · by_cases c2 : a ∈ l
        · simp [c2]
        · simp [c, c2, Ne.symm c]
    · cases h
theorem gInD_of {f : Bool → Bool} {a : D} {l : List D} {q : D → Nat → Prop} (pa : plD a = true) (pb : plDs l = true) (da : dpD a ≤ 40) (db : dpDs l ≤ 40) (h : q (.bl (f (decide (a ∈ l)))) n) : gInD f a (.lst l) n q x := by
  obtain ⟨d, h1, _⟩ := pl_py a pa
  obtain ⟨as, h2, _⟩ := pls_py l pb
  have h3 : toPy (.lst l) = some (.list as) := by simp [toPy, h2]
  refine ⟨d, .list as, as, h1, h3, rfl, pl_shaped h1 pa (by omega), pl_shaped h3 (by simpa [plD] using pb) (by simp only [dpD]; omega), ?_⟩
  rw [any_eqv pa h1 pb h2]
  exact h
end
end G39

namespace G39
open PySem PySem.Spec PyProof.Rows L2 Evl
/-! promises by their arguments: A values, S the source ahead of them -/
def A1 (f : D → PM D) : PSp := fun args => match args with
  | [.val a] => f a
  | _ => fun _ _ _ => False
def A2 (f : D → D → PM D) : PSp := fun args => match args with
  | [.val a, .val b] => f a b
  | _ => fun _ _ _ => False
def A3 (f : D → D → D → PM D) : PSp := fun args => match args with
  | [.val a, .val b, .val c] => f a b c
  | _ => fun _ _ _ => False
def S0 (f : PM D) : PSp := fun args => match args with
  | [.src] => f
  | _ => fun _ _ _ => False
def S1 (f : D → PM D) : PSp := fun args => match args with
  | [.src, .val a] => f a
  | _ => fun _ _ _ => False
def S2 (f : D → D → PM D) : PSp := fun args => match args with
  | [.src, .val a, .val b] => f a b
  | _ => fun _ _ _ => False
def S3 (f : D → D → D → PM D) : PSp := fun args => match args with
  | [.src, .val a, .val b, .val c] => f a b c
  | _ => fun _ _ _ => False
section
variable {n : Nat} {q : D → Nat → Prop} {x : PX} {args : List PV}
theorem A1_of {f : D → PM D} (h : A1 f args n q x) : ∃ a, args = [.val a] ∧ f a n q x := by
  unfold A1 at h
  split at h
  · exact ⟨_, rfl, h⟩
  · exact h.elim
theorem A2_of {f : D → D → PM D} (h : A2 f args n q x) : ∃ a b, args = [.val a, .val b] ∧ f a b n q x := by
  unfold A2 at h
  split at h
  · exact ⟨_, _, rfl, h⟩
  · exact h.elim
theorem A3_of {f : D → D → D → PM D} (h : A3 f args n q x) : ∃ a b c, args = [.val a, .val b, .val c] ∧ f a b c n q x := by
  unfold A3 at h
  split at h
  · exact ⟨_, _, _, rfl, h⟩
  · exact h.elim
theorem S0_of {f : PM D} (h : S0 f args n q x) : args = [.src] ∧ f n q x := by
  unfold S0 at h
  split at h
  · exact ⟨rfl, h⟩
  · exact h.elim
theorem S1_of {f : D → PM D} (h : S1 f args n q x) : ∃ a, args = [.src, .val a] ∧ f a n q x := by
  unfold S1 at h
  split at h
  · exact ⟨_, rfl, h⟩
  · exact h.elim
theorem S2_of {f : D → D → PM D} (h : S2 f args n q x) : ∃ a b, args = [.src, .val a, .val b] ∧ f a b n q x := by
  unfold S2 at h
  split at h
  · exact ⟨_, _, rfl, h⟩
  · exact h.elim
theorem S3_of {f : D → D → D → PM D} (h : S3 f args n q x) : ∃ a b c, args = [.src, .val a, .val b, .val c] ∧ f a b c n q x := by
  unfold S3 at h
  split at h
  · exact ⟨_, _, _, rfl, h⟩
  · exact h.elim
theorem A1_len {f : D → PM D} : ∀ args n q x, A1 f args n q x → args.length = 1 := fun args n q x h => by obtain ⟨_, rfl, _⟩ := A1_of h; rfl
theorem A2_len {f : D → D → PM D} : ∀ args n q x, A2 f args n q x → args.length = 2 := fun args n q x h => by obtain ⟨_, _, rfl, _⟩ := A2_of h; rfl
theorem A3_len {f : D → D → D → PM D} : ∀ args n q x, A3 f args n q x → args.length = 3 := fun args n q x h => by obtain ⟨_, _, _, rfl, _⟩ := A3_of h; rfl
theorem S0_len {f : PM D} : ∀ args n q x, S0 f args n q x → args.length = 1 := fun args n q x h => by obtain ⟨rfl, _⟩ := S0_of h; rfl
theorem S1_len {f : D → PM D} : ∀ args n q x, S1 f args n q x → args.length = 2 := fun args n q x h => by obtain ⟨_, rfl, _⟩ := S1_of h; rfl
theorem S2_len {f : D → D → PM D} : ∀ args n q x, S2 f args n q x → args.length = 3 := fun args n q x h => by obtain ⟨_, _, rfl, _⟩ := S2_of h; rfl
theorem S3_len {f : D → D → D → PM D} : ∀ args n q x, S3 f args n q x → args.length = 4 := fun args n q x h => by obtain ⟨_, _, _, rfl, _⟩ := S3_of h; rfl
end
/-! names and patterns as data -/
def nameX : D → Bool
  | .str x => nameS x
  | _ => false
def varX : D → Bool
  | .str x => varS x
  | _ => false
def patX : D → Bool
  | .tup (t :: r) => decide (r.length ≤ 3) && (nameX t && r.all fun d => nameX d || varX d)
  | _ => false
def factX : D → Bool
  | .tup (t :: r) => patX (.tup (t :: r)) && (t :: r).all nameX
  | _ => false
/-- a text of a bounded size, or anything else that has a type -/
def Sm (d : D) : Prop := (tyD d).isSome = true ∧ ∀ x, d = .str x → x.length ≤ 10000
/-- .. and the items of a tuple are such -/
def SmT (d : D) : Prop := Sm d ∧ ∀ l, d = .tup l → l.length ≤ 10000 ∧ ∀ e ∈ l, Sm e
def psName : PSp := A1 fun d n q _ => Sm d ∧ q (.bl (nameX d)) n
def psVar : PSp := A1 fun d n q _ => Sm d ∧ q (.bl (varX d)) n
def psPat : PSp := A1 fun d n q _ => SmT d ∧ q (.bl (patX d)) n
def psFact : PSp := A1 fun d n q _ => SmT d ∧ q (.bl (factX d)) n
theorem atI_0 {α : Type} {a : α} {l : List α} : L2.atI (a :: l) 0 = some a := by
  unfold L2.atI ixN
  simp
theorem sgnsD_len (z : Str) : (sgnsD z).length = z.length := by
  unfold sgnsD
  rw [List.length_map, len_cps]
theorem cutD_1 (l : List D) : cutD l (some 1) none = l.drop 1 := by
  unfold cutD
  have e : HT.sIx l.length 0 (some 1) = min 1 l.length := HT.sIx_nat l.length 0 1
  rw [e, HT.sIx_none]
  cases l with
  | nil => rfl
  | cons a l =>
    have m : min 1 (a :: l).length = 1 := by simp
    rw [m]
    exact List.take_of_length_le (by simp)
theorem strs_lt (l : List D) (k : Nat) (h : l.length ≤ k) : l.length ≤ k := h
end G39

/-! names, patterns, their texts: plain lemmas -/
namespace G39
open PySem PySem.Spec PyProof.Rows L2 Evl
/-- of a bounded size -/
def PB (p : List Str) : Prop := 1 ≤ p.length ∧ p.length ≤ 4 ∧ ∀ x ∈ p, x.length ≤ 20
def comma : Str := ⟨#[44]⟩
def textS : List Str → Str
  | [] => Str.empty
  | t :: r => ((t ++ "(") ++ Str.join comma r) ++ ")"
theorem join_len : ∀ (r : List Str), (∀ x ∈ r, x.length ≤ 20) → (Str.join comma r).length ≤ 21 * r.length
  | [], _ => by show (0:Nat) ≤ _; omega
  | [x], h => by
    have := h x (List.mem_cons_self ..)
    show x.length ≤ _
    simp
    omega
  | x :: y :: r, h => by
    have ih := join_len (y :: r) fun z hz => h z (List.mem_cons_of_mem _ hz)
    have hx := h x (List.mem_cons_self ..)
    show ((x ++ comma) ++ Str.join comma (y :: r)).length ≤ _
    rw [len_add, len_add]
    have : comma.length = 1 := rfl
    simp only [List.length_cons] at ih ⊢
    omega
theorem sum_len : ∀ (r : List Str), (∀ x ∈ r, x.length ≤ 20) → (r.map (·.length)).sum ≤ 20 * r.length
  | [], _ => by simp
  | x :: r, h => by
    have ih := sum_len r fun z hz => h z (List.mem_cons_of_mem _ hz)
    have hx := h x (List.mem_cons_self ..)
    simp only [List.map_cons, List.sum_cons, List.length_cons]
    omega
theorem text_len {p : List Str} (h : PB p) : (textS p).length ≤ 200 := by
  cases p with
  | nil => decide
  | cons t r =>
    have h1 := h.2.2 t (List.mem_cons_self ..)
    have h2 := join_len r fun x hx => h.2.2 x (List.mem_cons_of_mem _ hx)
    have h3 := h.2.1
    show (((t ++ "(") ++ Str.join comma r) ++ ")").length ≤ 200
    rw [len_add, len_add, len_add]
    have e1 : ("(" : Str).length = 1 := rfl
    have e2 : (")" : Str).length = 1 := rfl
    simp only [List.length_cons] at h3
    omega
def partsC (a b : List Nat) : List Str := ofC a :: (if b.dropLast = [] then [] else Txt.split (ofC b.dropLast) comma)
/-- what a text is read as -/
def readS (x : Str) : Option (List Str) := match cutAt 40 x.cps.toList with
  | none => none
  | some (a, b) => if b.getLast? = some 41 then (if patX (tupD (partsC a b)) = true then some (partsC a b) else none) else none
theorem last_of : ∀ (l : List Nat) (c : Nat), l.drop (l.length - 1) = [c] ↔ l.getLast? = some c
  | [], c => by simp
  | x :: r, c => by
    have e : x :: r = (x :: r).dropLast ++ [(x :: r).getLast (by simp)] := (List.dropLast_concat_getLast (by simp)).symm
    generalize (x :: r).dropLast = d at e
    generalize (x :: r).getLast (by simp) = y at e
    rw [e]
    simp
theorem parts_len {x : Str} {a b : List Nat} (h : cutAt 40 x.cps.toList = some (a, b)) (hx : x.length ≤ 5000) : (partsC a b).length ≤ 6000 ∧ ∀ y ∈ partsC a b, y.length ≤ 6000 := by
  obtain ⟨e, _⟩ := cutAt_some h
  have el : a.length + b.length + 1 = x.length := by
    rw [← len_cps x, e]
    simp
    omega
  have e2 := split_len (ofC b.dropLast) 44
  have e3 : (ofC b.dropLast).length ≤ b.length := by rw [len_ofC]; simp
  unfold partsC
  refine ⟨?_, fun y hy => ?_⟩
  · by_cases q : b.dropLast = []
    · rw [if_pos q]
      simp
    · rw [if_neg q, List.length_cons]
      show (Txt.split (ofC b.dropLast) ⟨#[44]⟩).length + 1 ≤ _
      omega
  · rcases List.mem_cons.mp hy with rfl | hy
    · rw [len_ofC]
      omega
    · by_cases q : b.dropLast = []
      · rw [if_pos q] at hy
        cases hy
      · rw [if_neg q] at hy
        have := split_each hy
        omega
theorem readS_law {x : Str} {a b : List Nat} (h : cutAt 40 x.cps.toList = some (a, b)) : x.cps.toList.getLast? = some 41 ↔ b.getLast? = some 41 := by
  obtain ⟨e, _⟩ := cutAt_some h
  rw [e]
  cases b with
  | nil => simp
  | cons c r => simp [List.getLast?_append]
def GoodP (p : List Str) : Prop := patX (tupD p) = true
def SOk (x : Str) : Prop := (PyData.str x).canLay0 = true
theorem sok_of {x : Str} (h : ∀ c ∈ x.cps.toList, c < 128) : SOk x := by
  unfold SOk
  simp only [PyData.canLay0, PyData.strOk]
  exact Array.all_eq_true'.mpr fun c hc => decide_eq_true (by have := h c (by simpa using hc); omega)
theorem sgn_fact : ∀ c ∈ (letters ++ digits).cps.toList, c < 128 ∧ c ≠ 40 ∧ c ≠ 41 ∧ c ≠ 44 ∧ c ≠ 63 := by decide +kernel
theorem name_parts {l : List Nat} (h : nameC l = true) : l ≠ [] ∧ l.length ≤ 12 ∧ ∀ c ∈ l, c < 128 ∧ c ≠ 40 ∧ c ≠ 41 ∧ c ≠ 44 ∧ c ≠ 63 := by
  cases l with
  | nil => cases h
  | cons c r =>
    simp only [nameC, Bool.and_eq_true, decide_eq_true_eq] at h
    refine ⟨by simp, by simp; omega, fun d hd => sgn_fact d ?_⟩
    exact of_decide_eq_true (List.all_eq_true.mp h.2.2 d hd)
/-- a name or a variable -/
def TermS (x : Str) : Prop := nameS x = true ∨ varS x = true
theorem term_parts {x : Str} (h : TermS x) : x.cps.toList ≠ [] ∧ x.length ≤ 13 ∧ ∀ c ∈ x.cps.toList, c < 128 ∧ c ≠ 40 ∧ c ≠ 41 ∧ c ≠ 44 := by
  rcases h with h | h
  · obtain ⟨h1, h2, h3⟩ := name_parts h
    rw [len_cps] at h2
    exact ⟨h1, by omega, fun c hc => ⟨(h3 c hc).1, (h3 c hc).2.1, (h3 c hc).2.2.1, (h3 c hc).2.2.2.1⟩⟩
  · have h : varC x.cps.toList = true := h
    rw [← len_cps]
    cases hx : x.cps.toList with
    | nil =>
      rw [hx] at h
      cases h
    | cons c r =>
      rw [hx] at h
      simp only [varC, Bool.and_eq_true, decide_eq_true_eq] at h
      obtain ⟨h1, h2, h3⟩ := name_parts h.2
      refine ⟨by simp, by simp; omega, fun d hd => ?_⟩
      rcases List.mem_cons.mp hd with rfl | hd
      · rw [h.1]
        decide
      · exact ⟨(h3 d hd).1, (h3 d hd).2.1, (h3 d hd).2.2.1, (h3 d hd).2.2.2.1⟩
theorem term_sok {x : Str} (h : TermS x) : SOk x := sok_of fun c hc => ((term_parts h).2.2 c hc).1
theorem good_parts {p : List Str} (h : GoodP p) : ∃ t r, p = t :: r ∧ r.length ≤ 3 ∧ nameS t = true ∧ ∀ x ∈ r, TermS x := by
  unfold GoodP at h
  cases p with
  | nil => cases h
  | cons t r =>
    simp only [tupD, List.map_cons, patX, Bool.and_eq_true, decide_eq_true_eq, List.length_map] at h
    refine ⟨t, r, rfl, h.1, h.2.1, fun x hx => ?_⟩
    have := List.all_eq_true.mp h.2.2 (D.str x) (List.mem_map.mpr ⟨x, hx, rfl⟩)
    simpa [nameX, varX, TermS] using this
theorem good_of {t : Str} {r : List Str} (h1 : r.length ≤ 3) (h2 : nameS t = true) (h3 : ∀ x ∈ r, TermS x) : GoodP (t :: r) := by
  unfold GoodP
  simp only [tupD, List.map_cons, patX, Bool.and_eq_true, decide_eq_true_eq, List.length_map]
  refine ⟨h1, h2, List.all_eq_true.mpr fun d hd => ?_⟩
  obtain ⟨x, hx, rfl⟩ := List.mem_map.mp hd
  simpa [nameX, varX, TermS] using h3 x hx
theorem good_pb {p : List Str} (h : GoodP p) : PB p ∧ ∀ x ∈ p, TermS x := by
  obtain ⟨t, r, rfl, h1, h2, h3⟩ := good_parts h
  have ht : ∀ x ∈ t :: r, TermS x := fun x hx => by
    rcases List.mem_cons.mp hx with rfl | hx
    · exact .inl h2
    · exact h3 x hx
  exact ⟨⟨by simp, by simp; omega, fun x hx => by have := (term_parts (ht x hx)).2.1; omega⟩, ht⟩
theorem text_cps (t : Str) (r : List Str) : (textS (t :: r)).cps.toList = t.cps.toList ++ 40 :: ((Str.join comma r).cps.toList ++ [41]) := by
  show (((t ++ ("(" : Str)) ++ Str.join comma r) ++ (")" : Str)).cps.toList = _
  rw [cps_add, cps_add, cps_add]
  have e1 : ("(" : Str).cps.toList = [40] := rfl
  have e2 : (")" : Str).cps.toList = [41] := rfl
  rw [e1, e2]
  simp
theorem join_codes : ∀ {r : List Str}, (∀ x ∈ r, TermS x) → ∀ c ∈ (Str.join comma r).cps.toList, c < 128
  | [], _, c, hc => by
    have : (Str.join comma []).cps.toList = [] := rfl
    rw [this] at hc
    cases hc
  | [x], h, c, hc => ((term_parts (h x (List.mem_cons_self ..))).2.2 c hc).1
  | x :: y :: r, h, c, hc => by
    have : (Str.join comma (x :: y :: r)).cps.toList = _ := join_cps 44 x y r
    rw [this] at hc
    rcases List.mem_append.mp hc with hc | hc
    · exact ((term_parts (h x (List.mem_cons_self ..))).2.2 c hc).1
    · rcases List.mem_cons.mp hc with rfl | hc
      · decide
      · exact join_codes (fun z hz => h z (List.mem_cons_of_mem _ hz)) c hc
theorem text_sok {p : List Str} (h : GoodP p) : ∀ c ∈ (textS p).cps.toList, c < 128 := by
  obtain ⟨t, r, rfl, h1, h2, h3⟩ := good_parts h
  intro c hc
  rw [text_cps] at hc
  rcases List.mem_append.mp hc with hc | hc
  · exact ((name_parts h2).2.2 c hc).1
  · rcases List.mem_cons.mp hc with rfl | hc
    · decide
    · rcases List.mem_append.mp hc with hc | hc
      · exact join_codes h3 c hc
      · rw [List.mem_singleton.mp hc]
        decide
/-- what is written is read again -/
theorem read_text {p : List Str} (h : GoodP p) : readS (textS p) = some p := by
  obtain ⟨t, r, rfl, h1, h2, h3⟩ := good_parts h
  have hc : cutAt 40 (textS (t :: r)).cps.toList = some (t.cps.toList, (Str.join comma r).cps.toList ++ [41]) := by
    rw [text_cps]
    exact cutAt_of fun z => ((name_parts h2).2.2 40 z).2.1 rfl
  have hp : partsC t.cps.toList ((Str.join comma r).cps.toList ++ [41]) = t :: r := by
    unfold partsC
    rw [ofC_of, List.dropLast_concat, ofC_of]
    cases r with
    | nil => rfl
    | cons x r =>
      have hx := (term_parts (h3 x (List.mem_cons_self ..))).1
      have ne : ¬ (Str.join comma (x :: r)).cps.toList = [] := by
        cases r with
        | nil => exact hx
        | cons y r =>
          have : (Str.join comma (x :: y :: r)).cps.toList = _ := join_cps 44 x y r
          rw [this]
          simp
      rw [if_neg ne]
      have : Txt.split (Str.join comma (x :: r)) comma = x :: r := split_join (by simp) fun y hy z => ((term_parts (h3 y hy)).2.2 44 z).2.2.2 rfl
      rw [this]
  unfold readS
  rw [hc]
  simp only [List.getLast?_append, List.getLast?_singleton, Option.some_or, if_true, hp]
  exact if_pos h
end G39

/-! loops and comprehensions by what holds in them; draws -/
namespace G39
open PySem PySem.Spec PyProof.Rows L2 Evl
theorem loopP_go {pg : PGx} {pb : PSt} {E : PEnds} {I : Nat → List PV → Nat → Prop} {ds : List D}
    (step : ∀ i d ρ n k, ds[i]? = some d → I i ρ n → (∀ ρ' n', I (i + 1) ρ' n' → k ρ' n') → pg d ρ fun ρ' => pb { E with nx := k, ct := k, bk := E.nx } ρ' n)
    (fin : ∀ ρ n, I ds.length ρ n → E.nx ρ n) : ∀ (es : List D) (i : Nat) (ρ : List PV) (n : Nat), ds.drop i = es → i ≤ ds.length → I i ρ n → loopP pg pb E es ρ n
  | [], i, ρ, n, h, hi, g => by
    have e : ds.length ≤ i := List.drop_eq_nil_iff.mp h
    have : i = ds.length := by omega
    rw [this] at g
    exact fin ρ n g
  | d :: es, i, ρ, n, h, hi, g => by
    have lt : i < ds.length := by
      rcases Nat.lt_or_ge i ds.length with z | z
      · exact z
      · rw [List.drop_eq_nil_iff.mpr z] at h
        cases h
    have e := List.drop_eq_getElem_cons lt
    rw [h] at e
    injection e with e1 e2
    refine step i d ρ n _ (by rw [List.getElem?_eq_getElem lt, e1]) g fun ρ' n' g' => ?_
    exact loopP_go step fin es (i + 1) ρ' n' e2.symm lt g'
theorem loopP_inv {pg : PGx} {pb : PSt} {E : PEnds} (I : Nat → List PV → Nat → Prop) {ds : List D} {ρ : List PV} {n : Nat} (h0 : I 0 ρ n)
    (step : ∀ i d ρ n k, ds[i]? = some d → I i ρ n → (∀ ρ' n', I (i + 1) ρ' n' → k ρ' n') → pg d ρ fun ρ' => pb { E with nx := k, ct := k, bk := E.nx } ρ' n)
    (fin : ∀ ρ n, I ds.length ρ n → E.nx ρ n) : loopP pg pb E ds ρ n := loopP_go step fin ds 0 ρ n rfl (Nat.zero_le _) h0
theorem colP_go {f : D → Nat → (Option D → Nat → Prop) → Prop} {I : Nat → List D → Nat → Prop} {ds : List D}
    (step : ∀ i d l n k, ds[i]? = some d → I i l n → (∀ o n', I (i + 1) (l ++ Option.toList o) n' → k o n') → f d n k) : ∀ (es : List D) (i : Nat) (acc : List D) (n : Nat) (q : List D → Nat → Prop), (∀ l n, I ds.length (acc ++ l) n → q l n) → ds.drop i = es → i ≤ ds.length → I i acc n → colP f es n q
  | [], i, acc, n, q, fin, h, hi, g => by
    have e : ds.length ≤ i := List.drop_eq_nil_iff.mp h
    have : i = ds.length := by omega
    rw [this] at g
    exact fin [] n (by rw [List.append_nil]; exact g)
  | d :: es, i, acc, n, q, fin, h, hi, g => by
    have lt : i < ds.length := by
      rcases Nat.lt_or_ge i ds.length with z | z
      · exact z
      · rw [List.drop_eq_nil_iff.mpr z] at h
        cases h
    have e := List.drop_eq_getElem_cons lt
    rw [h] at e
    injection e with e1 e2
    refine step i d acc n _ (by rw [List.getElem?_eq_getElem lt, e1]) g fun o n' g' => ?_
    refine colP_go step es (i + 1) (acc ++ o.toList) n' _ (fun l n h => fin _ n ?_) e2.symm lt g'
    cases o with
    | none => simpa using h
    | some y => simpa using h
theorem colP_inv {f : D → Nat → (Option D → Nat → Prop) → Prop} (I : Nat → List D → Nat → Prop) {ds : List D} {n : Nat} {q : List D → Nat → Prop} (h0 : I 0 [] n)
    (step : ∀ i d l n k, ds[i]? = some d → I i l n → (∀ o n', I (i + 1) (l ++ Option.toList o) n' → k o n') → f d n k)
    (fin : ∀ l n, I ds.length l n → q l n) : colP f ds n q := colP_go step ds 0 [] n q (fun l n h => fin l n h) rfl (Nat.zero_le _) h0
theorem draw_go {lim : Int} {n : Nat} {q : D → Nat → Prop} {x : PX} (hn : n ≤ 900000) (h0 : 0 < lim) (h1 : lim ≤ 1000000) (k : ∀ m : Nat, (m : Int) < lim → q (.int m) (n + 1)) : psDraw [.src, .val (.int lim)] n q x := ⟨hn, h0, h1, k⟩
theorem rng_len (m : Nat) (lo : Int) : (rngD lo m).length = m := by simp [rngD]
theorem rng_at {m i : Nat} {lo : Int} {d : D} (h : (rngD lo m)[i]? = some d) : i < m ∧ d = .int (lo + i) := by
  unfold rngD at h
  rw [List.getElem?_map] at h
  rcases Nat.lt_or_ge i m with z | z
  · rw [List.getElem?_range z] at h
    exact ⟨z, by simpa using h.symm⟩
  · rw [List.getElem?_eq_none (by simpa using z)] at h
    cases h
theorem at_nat {α : Type} {l : List α} {m : Nat} (h : m < l.length) : L2.atI l (m : Int) = some l[m] := by
  unfold L2.atI ixN
  simp [List.getElem?_eq_getElem h, h]
theorem let_sgn : ∀ c ∈ letters.cps.toList, c ∈ (letters ++ digits).cps.toList := by decide +kernel
theorem one_cps (c : Nat) : (⟨#[c]⟩ : Str).cps.toList = [c] := rfl
/-! many names, no two alike -/
def qN (j : Nat) : Str := ("q" : Str) ++ (toString (j : Int) : Str)
def qs (m : Nat) : List Str := (List.range m).map qN
theorem qs_all : (qs 12).Nodup ∧ ∀ x ∈ qs 12, nameS x = true := by decide +kernel
theorem qs_take {m : Nat} (h : m ≤ 12) : qs m = (qs 12).take m := by
  unfold qs
  rw [← List.map_take]
  congr 1
  exact (List.take_range (n := 12) (i := m)).symm ▸ by rw [Nat.min_eq_left h]
theorem qs_nodup {m : Nat} (h : m ≤ 12) : (qs m).Nodup := by
  rw [qs_take h]
  exact qs_all.1.sublist (List.take_sublist _ _)
theorem qs_name {m : Nat} (h : m ≤ 12) {x : Str} (hx : x ∈ qs m) : nameS x = true := by
  rw [qs_take h] at hx
  exact qs_all.2 x (List.mem_of_mem_take hx)
theorem nodup_len : ∀ {l m : List Str}, l.Nodup → (∀ x ∈ l, x ∈ m) → l.length ≤ m.length
  | [], _, _, _ => Nat.zero_le _
  | x :: l, m, hd, hs => by
    have hx := hs x (List.mem_cons_self ..)
    have hd := List.nodup_cons.mp hd
    have ih := nodup_len (l := l) (m := m.erase x) hd.2 fun y hy => (List.mem_erase_of_ne (fun (e : y = x) => hd.1 (by rw [← e]; exact hy))).mpr (hs y (List.mem_cons_of_mem _ hy))
    rw [List.length_erase_of_mem hx] at ih
    have : 0 < m.length := List.length_pos_of_mem hx
    rw [List.length_cons]
    omega
/-- one of them is spare -/
theorem spare_some {m : Nat} (h : m ≤ 11) {xs : List Str} (hx : xs.length ≤ m) : ∃ y r, (qs (m + 1)).filter (fun z => !decide (z ∈ xs)) = y :: r := by
  cases q : (qs (m + 1)).filter (fun z => !decide (z ∈ xs)) with
  | cons y r => exact ⟨y, r, rfl⟩
  | nil =>
    have all := List.filter_eq_nil_iff.mp q
    have := nodup_len (qs_nodup (m := m + 1) (by omega)) fun z hz => by simpa using all z hz
    simp [qs] at this
    omega
theorem strI_len {i : Nat} (h : i ≤ 12) : (toString (i : Int) : Str).length ≤ 100 := by
  have : ∀ j ∈ List.range 13, (toString ((j : Nat) : Int) : Str).length ≤ 100 := by decide +kernel
  exact this i (List.mem_range.mpr (by omega))
theorem var_of {x : Str} (h : nameS x = true) : varS (("?" : Str) ++ x) = true := by
  show varC (("?" : Str) ++ x).cps.toList = true
  rw [cps_add]
  have : ("?" : Str).cps.toList = [63] := rfl
  rw [this]
  show (decide (63 = 63) && nameC x.cps.toList) = true
  rw [show nameC x.cps.toList = true from h]
  rfl
theorem pick_go {ns : List Nat} {N m : Nat} {q : D → Prop} {l : List D} (hm : m < ns.length) (h : ∀ z ∈ ns, z ≤ N) (k : ∀ z : Nat, z ≤ N → q (.int (z : Int))) (e : l = ns.map fun z => .int (z : Int) := by rfl) : ∃ d, L2.atI l (m : Int) = some d ∧ q d := by
  subst e
  refine ⟨_, at_nat (by rw [List.length_map]; exact hm), ?_⟩
  rw [List.getElem_map]
  exact k _ (h _ (List.getElem_mem _))
/-- a name of a letter and signs -/
theorem name_mk {c : Nat} {l : List Nat} (hc : c ∈ letters.cps.toList) (hl : l.length ≤ 11) (h : ∀ d ∈ l, d ∈ (letters ++ digits).cps.toList) : nameS (ofC (c :: l)) = true := by
  show nameC (ofC (c :: l)).cps.toList = true
  rw [ofC_cps]
  simp only [nameC, Bool.and_eq_true, decide_eq_true_eq, List.all_cons]
  exact ⟨hl, decide_eq_true hc, decide_eq_true (let_sgn c hc), List.all_eq_true.mpr fun d hd => decide_eq_true (h d hd)⟩
theorem name_len {z : Str} (h : nameS z = true) : z.length ≤ 12 := by
  have := (name_parts h).2.1
  rwa [len_cps] at this
theorem inV_str (x : Str) (l : List Str) : inV (.str x) (l.map V.str) = decide (x ∈ l) := by
  unfold inV
  rw [List.any_map]
  by_cases h : x ∈ l
  · rw [decide_eq_true h]
    exact List.any_eq_true.mpr ⟨x, h, by simp [eqV]⟩
  · rw [decide_eq_false h]
    refine List.any_eq_false.mpr fun y hy => ?_
    have : y ≠ x := fun e => h (e ▸ hy)
    simp [eqV, this]
theorem in_strs {f : Bool → Bool} {z : Str} {l : List Str} {n : Nat} {q : D → Nat → Prop} {x : PX} (k : q (.bl (f (decide (z ∈ l)))) n) : gIn f (.str z) (.lst (l.map .str)) n q x := by
  refine ⟨.str z, l.map .str, l.map .str, rfl, rfl, flDs_strs l, rfl, ?_, ?_⟩
  · rw [List.all_map]
    exact List.all_eq_true.mpr fun _ _ => rfl
  · rw [inV_str]
    exact k
def psLName : PSp := S0 fun n q _ => n ≤ 800000 ∧ ∀ z m, nameS z = true → m ≤ n + 14 → q (.str z) m
def psNames : PSp := S1 fun a n q _ => ∃ m : Nat, a = .int (m : Int) ∧ m ≤ 10 ∧ n ≤ 700000 ∧ ∀ (xs : List Str) n', xs.length = m → (∀ z ∈ xs, nameS z = true) → xs.Nodup → n' ≤ n + 14 * m → q (.lst (xs.map .str)) n'
theorem lname_go {n : Nat} {q : D → Nat → Prop} {x : PX} (hn : n ≤ 800000) (k : ∀ z m, nameS z = true → m ≤ n + 14 → q (.str z) m) : psLName [.src] n q x := ⟨hn, k⟩
theorem names_go {m : Nat} {n : Nat} {q : D → Nat → Prop} {x : PX} (hm : m ≤ 10) (hn : n ≤ 700000) (k : ∀ (xs : List Str) n', xs.length = m → (∀ z ∈ xs, nameS z = true) → xs.Nodup → n' ≤ n + 14 * m → q (.lst (xs.map .str)) n') : psNames [.src, .val (.int (m : Int))] n q x := ⟨m, rfl, hm, hn, k⟩
end G39

/-! the pool, terms, patterns, facts: promises -/
namespace G39
open PySem PySem.Spec PyProof.Rows L2 Evl
def rowD (r : Str × Nat) : D := .tup [.str r.1, .int (r.2 : Int)]
def poolD (rs : List (Str × Nat)) (cs xs : List Str) : D := .lst [.lst (rs.map rowD), .lst (cs.map .str), .lst (xs.map .str)]
structure PoolW (rs : List (Str × Nat)) (cs xs : List Str) : Prop where
  rl : 1 ≤ rs.length ∧ rs.length ≤ 10
  cl : 2 ≤ cs.length ∧ cs.length ≤ 50
  vl : xs.length = 9
  rn : ∀ r ∈ rs, nameS r.1 = true ∧ r.2 ≤ 3
  cn : ∀ z ∈ cs, nameS z = true
  xn : ∀ z ∈ xs, varS z = true
structure PoolOk (rs : List (Str × Nat)) (cs xs : List Str) : Prop extends PoolW rs cs xs where
  cd : cs.Nodup
  xd : xs.Nodup
  c4 : cs.length ≤ 4
def psPool : PSp := S0 fun n q _ => n ≤ 600000 ∧ ∀ rs cs xs n', PoolOk rs cs xs → n' ≤ n + 1000 → q (poolD rs cs xs) n'
def psTerm : PSp := S3 fun a b c n q _ => ∃ (rs : List (Str × Nat)) (cs xs vs : List Str) (sh : Int), a = poolD rs cs xs ∧ b = .lst (vs.map .str) ∧ c = .int sh ∧ PoolW rs cs xs ∧ vs.length ≤ 1000 ∧ (∀ z ∈ vs, TermS z) ∧ n ≤ 700000 ∧ ∀ z n', (z ∈ cs ∨ z ∈ vs) → n' ≤ n + 3 → q (.str z) n'
def psPattern : PSp := S3 fun a b c n q _ => ∃ (rs : List (Str × Nat)) (cs xs vs : List Str) (sh : Int), a = poolD rs cs xs ∧ b = .lst (vs.map .str) ∧ c = .int sh ∧ PoolW rs cs xs ∧ vs.length ≤ 1000 ∧ (∀ z ∈ vs, TermS z) ∧ n ≤ 600000 ∧ ∀ (t : Str) (r : List Str) (n' : Nat), nameS t = true → r.length ≤ 3 → (∀ z ∈ r, z ∈ cs ∨ z ∈ vs) → n' ≤ n + 20 → q (tupD (t :: r)) n'
/-- facts, in order, no two alike -/
structure FactsOk (ps : List (List Str)) : Prop where
  each : ∀ p ∈ ps, factX (tupD p) = true
  once : ps.Nodup
  pw : ps.Pairwise (fun a b => leP a b = true)
def psFacts : PSp := S2 fun a b n q _ => ∃ (rs : List (Str × Nat)) (cs xs : List Str) (m : Nat), a = poolD rs cs xs ∧ b = .int (m : Int) ∧ PoolOk rs cs xs ∧ m ≤ 40 ∧ n ≤ 500000 ∧ ∀ (ps : List (List Str)) (n' : Nat), FactsOk ps → ps.length ≤ m → n' ≤ n + 1 + 20 * m → q (.lst (ps.map tupD)) n'
theorem pool_go {n : Nat} {q : D → Nat → Prop} {x : PX} (hn : n ≤ 600000) (k : ∀ rs cs xs n', PoolOk rs cs xs → n' ≤ n + 1000 → q (poolD rs cs xs) n') : psPool [.src] n q x := ⟨hn, k⟩
theorem term_go {rs : List (Str × Nat)} {cs xs vs : List Str} {sh : Int} {n : Nat} {q : D → Nat → Prop} {x : PX} (ok : PoolW rs cs xs) (hv : vs.length ≤ 1000) (ht : ∀ z ∈ vs, TermS z) (hn : n ≤ 700000) (k : ∀ z n', (z ∈ cs ∨ z ∈ vs) → n' ≤ n + 3 → q (.str z) n') : psTerm [.src, .val (poolD rs cs xs), .val (.lst (vs.map .str)), .val (.int sh)] n q x := ⟨rs, cs, xs, vs, sh, rfl, rfl, rfl, ok, hv, ht, hn, k⟩
theorem pattern_go {rs : List (Str × Nat)} {cs xs vs : List Str} {sh : Int} {n : Nat} {q : D → Nat → Prop} {x : PX} (ok : PoolW rs cs xs) (hv : vs.length ≤ 1000) (ht : ∀ z ∈ vs, TermS z) (hn : n ≤ 600000) (k : ∀ (t : Str) (r : List Str) (n' : Nat), nameS t = true → r.length ≤ 3 → (∀ z ∈ r, z ∈ cs ∨ z ∈ vs) → n' ≤ n + 20 → q (tupD (t :: r)) n') : psPattern [.src, .val (poolD rs cs xs), .val (.lst (vs.map .str)), .val (.int sh)] n q x := ⟨rs, cs, xs, vs, sh, rfl, rfl, rfl, ok, hv, ht, hn, k⟩
theorem facts_go {rs : List (Str × Nat)} {cs xs : List Str} {m : Nat} {n : Nat} {q : D → Nat → Prop} {x : PX} (ok : PoolOk rs cs xs) (hm : m ≤ 40) (hn : n ≤ 500000) (k : ∀ (ps : List (List Str)) (n' : Nat), FactsOk ps → ps.length ≤ m → n' ≤ n + 1 + 20 * m → q (.lst (ps.map tupD)) n') : psFacts [.src, .val (poolD rs cs xs), .val (.int (m : Int))] n q x := ⟨rs, cs, xs, m, rfl, rfl, ok, hm, hn, k⟩
theorem var_of_nodup {l : List Str} (h : l.Nodup) : (l.map fun z => Str.ofString "?" ++ z).Nodup := by
  refine List.Pairwise.map _ (fun a b hab e => hab ?_) h
  refine str_ext ?_
  have : ((Str.ofString "?") ++ a).cps.toList = ((Str.ofString "?") ++ b).cps.toList := by rw [e]
  rw [cps_add, cps_add] at this
  exact List.append_cancel_left this
theorem tupD_inj {a b : List Str} (h : tupD a = tupD b) : a = b := by
  unfold tupD at h
  injection h with h
  exact (List.map_inj_right fun x y e => by injection e).mp h
theorem tup_mem {p : List Str} {ps : List (List Str)} : tupD p ∈ ps.map tupD ↔ p ∈ ps := by
  rw [List.mem_map]
  constructor
  · rintro ⟨a, ha, e⟩
    rw [← tupD_inj e]
    exact ha
  · exact fun h => ⟨p, h, rfl⟩
theorem pl_strs' : ∀ {l : List Str}, (∀ z ∈ l, SOk z) → plDs (l.map D.str) = true ∧ dpDs (l.map D.str) = 0
  | [], _ => ⟨rfl, rfl⟩
  | z :: l, h => by
    obtain ⟨h1, h2⟩ := pl_strs' fun y hy => h y (List.mem_cons_of_mem _ hy)
    have hz : plD (.str z) = true := h z (List.mem_cons_self ..)
    exact ⟨by simp [plDs, hz, h1], by simp [dpDs, dpD, h2]⟩
theorem pl_tup {p : List Str} (h : ∀ z ∈ p, SOk z) : plD (tupD p) = true ∧ dpD (tupD p) ≤ 1 := by
  obtain ⟨h1, h2⟩ := pl_strs' h
  exact ⟨by simp [tupD, plD, h1], by simp only [tupD, dpD]; omega⟩
theorem pl_tups : ∀ {ps : List (List Str)}, (∀ p ∈ ps, ∀ z ∈ p, SOk z) → plDs (ps.map tupD) = true ∧ dpDs (ps.map tupD) ≤ 1
  | [], _ => ⟨rfl, by decide⟩
  | p :: ps, h => by
    obtain ⟨h1, h2⟩ := pl_tups fun y hy => h y (List.mem_cons_of_mem _ hy)
    obtain ⟨h3, h4⟩ := pl_tup (h p (List.mem_cons_self ..))
    refine ⟨by simp [plDs, h3, h1], ?_⟩
    simp only [List.map_cons, dpDs]
    omega
theorem fact_mk {t : Str} {r : List Str} (h1 : nameS t = true) (h2 : r.length ≤ 3) (h3 : ∀ z ∈ r, nameS z = true) : factX (tupD (t :: r)) = true := by
  simp only [tupD, List.map_cons, factX, patX, Bool.and_eq_true, decide_eq_true_eq, List.length_map, List.all_cons, nameX]
  refine ⟨⟨h2, h1, List.all_eq_true.mpr fun d hd => ?_⟩, h1, List.all_eq_true.mpr fun d hd => ?_⟩
  · obtain ⟨z, hz, rfl⟩ := List.mem_map.mp hd
    simp [nameX, h3 z hz]
  · obtain ⟨z, hz, rfl⟩ := List.mem_map.mp hd
    simp [nameX, h3 z hz]
theorem fact_parts {p : List Str} (h : factX (tupD p) = true) : GoodP p ∧ ∀ z ∈ p, nameS z = true := by
  cases p with
  | nil => cases h
  | cons t r =>
    simp only [tupD, List.map_cons, factX, Bool.and_eq_true] at h
    refine ⟨h.1, fun z hz => ?_⟩
    have := List.all_eq_true.mp h.2 (D.str z) (by rw [← List.map_cons]; exact List.mem_map.mpr ⟨z, hz, rfl⟩)
    exact this
theorem fact_sok {p : List Str} (h : factX (tupD p) = true) : ∀ z ∈ p, SOk z := fun z hz => term_sok (.inl ((fact_parts h).2 z hz))
theorem fact_ne {p : List Str} (h : factX (tupD p) = true) : p ≠ [] := fun e => by
  rw [e] at h
  cases h
theorem nil_eq {f : Bool → Bool} {l : List D} {n : Nat} {q : D → Nat → Prop} {x : PX} (pl : plDs l = true) (dp : dpDs l ≤ 40) (h : q (.bl (f l.isEmpty)) n) : gEqD f (.lst l) (.lst []) n q x := by
  refine gEqD_of (by simpa [plD] using pl) rfl (by simp only [dpD]; omega) (by simp [dpD, dpDs]) ?_
  have e : decide (D.lst l = D.lst []) = l.isEmpty := by
    cases l with
    | nil => simp
    | cons a l => simp
  rw [e]
  exact h
theorem units1 {k : Nat} {A : Around} (r : Room k A) : A.units + 65 < cLine := by
  have := r.un
  omega
theorem at_map {α : Type} {f : α → D} {l : List α} {m : Nat} (h : m < l.length) : L2.atI (l.map f) (m : Int) = some (f l[m]) := by
  rw [at_nat (by rw [List.length_map]; exact h), List.getElem_map]
end G39

/-! the order of two tuples of texts -/
namespace G39
open PySem PySem.Spec PyProof.Rows L2 Evl
open PySem.SeqAt
theorem first_lt : ∀ (x y : List Str) (i : Nat) (e r : Nat → Bool), (∀ j (h1 : j < x.length) (h2 : j < y.length), e (i + j) = (x[j] == y[j]) ∧ r (i + j) = ltT x[j] y[j]) → firstLt e r (decide (x.length < y.length)) (List.range' i (min x.length y.length)) = ltP x y
  | [], [], i, e, r, h => by simp [firstLt, ltP]
  | [], b :: y, i, e, r, h => by simp [firstLt, ltP]
  | a :: x, [], i, e, r, h => by simp [firstLt, ltP]
  | a :: x, b :: y, i, e, r, h => by
    have m : min (a :: x).length (b :: y).length = min x.length y.length + 1 := by
      simp only [List.length_cons]
      omega
    rw [m, List.range'_succ]
    obtain ⟨h1, h2⟩ := h 0 (by simp) (by simp)
    simp only [Nat.add_zero, List.getElem_cons_zero] at h1 h2
    have ih := first_lt x y (i + 1) e r fun j k1 k2 => by
      have z := h (j + 1) (by simpa using k1) (by simpa using k2)
      rw [show i + (j + 1) = i + 1 + j by omega] at z
      simpa using z
    have d : decide ((a :: x).length < (b :: y).length) = decide (x.length < y.length) := by simp
    rw [d]
    unfold ltP
    by_cases c : a = b
    · have c1 : (a == b) = true := by rw [c]; simp
      rw [if_pos c, firstLt_yes (by rw [h1]; exact c1)]
      exact ih
    · have c1 : (a == b) = false := by simpa using c
      rw [if_neg c, firstLt_no (by rw [h1]; exact c1)]
      exact h2
def rLtT (K : PySem.W.Frag) : R2 := fun x y H Q => ∃ a b i j, x = .ref a ∧ y = .ref b ∧ SqT K H a (i.map V.str) ∧ SqT K H b (j.map V.str) ∧ Q (.bl (ltP i j)) H
theorem all2_at {P : Program} {w : World} {h : Heap} : ∀ {x : List Str} {vs : List Value}, All2 ((strHK P w).is h) x vs → ∀ (j : Nat) (h1 : j < x.length) (h2 : j < vs.length), ∃ t, vs[j] = .str x[j] t
  | _, _, .nil, j, h1, h2 => by cases h1
  | _, _, .cons ha hx, 0, h1, h2 => by
    obtain ⟨t, rfl⟩ := ha
    exact ⟨t, rfl⟩
  | _, _, .cons ha hx, j + 1, h1, h2 => by
    simpa using all2_at hx j (by simpa using h1) (by simpa using h2)
section
variable {X : Cx}
theorem op_ltT (hu : X.A.units < cLine) : OpR X (compareOp .Lt) (rLtT X.K) := by
  intro pins s σ H x y v u Q I rx ry h
  obtain ⟨a, b, i, j, rfl, rfl, h1, h2, q⟩ := h
  cases rx
  cases ry
  obtain ⟨a1, o, items, n, e1, ho, hc, hd, hi⟩ := inv_is I h1
  obtain ⟨b1, o2, items2, n2, e2, ho2, hc2, hd2, hi2⟩ := inv_is I h2
  cases e1
  cases e2
  have l1 : i.length = items.size := by rw [hi.len]; simp
  have l2 : j.length = items2.size := by rw [hi2.len]; simp
  have key := RcLt.tuples (A := X.A) (s := s) (l := a) (b := b) (items := items) (items2 := items2) (e := fun k => (i.getD k Str.empty == j.getD k Str.empty)) (r := fun k => ltT (i.getD k Str.empty) (j.getD k Str.empty)) ⟨o, ho, hc, n, hd⟩ ⟨o2, ho2, hc2, n2, hd2⟩ hu
    (fun k k1 k2 => by
      obtain ⟨t, et⟩ := all2_at hi k (by omega) (by simpa using k1)
      obtain ⟨t', et'⟩ := all2_at hi2 k (by omega) (by simpa using k2)
      rw [Array.getElem_toList] at et et'
      rw [et, et']
      have z := EqAt.str_str (A := X.A.in1) (s := s) i[k] t j[k] t'
      simpa [List.getD_eq_getElem?_getD, List.getElem?_eq_getElem (show k < i.length by omega), List.getElem?_eq_getElem (show k < j.length by omega)] using z)
    (fun k k1 k2 _ prog w E Q q => by
      obtain ⟨t, et⟩ := all2_at hi k (by omega) (by simpa using k1)
      obtain ⟨t', et'⟩ := all2_at hi2 k (by omega) (by simpa using k2)
      rw [Array.getElem_toList] at et et'
      rw [et, et']
      refine (PyProof.Rows.lt_str ?_ : wpAny (model prog w) X.A.in1 (compareOp .Lt (.str i[k] t) (.str j[k] t')) Q E s)
      simpa [ltT, List.getD_eq_getElem?_getD, List.getElem?_eq_getElem (show k < i.length by omega), List.getElem?_eq_getElem (show k < j.length by omega)] using q)
  have e : firstLt (fun k => (i.getD k Str.empty == j.getD k Str.empty)) (fun k => ltT (i.getD k Str.empty) (j.getD k Str.empty)) (decide (items.size < items2.size)) (List.range (min items.size items2.size)) = ltP i j := by
    rw [← l1, ← l2, List.range_eq_range']
    refine first_lt i j 0 _ _ fun k k1 k2 => ?_
    simp [List.getD_eq_getElem?_getD, List.getElem?_eq_getElem k1, List.getElem?_eq_getElem k2]
  rw [e] at key
  exact key _ _ _ _ (fin_bl I q rfl)
theorem op_ltTK {K : PySem.W.Frag} (hK : X.K = K) (hu : X.A.units < cLine) : OpR X (compareOp .Lt) (rLtT K) := by
  subst hK
  exact op_ltT hu
end
theorem units0 {k : Nat} {A : Around} (r : Room k A) : A.units < cLine := by
  have := r.un
  omega
section
variable {K : PySem.W.Frag}
def gLtT : D → D → PM D := fun a b n q _ => ∃ x y, a = tupD x ∧ b = tupD y ∧ q (.bl (ltP x y)) n
theorem sr_ltT : SR K (rLtT K) gLtT := fun so F H n vx vy a b q x Q s c ba bb p k => by
  obtain ⟨i, j, rfl, rfl, p⟩ := p
  obtain ⟨a1, xs, e1, h1, r1⟩ := ba.tup s
  obtain ⟨b1, ys, e2, h2, r2⟩ := bb.tup s
  have f1 : xs = i.map V.str := r1.fl (flDs_strs i)
  have f2 : ys = j.map V.str := r2.fl (flDs_strs j)
  subst f1 f2
  exact ⟨a1, b1, i, j, e1, e2, h1, h2, KE.here k s c (.bl _) p⟩
end
end G39

/-! objects: fields, the dict of a store -/
namespace G39
open PySem PySem.Spec PyProof.Rows L2 Evl
section
variable {K : PySem.W.Frag} {F N H H' : Hp} {W : WX'} {te ta tk : TE} {pe pa pk : PEx} {P : Program} {w : World} {so : Option Addr}
/-- one of the fields -/
theorem Rps.look : ∀ {fs : List (Str × V)} {l : List (Str × D)} {f : Str} {d : D}, fs.map Prod.fst = l.map Prod.fst → Rps K F (fs.map Prod.snd) (l.map Prod.snd) → l.lookup f = some d → ∃ v, fs.lookup f = some v ∧ Rp K F v d
  | [], [], f, d, _, _, e => by cases e
  | [], _ :: _, f, d, k, _, _ => by cases k
  | _ :: _, [], f, d, k, _, _ => by cases k
  | (g, v) :: fs, (g', d') :: l, f, d, k, r, e => by
    simp only [List.map_cons, List.cons.injEq] at k
    obtain ⟨rfl, k⟩ := k
    simp only [List.map_cons] at r
    cases r with
    | cons r t =>
      rw [List.lookup_cons] at e ⊢
      cases q : f == g with
      | true =>
        rw [q] at e
        cases e
        exact ⟨v, rfl, r⟩
      | false =>
        rw [q] at e
        exact Rps.look k t e
theorem Bw.obj {C : Addr} {l : List (Str × D)} {v : V} (h : Bw K so F H v (.obj C l)) (s : Sub F H) : ∃ a dx fs, v = .ref a ∧ H a = some (.ins C dx fs) ∧ fs.map Prod.fst = l.map Prod.fst ∧ Rps K F (fs.map Prod.snd) (l.map Prod.snd) := by
  rcases h with h | ⟨p, u, e, h1, h2, h⟩
  · cases h with
    | obj h k t =>
      rcases s _ _ h with z | ⟨z, _⟩
      · exact ⟨_, _, _, rfl, z, k, t⟩
      · exact z.elim
  · cases h with
    | obj k t => exact ⟨p, _, _, e, h1, k, t⟩
/-- e.f, a field -/
def gFld (C : Addr) (f : Str) : D → PM D
  | .obj C' l => fun n q _ => C' = C ∧ ∃ d, l.lookup f = some d ∧ q d n
  | _ => fun _ _ _ => False
theorem se_fld {C : Addr} {f : Str} (c : Cls K C) (na : NoAttr K C f) (h : SimB K W te pe) : SimE K W (tFld K te f) (pUn (gFld C f) pe) := fun so F H σ ρ n q x Q e p xo k =>
  h so F H σ ρ n _ x _ e p xo fun v d N H1 n1 s1 c1 b1 p1 => by
    cases d with
    | obj C' l =>
      obtain ⟨rfl, d, hl, p1⟩ := p1
      obtain ⟨a, dx, fs, rfl, ha, hk, r⟩ := b1.obj s1.sub
      obtain ⟨v, hv, rv⟩ := Rps.look hk r hl
      exact ⟨a, C', dx, fs, v, rfl, ha, c, na, hv, k v d N H1 n1 s1 c1 rv p1⟩
    | _ => exact p1.elim
/-! {x: True for x in ..} -/
def colK (f : D → Nat → (Option D → Nat → Prop) → Prop) : List D → List (List Str) → Nat → (List (List Str) → Nat → Prop) → Prop
  | [], acc, n, q => q acc n
  | d :: ds, acc, n, q => f d n fun o n1 => match o with
    | none => colK f ds acc n1 q
    | some y => ∃ k, y = tupD k ∧ k ∉ acc ∧ colK f ds (acc ++ [k]) n1 q
def pKn (P : Program) (w : World) (pi : PIx) (pg : PGx) (pt : PTx) (pk : PEx) (vs : List Nat) : PEx := fun ρ n q x => pi ρ n (fun ds n1 => ds.length ≤ 900 ∧ colK (elP pg pt pk (wipeP ρ vs)) ds [] n1 fun ks n2 => q (.kn P w ks) n2) x
theorem se_kn {wi : TI} {pi : PIx} {js vs : List Nat} {g : L2.TG} {pg : PGx} {tt : TT} {pt : PTx} (hi : SimI K W wi pi) (hg : SimG K js g pg) (hj : ∀ j ∈ js, j ∈ vs) (ht : SimT K WF tt pt) (he : SimE K WF tk pk) :
    SimE K W (tDg (fun D => KnO P w D []) (putKn K P w) wi g tt tk (tC (.bl true)) vs) (pKn P w pi pg pt pk vs) := fun so F H σ ρ n q x Q e p xo k => hi so F H σ ρ n _ x _ e p xo fun J ds G N1 H1 n1 s1 c1 w1 gk p1 Dl hD => by
  have nD := s1.sub.nil hD
  have sD := c1.ne hD
  have hlen := p1.1
  refine ⟨fun i m Hc => m = ds.length - i ∧ i ≤ ds.length ∧ ∃ N n' L, Step so N1 H1 N Hc ∧ SrcN so Hc n' ∧ N Dl = none ∧ Hc Dl = some (KnO P w Dl L) ∧ L.length ≤ i ∧ Rps K N (L.map fun p => V.ref p.1) ((L.map Prod.snd).map tupD) ∧ colK (elP pg pt pk (wipeP ρ vs)) (ds.drop i) (L.map Prod.snd) n' fun ks n2 => q (.kn P w ks) n2,
    ⟨ds.length, by simp, Nat.zero_le _, N1, n1, [], (Step.refl s1.sub).beside' hD nD, c1.beside sD, nD, upd_same, Nat.le_refl _, .nil, p1.2⟩, ?_⟩
  rintro i m Hc ⟨rfl, hle, N, n', L, h1, h2, h3, h4, h5, hR, h6⟩
  by_cases hlt : i < ds.length
  · refine .inr ⟨w1.goes i Hc hlt (gk Hc h1.keep), fun H' => ∃ N n' L, Step so N1 H1 N H' ∧ SrcN so H' n' ∧ N Dl = none ∧ H' Dl = some (KnO P w Dl L) ∧ L.length ≤ i + 1 ∧ Rps K N (L.map fun p => V.ref p.1) ((L.map Prod.snd).map tupD) ∧ colK (elP pg pt pk (wipeP ρ vs)) (ds.drop (i + 1)) (L.map Prod.snd) n' fun ks n2 => q (.kn P w ks) n2,
      fun H' z => ⟨ds.length - (i + 1), by omega, rfl, hlt, z⟩, fun x H2 y => ?_⟩
    obtain ⟨d, hd, ed⟩ := drop_at hlt
    rw [ed] at h6
    obtain ⟨N2, s2', r2⟩ := w1.yields i Hc x H2 N d hd (gk Hc h1.keep) h1.ex h1.sub y
    have s2 : Step so N Hc N2 H2 := s2'.any
    have c2 : SrcN so H2 n' := s2'.srcN h2
    have t2 := h1.trans s2 c1 h2
    have d2 : H2 Dl = some (KnO P w Dl L) := s2.keep Dl _ sD h4
    have n2 : N2 Dl = none := by rw [s2.new Dl (by rw [h4]; exact fun q => by cases q)]; exact h3
    have e2 := (e.step (s1.trans t2 e.src c1) c2).wipe vs
    refine hg so N2 H2 x d _ _ n' _ _ e2 r2 h6 fun σ2 ρ2 e3 o3 p3 => ⟨wipe_off o3 hj, ht so N2 H2 σ2 ρ2 n' _ noX _ e3 p3 xo_no fun b N3 H3 n3 s3 c3 p4 => ?_⟩
    have t3 := t2.trans s3 c1 c2
    have d3 : H3 Dl = some (KnO P w Dl L) := s3.keep Dl _ sD d2
    have n3' : N3 Dl = none := by rw [s3.new Dl (by rw [d2]; exact fun q => by cases q)]; exact n2
    cases b with
    | true =>
      rw [if_pos rfl] at p4 ⊢
      refine he so N3 H3 σ2 ρ2 n3 _ noX _ (e3.step s3 c3) p4 xo_no fun v dv N4 H4 n4 s4 c4 r4 p5 => ?_
      have t4 := t3.trans s4 c1 c3
      have d4 : H4 Dl = some (KnO P w Dl L) := s4.keep Dl _ sD d3
      have n4' : N4 Dl = none := by rw [s4.new Dl (by rw [d3]; exact fun q => by cases q)]; exact n3'
      obtain ⟨kk, rfl, hk, p6⟩ := p5
      have hR4 := hR.mono (s2.ex.trans (s3.ex.trans s4.ex))
      obtain ⟨b, xs, rfl, hb, rb⟩ := Bw.tup (so := so) (H := H4) (.inl r4) s4.sub
      have ex : xs = kk.map V.str := rb.fl (flDs_strs kk)
      subst ex
      refine ⟨b, kk, L, rfl, rfl, hb, fun p hp => ?_, d4, by omega, hk, N4, n4, L ++ [(b, kk)], t4.beside' hD n4', c4.beside sD, n4', upd_same, by rw [List.length_append]; simp only [List.length_cons, List.length_nil]; omega, ?_, by rw [List.map_append]; exact p6⟩
      · obtain ⟨i2, hi2, e2⟩ := List.getElem_of_mem hp
        have g1 : (L.map fun p => V.ref p.1)[i2]? = some (V.ref p.1) := by rw [List.getElem?_map, List.getElem?_eq_getElem hi2, e2]; rfl
        obtain ⟨d', g2, g3⟩ := hR4.get g1
        rw [List.getElem?_map, List.getElem?_map, List.getElem?_eq_getElem hi2, e2] at g2
        have : d' = tupD p.2 := by simpa using g2.symm
        subst this
        obtain ⟨b', xs', eb, hb', rb'⟩ := Bw.tup (so := so) (H := H4) (.inl g3) s4.sub
        cases eb
        have : xs' = p.2.map V.str := rb'.fl (flDs_strs p.2)
        rw [← this]
        exact hb'
      · rw [List.map_append, List.map_append, List.map_append]
        exact hR4.append (.cons r4 .nil)
    | false =>
      rw [if_neg Bool.false_ne_true] at p4 ⊢
      exact ⟨N3, n3, L, t3, c3, n3', d3, by omega, hR.mono (s2.ex.trans s3.ex), p4⟩
  · have ei : i = ds.length := by omega
    subst ei
    rw [List.drop_of_length_le (Nat.le_refl _)] at h6
    have h6 : q (.kn P w (L.map Prod.snd)) n' := h6
    refine .inl ⟨w1.stops Hc (gk Hc h1.keep), ?_⟩
    have e1 : Ex N (upd N Dl (KnO P w Dl L)) := Ex.new h3
    have t1 : Step so N1 H1 (upd N Dl (KnO P w Dl L)) Hc := ⟨fun b o hb => by
        by_cases q : b = Dl
        · subst q
          rw [upd_same] at hb
          exact .inl (by rw [← hb]; exact h4)
        · rw [upd_ne q] at hb
          exact h1.sub b o hb, h1.ex.trans e1, h1.keep, fun b hb => by
        rw [upd_ne fun z => hb (by rw [z]; exact hD)]
        exact h1.new b hb⟩
    exact k (.ref Dl) _ _ Hc n' (s1.trans t1 e.src c1) h2 (.kn upd_same rfl (hR.mono e1)) h6
end
section
variable {X : Cx} {K : PySem.W.Frag} {P : Program} {w : World} {o e value : Expr} {f : Str} {pos pos' : Pos} {ta tv : TE}
theorem bagKnK (hK : X.K = K) (hP : X.prog = P) (hw : X.w = w) (hu : X.A.units < cLine) : DBag X (fun D => KnO P w D []) (putKn K P w) := by
  subst hK hP hw
  exact bagKn hu
theorem pe_fldK (hK : X.K = K) (he : PE X e ta) (hb : attributeBase e f X.env (eval e X.env) = eval e X.env) : PE X (.Attribute e f pos) (tFld K ta f) := by
  subst hK
  exact pe_fld he hb
theorem ps_fldK (hK : X.K = K) (ha : PE X o ta) (hv : PE X value tv) (hs : swapsWith value (some (.Attribute o f pos')) pos.line X.env = pure false) : PS X (.Assign [.Attribute o f pos'] value pos) (sFld K ta tv f) := by
  subst hK
  exact ps_fld ha hv hs
end
/-! the making of a store -/
def rowsD (ps : List (List Str)) : D := .tup (ps.map tupD)
def storeD (P : Program) (w : World) (C : Addr) (ps : List (List Str)) : D := .obj C [("rows", rowsD ps), ("known", .kn P w ps)]
def spInit (K : PySem.W.Frag) (P : Program) (w : World) (C : Addr) : Sp := fun vs H Q _ => ∃ (x dx : Addr) (v : V) (so : Option Addr) (F : Hp) (n : Nat) (ps : List (List Str)), vs = [.ref x, v] ∧ H x = some (.ins C dx []) ∧ F x = none ∧ so ≠ some x ∧ Sub F H ∧ SrcN so H n ∧ (∀ sa, so = some sa → F sa = none) ∧
  Rp K F v (.lst (ps.map tupD)) ∧ (∀ p ∈ ps, factX (tupD p) = true) ∧ ps.length < 64 ∧
  ∀ N H' fs, Ex F N → Sub N H' → N x = none → H' x = some (.ins C dx fs) → fs.map Prod.fst = ([Str.ofString "rows", Str.ofString "known"] : List Str) → Rps K N (fs.map Prod.snd) [rowsD (srtP (onceP ps)), .kn P w (srtP (onceP ps))] →
    (∀ a o, so ≠ some a → a ≠ x → H a = some o → H' a = some o) → (∀ a, H a ≠ none → a ≠ x → N a = F a) → SrcN so H' n → Q .non H'
section
variable {K : PySem.W.Frag} {W : WX'} {te ta : TE} {pe : PEx} {P : Program} {w : World} {C : Addr}
/-- Store(xs) of facts -/
def pMake (P : Program) (w : World) (C : Addr) (pe : PEx) : PEx := fun ρ n q x => pe ρ n (fun d n1 => ∃ ps, d = .lst (ps.map tupD) ∧ (∀ p ∈ ps, factX (tupD p) = true) ∧ ps.length < 64 ∧ q (storeD P w C (srtP (onceP ps))) n1) x
theorem make_step {so : Option Addr} {N H1 : Hp} {n : Nat} {v : V} {ps : List (List Str)} {Q : VK} {E : XK} {q : D → Nat → Prop} (sub : Sub N H1) (src : SrcN so H1 n) (nsr : ∀ sa, so = some sa → N sa = none) (rv : Rp K N v (.lst (ps.map tupD))) (hf : ∀ p ∈ ps, factX (tupD p) = true) (hl : ps.length < 64) (hq : q (storeD P w C (srtP (onceP ps))) n)
    (k : ∀ v d M H' n', Step so N H1 M H' → SrcN so H' n' → Rp K M v d → q d n' → Q v H') (x dx : Addr) (hx : H1 x = none) (hd : H1 dx = none) (hne : dx ≠ x) :
    spInit K P w C [.ref x, v] (upd (upd H1 dx (.own x)) x (.ins C dx [])) (fun v H2 => v = .non ∧ Q (.ref x) H2) E := by
  have Nx := sub.nil hx
  have Nd := sub.nil hd
  have sx := src.ne hx
  have sd := src.ne hd
  refine ⟨x, dx, v, so, N, n, ps, rfl, upd_same, Nx, sx, (sub.beside Nd).beside Nx, (src.beside sd).beside sx, nsr, rv, hf, hl, fun M H' fs ex sb Mx hH hk hr keep new sr => ⟨rfl, ?_⟩⟩
  have live : ∀ a, H1 a ≠ none → a ≠ x ∧ a ≠ dx := fun a ha => ⟨fun z => ha (by rw [z]; exact hx), fun z => ha (by rw [z]; exact hd)⟩
  refine k (.ref x) (storeD P w C (srtP (onceP ps))) (upd M x (.ins C dx fs)) H' n ⟨fun b o hb => ?_, ex.trans (Ex.new Mx), fun a o ha h => ?_, fun a ha => ?_⟩ sr (.obj upd_same hk (hr.mono (Ex.new Mx))) hq
  · by_cases z : b = x
    · subst z
      rw [upd_same] at hb
      exact .inl (by rw [← hb]; exact hH)
    · rw [upd_ne z] at hb
      exact sb b o hb
  · obtain ⟨h1, h2⟩ := live a (by rw [h]; simp)
    exact keep a o ha h1 (by rw [upd_ne h1, upd_ne h2]; exact h)
  · obtain ⟨h1, h2⟩ := live a ha
    rw [upd_ne h1]
    exact new a (by rw [upd_ne h1, upd_ne h2]; exact ha) h1
theorem se_make {E : XK} (h : SimE K W te pe) : SimE K W (tMake C (spInit K P w C) [] E (tCons te tNil)) (pMake P w C pe) := fun so F H σ ρ n q x Q e p xo k =>
  h so F H σ ρ n _ x _ e p xo fun v d N H1 n1 s1 c1 r1 ⟨ps, ed, hf, hl, p1⟩ x dx hx hd hne => by
    subst ed
    exact make_step s1.sub c1 (e.step s1 c1).nsr r1 hf hl p1 (fun v d M H' n' s c r z => k v d M H' n' (s1.trans s e.src c1) c r z) x dx hx hd hne
/-- e.f, a property -/
def pProp (C : Addr) (psp : PSp) (pe : PEx) : PEx := fun ρ n q x => pe ρ n (fun d n1 => (∃ l, d = .obj C l) ∧ psp [.val d] n1 q noX) x
theorem se_prop {psp : PSp} {E : XK} (h : SimE K W te pe) : SimE K W (tProp C (lift K psp) [] E te) (pProp C psp pe) := fun so F H σ ρ n q x Q e p xo k =>
  h so F H σ ρ n _ x _ e p xo fun v d N H1 n1 s1 c1 r1 ⟨⟨l, ed⟩, p1⟩ => by
    subst ed
    obtain ⟨a, dx, fs, rfl, ha, _, _⟩ := Bw.obj (so := so) (H := H1) (.inl r1) s1.sub
    exact ⟨a, dx, fs, rfl, ha, so, N, [.val (.obj C l)], n1, q, noX, s1.sub, c1, (e.step s1 c1).nsr, .cons r1 .nil, p1, fun v d M H' n' s c r z => k v d M H' n' (s1.trans s e.src c1) c r z, fun _ _ _ _ _ _ _ _ _ z => z.elim⟩
/-- o.m() -/
theorem se_meth0 {psp : PSp} {m : Str} {E : XK} (h : SimE K W te pe) (hm : ∀ l : List (Str × V), l.map Prod.fst = ([Str.ofString "rows", Str.ofString "known"] : List Str) → l.lookup m = none) : SimE K W (tMeth C m (lift K psp) [] E te tNil) (fun ρ n q x => pe ρ n (fun d n1 => (∃ l, d = .obj C l ∧ l.map Prod.fst = ([Str.ofString "rows", Str.ofString "known"] : List Str)) ∧ psp [.val d] n1 q noX) x) := fun so F H σ ρ n q x Q e p xo k =>
  h so F H σ ρ n _ x _ e p xo fun v d N H1 n1 s1 c1 r1 ⟨⟨l, ed, hl⟩, p1⟩ => by
    subst ed
    obtain ⟨a, dx, fs, rfl, ha, hk, _⟩ := Bw.obj (so := so) (H := H1) (.inl r1) s1.sub
    exact ⟨a, dx, fs, rfl, ha, hm fs (hk.trans hl), so, N, [.val (.obj C l)], n1, q, noX, s1.sub, c1, (e.step s1 c1).nsr, .cons r1 .nil, p1, fun v d M H' n' s c r z => k v d M H' n' (s1.trans s e.src c1) c r z, fun _ _ _ _ _ _ _ _ _ z => z.elim⟩
end
/-! cls(xs), cls a parameter -/
def tMakeL (i : Nat) (C : Addr) (sp : Sp) (dvs : List V) (E : XK) (t : TA) : TE := fun σ H Q => σ[i]? = some (some (.ref C)) ∧ tMake C sp dvs E t σ H Q
section
variable {X : Cx} {CX : CXT} {k i : Nat} {f C : Addr} {fd : FuncData} {ps : List Str} {sp : Sp} {dvs : List V} {ds : List Value} {E : XK} {x : Str} {p pos : Pos} {e : Expr} {es : List Expr} {t : TA}
theorem pe_makeL (M : Mk X.K C f) (F : FnOk X.prog X.w X.K X.mg X.base CX k f fd ps sp) (hr : Room (k + 1) X.A) (hN : X.N[i]? = some x) (hv : Vis X.env.scope x) (hb : Binds X.K fd ps ds) (hd : Vals dvs ds) (hx : Passes CX X E) (ha : PA X (e :: es) t)
    (hdb : (x == ("__debug__" : Str)) = false := by decide) (hcd : (x == ("__classdict__" : Str)) = false := by decide)
    (he : starEach (e :: es) X.env = (false, eval e X.env) :: starEach es X.env := by rfl) (hpl : (backTo pos (starEach es X.env)).any (·.1) = false := by rfl) : PE X (.Call (.Name x p) (e :: es) [] pos) (tMakeL i C sp dvs E t) := by
  refine ⟨fun pins s σ H Q I h => ?_⟩
  obtain ⟨hs, ht⟩ := h
  refine wpAny_Call_Name_kw (thn ((pe_var (pos := p) hN hv hdb hcd).run pins s σ H (fun v H1 => v = .ref C ∧ H1 = H) I ⟨.ref C, hs, rfl, rfl⟩) fun u s1 ⟨v, H1, I1, r1, q1⟩ => ?_)
  obtain ⟨rfl, rfl⟩ := q1
  cases r1
  refine PySem.W.callWith_K (h₀ := X.base) I.ok.mod.kin M.kp (thn (ha.run pos pins s1 σ _ _ I1 ht) fun us s2 ⟨vs, H2, I2, r, q⟩ => ⟨I2.kIn, ?_⟩) he hpl
  exact run_make M F hr hb hd hx I2 r q
end
section
variable {K : PySem.W.Frag} {W : WX'} {te : TE} {pe : PEx} {P : Program} {w : World} {C : Addr} {E : XK}
def pMakeL (i : Nat) (P : Program) (w : World) (C : Addr) (pe : PEx) : PEx := fun ρ n q x => ρ[i]? = some (.me C) ∧ pMake P w C pe ρ n q x
theorem se_makeL (i : Nat) (h : SimE K W te pe) : SimE K W (tMakeL i C (spInit K P w C) [] E (tCons te tNil)) (pMakeL i P w C pe) := fun so F H σ ρ n q x Q e p xo k => by
  obtain ⟨o, h1, h2⟩ := e.sl i _ p.1
  have h2 : o = some (.ref C) := h2
  subst h2
  exact ⟨h1, se_make h so F H σ ρ n q x Q e p.2 xo k⟩
end
end G39

/-! exceptions over data: raising one with a field -/
namespace G39
open PySem PySem.Spec PyProof.Rows L2 Evl
/-- __init__ of an exception that keeps one value -/
def spI1 (C : Addr) (f : Str) : Sp := fun vs H Q _ => ∃ (a : Addr) (v : V), vs = [.ref a, v] ∧ H a = some (exo a C none) ∧
  ∀ d, H d = none → d ≠ a → Q .non (upd (upd H d (exd d [(f, v)])) a (exo a C (some d)))
section
variable {K : PySem.W.Frag} {W : WX'} {te : TE} {pe : PEx} {C : Addr} {f : Str}
def tRaise (C : Addr) (f : Str) (W : WX') (te : TE) : TS := fun _ σ H => tMkO C (spI1 C f) [] (tCons te tNil) σ H fun cls d H' => W cls d σ H'
def pRaise (C : Addr) (f : Str) (pe : PEx) : PSt := fun E ρ n => pe ρ n (fun d n1 => E.xc (.ref C) [(f, d)] n1) E.xc
theorem ss_raise (h : SimE K W te pe) : SimS K W (tRaise C f W te) (pRaise C f pe) := fun Fb F0 H0 so0 so F H σ ρ n D E r p k =>
  h so F H σ ρ n _ _ _ r.en p (r.xo k) fun v d N H1 n1 s1 c1 rv z => ⟨by simp, fun a ha => ⟨a, v, rfl, upd_same, fun dd hd hne => ⟨rfl, dd, [(f, v)], upd_same, by rw [upd_ne hne, upd_same], by rw [upd_ne hne] at hd; exact hd, by
    rw [upd_ne hne] at hd
    have e : upd (del (upd (upd (upd H1 a (exo a C none)) dd (exd dd [(f, v)])) a (exo a C (some dd))) a) dd (.xd [(f, v)]) = upd H1 dd (.xd [(f, v)]) := by
      funext b
      by_cases h1 : b = dd
      · subst h1
        rw [upd_same, upd_same]
      · rw [upd_ne h1, upd_ne h1]
        by_cases h2 : b = a
        · subst h2
          rw [del_same, ha]
        · rw [del_ne h2, upd_ne h2, upd_ne h1, upd_ne h2]
    rw [e]
    have r1 := r.step s1 c1
    have r2 := r1.step (Step.beside (o := .xd [(f, v)]) s1.sub hd) (c1.fresh hd)
    exact k.xc so N _ σ ρ n1 (.ref C) (some dd) [(f, d)] r2 ⟨[(f, v)], upd_same, rfl, .cons rv .nil⟩ z⟩⟩⟩
end
section
variable {X : Cx} {K : PySem.W.Frag} {W : WX'} {x f : Str} {C fI : Addr} {k : Nat} {fd : FuncData} {e : Expr} {te : TE} {p pos pos' : Pos}
theorem ps_raiseX (hc : X.calm = true) (tk : Takes X W) (T : OexC X.K C) (iC : PySem.W.findIn X.K (.ref C) "__init__" = some (some (.ref fI))) (tI : PySem.W.typeIn X.K (.ref fI) = some (.type "function")) (F1 : FnOk X.prog X.w X.K X.mg X.base CX0 k fI fd ["self", f] (spI1 C f)) (hr : Room (k + 1) X.A)
    (hb : Binds X.K fd ["self", f] []) (hg : Gl X x) (hm : X.mg x = some (.ref C)) (ha : PA X [e] (tCons te tNil)) (hdb : (x == ("__debug__" : Str)) = false := by decide) (he : starEach [e] X.env = (false, eval e X.env) :: starEach [] X.env := by rfl) :
    PS X (.Raise (some (.Call (.Name x p) [e] [] pos)) none pos') (tRaise C f W te) := ps_raise hc tk (pmk_oex T iC tI F1 hr hb .nil pass0 hg hm ha hdb he)
end
end G39

/-! a classmethod that may raise, called on its class -/
namespace G39
open PySem PySem.Spec PyProof.Rows L2 Evl
def tCMethS (C : Addr) (sp : Sp) (E : L2.St → XK) (ta : TE) (t : TA) : TE := fun σ H Q => ta σ H fun x H1 => x = .ref C ∧ t σ H1 fun vs H2 => sp (.ref C :: vs) H2 Q (E σ)
section
variable {X : Cx} {CX : CXT} {k : Nat} {C p g : Addr} {mc : Value} {sp : Sp} {E : L2.St → XK} {o e : Expr} {es : List Expr} {f m : Str} {pos apos : Pos} {ta : TE} {t : TA} {pl : Sem Bool} {pins : List (Addr × Obj)} {σ : L2.St} {H : Hp} {s : Shared}
theorem run_cmS {q : Addr} {Q : VK} {us : List Value} {vs : List V} (F : FnR X.prog X.w X.K X.mg X.base CX k g sp) (hr : Room k X.A) (hx : PassesAt CX X σ (E σ)) (I : Inv X ((q, PySem.W.methodObj (.ref g) (.ref C)) :: pins) σ H s)
    (r : Vals vs us) (h : sp (.ref C :: vs) H Q (E σ)) : wpAny (model X.prog X.w) X.A (call (.ref q) us) (EP X pins σ Q) X.xe s := by
  have z : wpAny (model X.prog X.w) X.A (call (.ref q) us) (EP X ((q, PySem.W.methodObj (.ref g) (.ref C)) :: pins) σ Q) X.xe s := by
    refine wpAny_call (PySem.W.method_call (ClX.pin_at I) ?_)
    refine codeAny_mono (F X.A X.stack s H (.ref C :: us) (.ref C :: vs) Q (E σ) hr I.env0 (.cons rfl r) h) fun r s' hq => ?_
    cases r with
    | error e => exact hx _ H s e s' I hq
    | ok fl =>
      cases fl with
      | ret u => exact I.after hq
      | next => exact False.elim hq
      | brk => exact False.elim hq
      | cont => exact False.elim hq
  exact thn z fun _ _ y => ClX.unpinE y
theorem pe_cmethS (he : PE X o ta) (r : ClX.CRead X.K C mc) (c : ClX.CMet X.K C mc m p g) (F : FnR X.prog X.w X.K X.mg X.base CX k g sp) (hr : Room k X.A) (hx : ∀ σ, PassesAt CX X σ (E σ)) (ha : PA X (e :: es) t)
    (hst : starEach (e :: es) X.env = (false, eval e X.env) :: starEach es X.env := by rfl) (hpl : (backTo pos (starEach es X.env)).any (·.1) = false := by rfl)
    (ht : eval (.Call (.Attribute o m apos) (e :: es) [] pos) X.env = (do
      let ov ← eval o X.env
      standAt apos.atName
      let (f, first) ← holding [ov] (getMethod ov m pl)
      callWith pos f first (backTo pos (starEach (e :: es) X.env)) (backToKw pos (keywordEach [] X.env))) := by rfl) :
    PE X (.Call (.Attribute o m apos) (e :: es) [] pos) (tCMethS C sp E ta t) := by
  refine ⟨fun pins s σ H Q I h => ?_⟩
  refine PySem.W.methodCall_KW (pl := pl) (thn (he.run pins s σ H _ I h) fun u s1 ⟨x, H1, I1, rx, ex, q⟩ => ?_) ht
  subst ex
  obtain rfl : u = Value.ref C := rx
  refine ClX.getmethcm_ok I1 r c fun s2 I2 => ?_
  refine ClX.callwith_cm I2 (ClX.base_none I1 (Nat.le_refl _)) c.fi (thn (ha.run pos _ s2 σ H1 _ I2 q) fun us s3 ⟨vs, H2, I3, rv, q2⟩ => ⟨⟨ClX.pin_at I3, I3.kIn⟩, ?_⟩) hst hpl
  exact run_cmS F hr (hx σ) I3 rv q2
end
section
variable {K : PySem.W.Frag} {W : WX'} {ta : TA} {pa : PAx} {C : Addr}
def pCMeth (C : Addr) (psp : PSp) (pa : PAx) : PEx := fun ρ n q x => pa ρ n (fun ps n1 => psp (.me C :: ps) n1 q x) x
theorem se_cmethS {psp : PSp} (h : SimA K W ta pa) : SimE K W (tCMethS C (lift K psp) (fun σ cls dd H => W cls dd σ H) (tC (.ref C)) ta) (pCMeth C psp pa) := fun so F H σ ρ n q x Q e p xo k =>
  ⟨rfl, h so F H σ ρ n _ x _ e p xo fun vs ps N H1 n1 s1 c1 r1 p1 =>
    ⟨so, N, .me C :: ps, n1, q, x, s1.sub, c1, s1.nsr e.nsr e.src, .cons (p := .me C) rfl r1, p1, KE.step k s1 e.src c1, fun cls dd fs M H2 n2 s2 c2 r z => xo cls dd fs M H2 n2 (s1.trans s2 e.src c1) c2 r z⟩⟩
end
/-! try: return e, except C as x: return x.f -/
def tTryRet (K : PySem.W.Frag) (C : Addr) (f : Str) (i : Nat) (te : WX' → TE) : TS := fun D σ H => tRet (te (wAs K (.ref C) i (fun a cls d => tRet (tXf a cls d C f (tVar i))) (fun _ _ _ _ => False) D)) D σ H
def pTryRet (C : Addr) (f : Str) (i : Nat) (pe : PEx) : PSt := fun E ρ n => i < ρ.length ∧ pe ρ n E.rt (fun cls fs n1 => cls = .ref C ∧ ∃ d, fs.lookup f = some d ∧ E.rt d n1)
theorem ss_tryRet {K : PySem.W.Frag} {W0 : WX'} {C : Addr} {f : Str} {i : Nat} {te : WX' → TE} {pe : PEx} (hm : PySem.W.exmOne K (.ref C) (.ref C) = some true) (h : ∀ W, SimE K W (te W) pe) : SimS K W0 (tTryRet K C f i te) (pTryRet C f i pe) := fun Fb F0 H0 so0 so F H σ ρ n D E r p k =>
  h _ so F H σ ρ n _ _ _ r.en p.2 (fun cls dd fs N H1 n1 s1 c1 xr z => by
    obtain ⟨rfl, d, hl, z⟩ := z
    refine ⟨true, hm, fun _ a ha => ?_, fun e => by cases e⟩
    have il : i < σ.length := by rw [r.en.len]; exact p.1
    refine ⟨.ref a, by rw [List.getElem?_set, if_pos rfl, if_pos il], rfl, rfl, ?_⟩
    cases dd with
    | none =>
      have : fs = [] := xr
      subst this
      cases hl
    | some dd =>
      obtain ⟨kvs, h1, h2, h3⟩ := xr
      obtain ⟨v, hv, rv⟩ := Rps.look h2 h3 hl
      exact ⟨dd, kvs, v, rfl, h1, hv, k.rt v d N H1 n1 (r.step s1 c1).st0 (r.step s1 c1).src0 rv z⟩) fun v d N H1 n1 s1 c1 rv z => k.rt v d N H1 n1 (r.step s1 c1).st0 (r.step s1 c1).src0 rv z
section
variable {X : Cx} {x n f : Str} {C : Addr} {i : Nat} {e : Expr} {te : WX' → TE} {np rp rp2 ap np2 pos pos' : Pos}
theorem ps_tryRet (hs : X.stack = X.env :: X.outer) (hf : X.env.frame = some X.env.locals) (hN : X.N.Nodup) (hi : X.N[i]? = some n) (hln : X.env.kindOf n = some .local) (hc : Names X x (.ref C)) (T : XfC X.K C) (hno : PySem.W.findIn X.K (.ref C) f = some none)
    (hb : ∀ (W : WX') (pn : List (Addr × Obj)) (xe : Value → Shared → Prop), Takes (X.tr pn xe) W → PE (X.tr pn xe) e (te W))
    (hv : ∀ (a : Addr) (oe : Obj) (pn : List (Addr × Obj)), PE (X.suite a ((a, oe) :: pn)) (.Name n np2) (tVar i)) (hat : attributeBase (.Name n np2) f X.env (eval (.Name n np2) X.env) = eval (.Name n np2) X.env := by rfl) :
    PS X (.Try [.Return (some e) rp] [.ExceptHandler (some (.Name x np)) (some n) [.Return (some (.Attribute (.Name n np2) f ap)) rp2] pos'] [] [] pos) (tTryRet X.K C f i te) :=
  ps_try_as (tb := fun W => tRet (te W)) (ts := fun a cls d => tRet (tXf a cls d C f (tVar i))) hs hf hN hi hln hc takes0 (fun W pn xe tk _ => pss_one (ps_ret (hb W pn xe tk))) (fun a oe cls d pn hz hf2 => pss_one (ps_ret (pe_xf T hno hz hf2 (hv a oe pn) hat)))
end
end G39

/-! own == and != over data; a classmethod called by names alone -/
namespace G39
open PySem PySem.Spec PyProof.Rows L2 Evl
/-- the class at C has its own __eq__ at g -/
structure OwnEq (K : PySem.W.Frag) (C g : Addr) : Prop where
  eq : PySem.W.findIn K (.ref C) "__eq__" = some (some (.ref g))
  fn : PySem.W.isFn K (.ref g) = true
  ne : PySem.W.findIn K (.ref C) "__ne__" = some (some (.builtin "object.__ne__"))
  ca : PySem.W.findIn K (.ref C) "__class__" = some (some (.builtin "object.__class__"))
  cn : PySem.W.specialIn K (.builtin "object.__class__") "__get__" = some (some (.builtin "getset_descriptor.__get__"))
  ct : PySem.W.takesIn K (.builtin "object.__class__") = some true
  cm : PySem.W.mroIn K C (.type "object") = some true
/-- x == y, x an instance of the class at C -/
def rOwnE (K : PySem.W.Frag) (C : Addr) (sp : Sp) : R2 := fun x y H Q => ∃ a dx fs t, x = .ref a ∧ H a = some (.ins C dx fs) ∧ TyX K H y t ∧ PySem.W.notFirst K C t = true ∧ sp [x, y] H Q E0
def rOwnN (K : PySem.W.Frag) (C : Addr) (sp : Sp) : R2 := fun x y H Q => ∃ a dx fs t, x = .ref a ∧ H a = some (.ins C dx fs) ∧ TyX K H y t ∧ PySem.W.notFirst K C t = true ∧ sp [x, y] H (fun v H' => ∃ r, v = .bl r ∧ Q (.bl (!r)) H') E0
section
variable {X : Cx} {K : PySem.W.Frag} {k : Nat} {C g : Addr} {sp : Sp}
theorem op_ownE (hK : X.K = K) (O : OwnEq K C g) (F : FnR X.prog X.w X.K X.mg X.base CX0 k g sp) (hr : Room k X.A) : OpR X (compareOp .Eq) (rOwnE K C sp) := by
  subst hK
  intro pins s σ H x y v u Q I rx ry h
  obtain ⟨a, dx, fs, t, rfl, ha, ty, hn, q⟩ := h
  cases (show v = Value.ref a from rx)
  obtain ⟨mA, Oi, _⟩ := ins_get I.hok ha
  obtain ⟨od, J, _⟩ := Oi.look
  obtain ⟨m, hF⟩ := I.fr
  obtain ⟨P, Z, p, _⟩ := kit_of I ry ty
  show wpAny (model X.prog X.w) X.A (richCompare .Eq (.ref a) u) (EP X pins σ Q) X.xe s
  refine PySem.W.cmp_K (op := .Eq) (tb := t) hr.units0 hF I.ok.mod.kin J (Z.ty _ _ I.kIn p) hn O.eq O.fn ?_
  refine wpAny_mono (wpAny_call (run_fnR (us := [.ref a, u]) (vs := [.ref a, y]) F hr pass0 I (.cons rfl (.cons ry .nil)) q)) (fun w s' z => ?_) fun _ _ x => x
  obtain ⟨z', H', I', rz, qz⟩ := z
  exact SlX.cmpback rz ⟨z', H', I', rz, qz⟩
theorem op_ownN (hK : X.K = K) (O : OwnEq K C g) (F : FnR X.prog X.w X.K X.mg X.base CX0 k g sp) (hr : Room (k + 1) X.A) : OpR X (compareOp .NotEq) (rOwnN K C sp) := by
  subst hK
  intro pins s σ H x y v u Q I rx ry h
  obtain ⟨a, dx, fs, t, rfl, ha, ty, hn, q⟩ := h
  cases (show v = Value.ref a from rx)
  obtain ⟨mA, Oi, _⟩ := ins_get I.hok ha
  obtain ⟨od, J, _⟩ := Oi.look
  obtain ⟨m, hF⟩ := I.fr
  obtain ⟨P, Z, p, _⟩ := kit_of I ry ty
  show wpAny (model X.prog X.w) X.A (richCompare .NotEq (.ref a) u) (EP X pins σ Q) X.xe s
  refine ne_K (tb := t) (Room.units0 (k := k) hr.in1) hF I.ok.mod.kin J (Z.ty _ _ I.kIn p) hn O.eq O.fn O.ne O.cm ?_
  refine wpAny_mono (wpAny_call (SlX.run_at (us := [.ref a, u]) (ws := [.ref a, y]) F hr.in1 I.env0.in1 pass0 I (.cons rfl (.cons ry .nil)) q)) (fun w s' z => ?_) fun _ _ x => x
  obtain ⟨z', H', I', rz, r, er, qz⟩ := z
  subst er
  cases (show w = Value.bool r from rz)
  exact ⟨r, rfl, .bl (!r), H', I', rfl, qz⟩
end
/-- what may stand on the right -/
def eqR (C : Addr) (d : D) : Prop := (tyD d).isSome = true ∨ ∃ l, d = .obj C l
theorem notFirst_ty {K : PySem.W.Frag} {C : Addr} : ∀ t ∈ tys, PySem.W.notFirst K C (.type t) = true := by
  intro t ht
  simp only [tys, List.mem_cons, List.not_mem_nil, or_false] at ht
  rcases ht with rfl | rfl | rfl | rfl | rfl | rfl | rfl <;> rfl
section
variable {K : PySem.W.Frag} {W : WX'} {ta tb : TE} {pa pb : PEx} {C g : Addr}
theorem notFirst_self : PySem.W.notFirst K C (.ref C) = true := by unfold PySem.W.notFirst; simp
theorem eqR.ty {so : Option Addr} {F H : Hp} {v : V} {d : D} (O : OwnEq K C g) (c : Cls K C) (h : eqR C d) (r : Rp K F v d) (s : Sub F H) : ∃ t, TyX K H v t ∧ PySem.W.notFirst K C t = true := by
  rcases h with h | ⟨l, rfl⟩
  · obtain ⟨t, ht⟩ := Option.isSome_iff_exists.mp h
    exact ⟨.type t, Bw.ty (so := so) (.inl r) s ht, notFirst_ty t (tyD_in ht)⟩
  · obtain ⟨a, dx, fs, rfl, ha, _, _⟩ := Bw.obj (so := so) (H := H) (.inl r) s
    exact ⟨.ref C, .base (.ins ha c O.ca O.cn O.ct O.cm), notFirst_self⟩
/-- x == y -/
def pOwnE (C : Addr) (psp : PSp) (pa pb : PEx) : PEx := fun ρ n q x => pa ρ n (fun a n1 => (∃ l, a = .obj C l) ∧ pb ρ n1 (fun b n2 => eqR C b ∧ psp [.val a, .val b] n2 q noX) x) x
def pOwnN (C : Addr) (psp : PSp) (pa pb : PEx) : PEx := fun ρ n q x => pa ρ n (fun a n1 => (∃ l, a = .obj C l) ∧ pb ρ n1 (fun b n2 => eqR C b ∧ psp [.val a, .val b] n2 (fun d n3 => match d with | .bl r => q (.bl (!r)) n3 | _ => False) noX) x) x
theorem se_ownE {psp : PSp} (O : OwnEq K C g) (c : Cls K C) (ha : SimE K W ta pa) (hb : SimE K W tb pb) : SimE K W (tOp (rOwnE K C (lift K psp)) ta tb) (pOwnE C psp pa pb) := fun so F H σ ρ n q x Q e p xo k =>
  ha so F H σ ρ n _ x _ e p xo fun v d N H1 n1 s1 c1 r1 ⟨⟨l, ed⟩, p1⟩ => hb so N H1 σ ρ n1 _ x _ (e.step s1 c1) p1 (xo.step s1 e.src c1) fun v2 d2 M H2 n2 s2 c2 r2 ⟨er, p2⟩ => by
    subst ed
    have s12 := s1.trans s2 e.src c1
    have r1' := r1.mono s2.ex
    obtain ⟨a, dx, fs, rfl, ha, _, _⟩ := Bw.obj (so := so) (H := H2) (.inl r1') s2.sub
    obtain ⟨t, ty, nf⟩ := er.ty (so := so) O c r2 s2.sub
    exact ⟨a, dx, fs, t, rfl, ha, ty, nf, so, M, [.val (.obj C l), .val d2], n2, q, noX, s2.sub, c2, (e.step s12 c2).nsr, .cons r1' (.cons r2 .nil), p2, fun v d M' H' n' s c r z => k v d M' H' n' (s12.trans s e.src c2) c r z, fun _ _ _ _ _ _ _ _ _ z => z.elim⟩
theorem se_ownN {psp : PSp} (O : OwnEq K C g) (c : Cls K C) (ha : SimE K W ta pa) (hb : SimE K W tb pb) : SimE K W (tOp (rOwnN K C (lift K psp)) ta tb) (pOwnN C psp pa pb) := fun so F H σ ρ n q x Q e p xo k =>
  ha so F H σ ρ n _ x _ e p xo fun v d N H1 n1 s1 c1 r1 ⟨⟨l, ed⟩, p1⟩ => hb so N H1 σ ρ n1 _ x _ (e.step s1 c1) p1 (xo.step s1 e.src c1) fun v2 d2 M H2 n2 s2 c2 r2 ⟨er, p2⟩ => by
    subst ed
    have s12 := s1.trans s2 e.src c1
    have r1' := r1.mono s2.ex
    obtain ⟨a, dx, fs, rfl, ha, _, _⟩ := Bw.obj (so := so) (H := H2) (.inl r1') s2.sub
    obtain ⟨t, ty, nf⟩ := er.ty (so := so) O c r2 s2.sub
    refine ⟨a, dx, fs, t, rfl, ha, ty, nf, so, M, [.val (.obj C l), .val d2], n2, _, noX, s2.sub, c2, (e.step s12 c2).nsr, .cons r1' (.cons r2 .nil), p2, fun v d M' H' n' s c r z => ?_, fun _ _ _ _ _ _ _ _ _ z => z.elim⟩
    cases r <;> first
      | exact z.elim
      | exact ⟨_, rfl, k _ _ M' H' n' (s12.trans s e.src c2) c (.bl _) z⟩
end
/-- the names in their places -/
def gK {α : Type} (us ws : List α) : List α := us ++ ws
theorem gK_rel {vs zs : List V} {us ws : List Value} (h1 : Vals vs us) (h2 : Vals zs ws) : Vals (gK vs zs) (gK us ws) := h1.append h2
/-! C.m(k = v) -/
section
variable {X : Cx} {CX : CXT} {k : Nat} {C p g : Addr} {mc : Value} {sp : Sp} {E : L2.St → XK} {o : Expr} {m : Str} {pos apos : Pos} {ta : TE} {tk : TA} {pl : Sem Bool} {kws : List Keyword} {ks ps : List Str} {fd : FuncData}
def tCMethK (C : Addr) (sp : Sp) (E : L2.St → XK) (ta : TE) (t : TA) : TE := fun σ H Q => ta σ H fun x H1 => x = .ref C ∧ t σ H1 fun vs H2 => sp (.ref C :: vs) H2 Q (E σ)
theorem pe_cmethK (he : PE X o ta) (r : ClX.CRead X.K C mc) (c : ClX.CMet X.K C mc m p g) (F : FnOk X.prog X.w X.K X.mg X.base CX k g fd ps sp) (hr : Room k X.A) (hb : KBn X.K fd ps 1 ks gK gK) (hn : ps.length = 1 + ks.length) (hx : ∀ σ, PassesAt CX X σ (E σ)) (ha : PK X kws tk)
    (hall : (backToKw pos (keywordEach kws X.env)).all (·.1.isSome) = true := by rfl) (hks : (backToKw pos (keywordEach kws X.env)).filterMap (·.1) = ks := by rfl)
    (hpl : ((backTo pos (starEach [] X.env)).any (·.1) || (backToKw pos (keywordEach kws X.env)).any (·.1.isNone)) = false := by rfl)
    (ht : eval (.Call (.Attribute o m apos) [] kws pos) X.env = (do
      let ov ← eval o X.env
      standAt apos.atName
      let (f, first) ← holding [ov] (getMethod ov m pl)
      callWith pos f first (backTo pos (starEach [] X.env)) (backToKw pos (keywordEach kws X.env))) := by rfl) :
    PE X (.Call (.Attribute o m apos) [] kws pos) (tCMethK C sp E ta tk) := by
  refine ⟨fun pins s σ H Q I h => ?_⟩
  refine PySem.W.methodCall_KW (pl := pl) (thn (he.run pins s σ H _ I h) fun u s1 ⟨x, H1, I1, rx, ex, q⟩ => ?_) ht
  subst ex
  obtain rfl : u = Value.ref C := rx
  refine ClX.getmethcm_ok I1 r c fun s2 I2 => ?_
  refine PySem.W.callWith_of hpl (PySem.W.keeps_M (q := s1.heap.objs.size) (self := .ref C) c.fi) (PyProof.Rows.evalArgs_kw2_nil hall (thn (ha.run pos _ s2 σ H1 _ I2 q) fun us s3 ⟨vs, H2, I3, rv, q2⟩ => ⟨⟨ClX.pin_at I3, I3.kIn⟩, ?_⟩))
  rw [hks]
  have z : wpAny (model X.prog X.w) X.A (call (.ref s1.heap.objs.size) [] (ks.zip us)) (EP X ((s1.heap.objs.size, PySem.W.methodObj (.ref g) (.ref C)) :: pins) σ Q) X.xe s3 := by
    refine wpAny_call (PySem.W.method_call (ClX.pin_at I3) ?_)
    have r2 : Vals (.ref C :: vs) (.ref C :: us) := .cons rfl rv
    have hl : us.length = ks.length := by
      have := F.len _ _ _ _ q2
      rw [← rv.length]
      simp only [List.length_cons] at this
      omega
    refine codeAny_mono (F.run X.A X.stack s3 H2 ⟨[.ref C], ks.zip us⟩ (.ref C :: us) (.ref C :: vs) Q (E σ) hr I3.env0 (hb.to s3 [.ref C] us I3.kIn rfl hl) r2 q2) fun r s' hq => ?_
    cases r with
    | error e => exact hx _ _ H2 s3 e s' I3 hq
    | ok fl =>
      cases fl with
      | ret u => exact I3.after hq
      | next => exact False.elim hq
      | brk => exact False.elim hq
      | cont => exact False.elim hq
  exact thn z fun _ _ y => ClX.unpinE y
end
section
variable {K : PySem.W.Frag} {W : WX'} {ta : TA} {pa : PAx} {C : Addr}
theorem se_cmethK {psp : PSp} (h : SimA K W ta pa) : SimE K W (tCMethK C (lift K psp) (fun σ cls dd H => W cls dd σ H) (tC (.ref C)) ta) (pCMeth C psp pa) := se_cmethS h
end
end G39

/-! isinstance of a class of the program; methods, properties, classmethods as bundles -/
namespace G39
open PySem PySem.Spec PyProof.Rows L2 Evl
/-- what the top has of a class -/
structure ClsA (K : PySem.W.Frag) (mg : Str → Option Value) (nm : Str) (C : Addr) : Prop where
  g : mg nm = some (.ref C)
  c : Cls K C
  ca : PySem.W.findIn K (.ref C) "__class__" = some (some (.builtin "object.__class__"))
  cn : PySem.W.specialIn K (.builtin "object.__class__") "__get__" = some (some (.builtin "getset_descriptor.__get__"))
  ct : PySem.W.takesIn K (.builtin "object.__class__") = some true
  cm : PySem.W.mroIn K C (.type "object") = some true
  ic : PySem.W.isClsIn K C = true
  ty : PySem.W.typeIn K (.ref C) = some (.type "type")
/-- is an instance of the class at C -/
def isC (C : Addr) : D → Bool
  | .obj C' _ => decide (C' = C)
  | _ => false
theorem kit_no {K : PySem.W.Frag} {C : Addr} (ic : PySem.W.isClsIn K C = true) (ty : PySem.W.typeIn K (.ref C) = some (.type "type")) : ∀ t ∈ tys, PySem.W.kitOne K (.type t) (.ref C) = some false := by
  intro t ht
  have h : ∀ t ∈ tys, PySem.W.subIn K (.type t) (.ref C) = some false := by
    intro t ht
    simp only [tys, List.mem_cons, List.not_mem_nil, or_false] at ht
    rcases ht with rfl | rfl | rfl | rfl | rfl | rfl | rfl <;> rfl
  unfold PySem.W.kitOne
  rw [if_neg (by simp)]
  show (if ((PySem.W.clsIn K C).isSome && PySem.W.typeIn K (.ref C) == some (.type "type")) = true then PySem.W.subIn K (.type t) (.ref C) else none) = _
  have hc : (PySem.W.clsIn K C).isSome = true := ic
  rw [if_pos (by rw [hc, ty]; simp)]
  exact h t ht
theorem kit_self {K : PySem.W.Frag} {C : Addr} : PySem.W.kitOne K (.ref C) (.ref C) = some true := by
  unfold PySem.W.kitOne
  rw [if_pos (by simp)]
section
variable {K : PySem.W.Frag} {mg : Str → Option Value} {nm : Str} {W : WX'} {te : TE} {pe : PEx} {C : Addr}
def gIsC (C : Addr) : D → PM D := fun d n q _ => eqR C d ∧ q (.bl (isC C d)) n
theorem se_isC (A : ClsA K mg nm C) (h : SimB K W te pe) : SimE K W (tCB (rIsi K) (tCons te (tCons (tC (.ref C)) tNil))) (pUn (gIsC C) pe) := fun so F H σ ρ n q x Q e p xo k =>
  h so F H σ ρ n _ x _ e p xo fun v d N H1 n1 s1 c1 b1 ⟨er, p1⟩ => by
    have fin : ∀ (t : Value) (b : Bool), TyX K H1 v t → PySem.W.kitOne K t (.ref C) = some b → isC C d = b → rIsi K [v, .ref C] H1 Q := fun t b ty hk hb => ⟨v, .ref C, t, .ref C, b, rfl, .own C, ty, hk, by
      rw [← hb]
      exact k _ _ N H1 n1 s1 c1 (.bl _) p1⟩
    rcases er with hs | ⟨l, rfl⟩
    · obtain ⟨t, ht⟩ := Option.isSome_iff_exists.mp hs
      refine fin (.type t) false (b1.ty s1.sub ht) (kit_no A.ic A.ty t (tyD_in ht)) ?_
      cases d <;> first | rfl | (simp [tyD] at ht)
    · obtain ⟨a, dx, fs, rfl, ha, _, _⟩ := b1.obj s1.sub
      exact fin (.ref C) true (.base (.ins ha A.c A.ca A.cn A.ct A.cm)) kit_self (by simp [isC])
/-- o.m(..) -/
def pMeth (C : Addr) (m : Str) (psp : PSp) (pe : PEx) (pa : PAx) : PEx := fun ρ n q x => pe ρ n (fun d n1 => (∃ l, d = .obj C l ∧ (l.map Prod.fst).contains m = false) ∧ pa ρ n1 (fun ps n2 => psp (.val d :: ps) n2 q x) x) x
theorem look_none : ∀ {fs : List (Str × V)} {m : Str}, (fs.map Prod.fst).contains m = false → fs.lookup m = none
  | [], _, _ => rfl
  | (f, v) :: fs, m, h => by
    simp only [List.map_cons, List.contains_cons, Bool.or_eq_false_iff] at h
    rw [List.lookup_cons, h.1]
    exact look_none h.2
theorem se_meth {psp : PSp} {m : Str} {E : XK} {ta : TA} {pa : PAx} (hE : ∀ cls dd σ H, W cls dd σ H → E cls dd H) (h : SimE K W te pe) (ha : SimA K W ta pa) : SimE K W (tMeth C m (lift K psp) [] E te ta) (pMeth C m psp pe pa) := fun so F H σ ρ n q x Q e p xo k =>
  h so F H σ ρ n _ x _ e p xo fun v d N H1 n1 s1 c1 r1 ⟨⟨l, ed, hl⟩, p1⟩ => by
    subst ed
    obtain ⟨a, dx, fs, rfl, hh, hk, _⟩ := Bw.obj (so := so) (H := H1) (.inl r1) s1.sub
    refine ⟨a, dx, fs, rfl, hh, look_none (by rw [hk]; exact hl), ha so N H1 σ ρ n1 _ x _ (e.step s1 c1) p1 (xo.step s1 e.src c1) fun vs ps M H2 n2 s2 c2 r2 p2 => ?_⟩
    have s12 := s1.trans s2 e.src c1
    rw [List.append_nil]
    exact ⟨so, M, .val (.obj C l) :: ps, n2, q, x, s2.sub, c2, s12.nsr e.nsr e.src, .cons (p := .val _) (r1.mono s2.ex) r2, p2, KE.step k s12 e.src c2, fun cls dd fs M' H3 n3 s3 c3 r z => hE cls dd σ H3 (xo cls dd fs M' H3 n3 (s12.trans s3 e.src c2) c3 r z)⟩
def pMeth0 (C : Addr) (m : Str) (psp : PSp) (pe : PEx) (pa : PAx) : PEx := fun ρ n q x => pe ρ n (fun d n1 => (∃ l, d = .obj C l ∧ (l.map Prod.fst).contains m = false) ∧ pa ρ n1 (fun ps n2 => psp (.val d :: ps) n2 q noX) x) x
theorem se_methN {psp : PSp} {m : Str} {ta : TA} {pa : PAx} (h : SimE K W te pe) (ha : SimA K W ta pa) : SimE K W (tMeth C m (lift K psp) [] E0 te ta) (pMeth0 C m psp pe pa) := fun so F H σ ρ n q x Q e p xo k =>
  h so F H σ ρ n _ x _ e p xo fun v d N H1 n1 s1 c1 r1 ⟨⟨l, ed, hl⟩, p1⟩ => by
    subst ed
    obtain ⟨a, dx, fs, rfl, hh, hk, _⟩ := Bw.obj (so := so) (H := H1) (.inl r1) s1.sub
    refine ⟨a, dx, fs, rfl, hh, look_none (by rw [hk]; exact hl), ha so N H1 σ ρ n1 _ x _ (e.step s1 c1) p1 (xo.step s1 e.src c1) fun vs ps M H2 n2 s2 c2 r2 p2 => ?_⟩
    have s12 := s1.trans s2 e.src c1
    rw [List.append_nil]
    exact ⟨so, M, .val (.obj C l) :: ps, n2, q, noX, s2.sub, c2, s12.nsr e.nsr e.src, .cons (p := .val _) (r1.mono s2.ex) r2, p2, KE.step k s12 e.src c2, fun _ _ _ _ _ _ _ _ _ z => z.elim⟩
end
/-- nothing comes out of a callee that is asked for nothing -/
theorem passX {X : Cx} : ∀ σ, PassesAt (L2.CX X.prog X.w) X σ E0 := fun σ _ _ _ e s' I c => by
  obtain ⟨_, _, _, _, _, _, _, _, _, _, _, _, h⟩ := c
  exact h.elim
theorem passXs {X : Cx} : Passes (L2.CX X.prog X.w) X E0 := fun _ _ _ _ e s' I c => by
  obtain ⟨_, _, _, _, _, _, _, _, _, _, _, _, h⟩ := c
  exact h.elim
section
variable {K : PySem.W.Frag} {W : WX'} {ta : TA} {pa : PAx} {C : Addr}
/-- a classmethod that is asked for no exception -/
def pCMeth0 (C : Addr) (psp : PSp) (pa : PAx) : PEx := fun ρ n q x => pa ρ n (fun ps n1 => psp (.me C :: ps) n1 q noX) x
theorem se_cmethN {psp : PSp} (h : SimA K W ta pa) : SimE K W (tCMethS C (lift K psp) (fun _ => E0) (tC (.ref C)) ta) (pCMeth0 C psp pa) := fun so F H σ ρ n q x Q e p xo k =>
  ⟨rfl, h so F H σ ρ n _ x _ e p xo fun vs ps N H1 n1 s1 c1 r1 p1 =>
    ⟨so, N, .me C :: ps, n1, q, noX, s1.sub, c1, s1.nsr e.nsr e.src, .cons (p := .me C) rfl r1, p1, KE.step k s1 e.src c1, fun _ _ _ _ _ _ _ _ _ z => z.elim⟩⟩
theorem se_cmethKN {psp : PSp} (h : SimA K W ta pa) : SimE K W (tCMethK C (lift K psp) (fun _ => E0) (tC (.ref C)) ta) (pCMeth0 C psp pa) := se_cmethN h
end
end G39

/-! bundles: what a caller wants of a method, a property, a classmethod, a class -/
namespace G39
open PySem PySem.Spec PyProof.Rows L2 Evl
section
variable (P : Program) (w : World) (K : PySem.W.Frag) (mg : Str → Option Value) (base : Heap)
structure MetR (CX : CXT) (k : Nat) (C : Addr) (m : Str) (ps : List Str) (sp : Sp) (f : Addr) (fd : FuncData) : Prop where
  h : Meth K C m f
  F : FnOk P w K mg base CX k f fd ps sp
  b : Binds K fd ps []
structure PropR (k : Nat) (C : Addr) (m : Str) (ps : List Str) (sp : Sp) (p f : Addr) (fd : FuncData) : Prop where
  h : PropOf K C m p f
  F : FnOk P w K mg base CX0 k f fd ps sp
  b : Binds K fd ps []
structure CMetR (CX : CXT) (k : Nat) (C : Addr) (m : Str) (ps ks : List Str) (sp : Sp) (mc : Value) (p f : Addr) (fd : FuncData) : Prop where
  r : ClX.CRead K C mc
  c : ClX.CMet K C mc m p f
  F : FnOk P w K mg base CX k f fd ps sp
  b : Binds K fd ps []
  k : KBn K fd ps 1 ks gK gK
  n : ps.length = 1 + ks.length
structure EqR (k : Nat) (C : Addr) (sp : Sp) (f : Addr) (fd : FuncData) (ps : List Str) : Prop where
  o : OwnEq K C f
  F : FnOk P w K mg base CX0 k f fd ps sp
  b : Binds K fd ps []
end
section
variable {P : Program} {w : World} {K : PySem.W.Frag} {mg : Str → Option Value} {base : Heap} {CX : CXT} {k : Nat} {C f p : Addr} {m : Str} {ps ks : List Str} {sp : Sp} {fd : FuncData} {mc : Value}
theorem FnOk.raw0 (F : FnOk P w K mg base CX k f fd ps sp) (b : Binds K fd ps []) : FnR P w K mg base CX k f sp := (F.raw b .nil).imp fun vs H Q E h => by rw [List.append_nil]; exact h
theorem CMetR.raw (x : CMetR P w K mg base CX k C m ps ks sp mc p f fd) : FnR P w K mg base CX k f sp := FnOk.raw0 x.F x.b
theorem EqR.raw (x : EqR P w K mg base k C sp f fd ps) : FnR P w K mg base CX0 k f sp := FnOk.raw0 x.F x.b
theorem Fun.kb {x qual : Str} {st : Stmt} (F : Fun K x qual st f fd) {n : Nat}
    (h : ∀ (kV doc pm : Value) (an : Option Addr) (cdv ct : Value) (us ws : List Value), us.length = n → ws.length = ks.length → bindArgs (PySem.W.fnOf x qual (defArgs st) (defBody st) (defScope st) .none kV doc pm an cdv ct) ⟨us, ks.zip ws⟩ = pure (ps.zip (gK us ws))) : KBn K fd ps n ks gK gK := by
  obtain ⟨oc, od, kV, doc, pm, an, cdv, ct, osl, rfl, lk, hcd⟩ := F.ex
  exact ⟨fun s us ws _ h1 h2 => .of_eq (h kV doc pm an cdv ct us ws h1 h2), gK_rel⟩
/-- an exception with fields, as it stands behind the top -/
structure ExA (K : PySem.W.Frag) (mg : Str → Option Value) (nm qual : Str) (st : Stmt) (fl : List Str) (C fI : Addr) (fd : FuncData) : Prop where
  g : mg nm = some (.ref C)
  o : OexC K C
  iC : PySem.W.findIn K (.ref C) "__init__" = some (some (.ref fI))
  tI : PySem.W.typeIn K (.ref fI) = some (.type "function")
  F : Fun K "__init__" qual st fI fd
  b : Binds K fd ("self" :: fl) []
  no : ∀ f ∈ fl, PySem.W.findIn K (.ref C) f = some none
  xf : XfC K C
  hm : PySem.W.exmOne K (.ref C) (.ref C) = some true
end
end G39

set_option maxHeartbeats 1000000
/-! == and != of two lists, of two tuples: each two items are asked, their answers are known, what is kept is kept -/
namespace G39
open PySem PySem.Spec PyProof.Rows L2 PySem.SeqAt MeetsSeq MeetsSeq2 MeetsSeq3 SeqRoads2
open AutoSeq1 (wpAny_loadPart')
section
variable {prog : Program} {w : World} {A : Around} {R : Result → Shared → Prop}
/-- what is kept: both lists stand, of N and M items, and each two items answer e -/
def KeepL (prog : Program) (w : World) (A : Around) (X : Value → Shared → Prop) (I : Shared → Prop) (la lb : Addr) (N M : Nat) (e : Nat → Bool) : Prop :=
  ∀ s, I s → ∃ (xs ys : Array Value) (n1 n2 : Nat), s.heap.get? la = some { cls := .type "list", data := .seq xs n1 } ∧ s.heap.get? lb = some { cls := .type "list", data := .seq ys n2 } ∧ xs.size = N ∧ ys.size = M ∧
    ∀ j (h1 : j < xs.size) (h2 : j < ys.size), wpAny (model prog w) A (eqBool xs[j] ys[j]) (fun r s' => r = e j ∧ I s') X s
/-- the two items at j answer e j -/
def AskL (prog : Program) (w : World) (A : Around) (X : Value → Shared → Prop) (I : Shared → Prop) (xs ys : Array Value) (e : Nat → Bool) : Prop :=
  ∀ j (h1 : j < xs.size) (h2 : j < ys.size) s, I s → wpAny (model prog w) A (eqBool xs[j] ys[j]) (fun r s' => r = e j ∧ I s') X s
theorem loopq_eq {I : Shared → Prop} {la lb : Addr} {N : Nat} {e : Nat → Bool} (kp : KeepL prog w A.in1 (fun x s' => R (.error x) s') I la lb N N e) : ∀ (m j : Nat), N - j = m → j ≤ N → ∀ s, I s →
      (∀ s', I s' → R (.ok (.ret (.bool (if ((List.range N).drop j).all e = true then true else false)))) s') →
      wpAny (model prog w) A.in1 (Builtin.«list.__eq__.loop» ⟨[.ref la, .ref lb, rawInt j, rawInt 2], []⟩) (GQ.FinOf prog w A R) (fun x s' => R (.error x) s') s := by
  intro m
  induction m with
  | zero =>
    intro j hm hj s hi fin
    obtain ⟨xs, ys, n1, n2, g1, g2, sz1, sz2, _⟩ := kp s hi
    have sz : xs.size = ys.size := by rw [sz1, sz2]
    have hr := fin s hi
    rw [List.drop_of_length_le (by rw [List.length_range]; omega)] at hr
    obtain ⟨hp, g, d, tk, os⟩ := s
    wp_walk using wpAny_loadPart' g1, wpAny_loadPart' g2
    have z1 : xs[((j : Nat) : Int).toNat]? = none := by simp; omega
    have z2 : ys[((j : Nat) : Int).toNat]? = none := by simp; omega
    rw [z1, z2]
    wp_walk using wpAny_loadPart' g1, wpAny_loadPart' g2
    first
      | (show R (.ok (.ret (.bool (xs.size == ys.size)))) _
         rw [sz]
         simpa using hr)
      | (show R (.ok (.ret (.bool (xs.size != ys.size)))) _
         rw [sz]
         simpa using hr)
  | succ m ih =>
    intro j hm hj s hi fin
    obtain ⟨xs, ys, n1, n2, g1, g2, sz1, sz2, ask⟩ := kp s hi
    have b1 : j < xs.size := by omega
    have b2 : j < ys.size := by omega
    have bN : j < N := by omega
    have turn := ask j b1 b2
    have nx := fun s2 (h2 : I s2) => ih (j + 1) (by omega) (by omega) s2 h2
    have ed : (List.range N).drop j = j :: (List.range N).drop (j + 1) := by simp [List.drop_eq_getElem_cons, bN]
    rw [ed, List.all_cons] at fin
    obtain ⟨hp, g, d, tk, os⟩ := s
    wp_walk using wpAny_loadPart' g1, wpAny_loadPart' g2
    have z1 : xs[((j : Nat) : Int).toNat]? = some xs[j] := by simp [b1]
    have z2 : ys[((j : Nat) : Int).toNat]? = some ys[j] := by simp [b2]
    have zc : ((j : Int) + 1) = ((j + 1 : Nat) : Int) := by omega
    rw [z1, z2]
    refine wpAny_bind (wpAny_mono turn (fun r s2 q => ?_) fun _ _ x => x)
    obtain ⟨hr, h2⟩ := q
    subst hr
    have nx2 := nx s2 h2
    obtain ⟨xs', ys', n3, n4, g3, g4, sz3, sz4, _⟩ := kp s2 h2
    have z3 : xs'[((j : Nat) : Int).toNat]? = some (xs'[j]'(by omega)) := by simp [show j < xs'.size by omega]
    have z4 : ys'[((j : Nat) : Int).toNat]? = some (ys'[j]'(by omega)) := by simp [show j < ys'.size by omega]
    cases he : e j with
    | true =>
      rw [he, Bool.true_and] at fin
      have last := nx2 fin
      obtain ⟨hp2, g2', d2, tk2, os2⟩ := s2
      wp_walk
      rw [zc]
      refine ⟨plainId_quiet plain_eq_loop _, codeAny_builtin entry_eq_loop ?_⟩
      rw [Around.under_plainId plain_eq_loop _]
      exact last
    | false =>
      rw [he, Bool.false_and] at fin
      have hr := fin s2 h2
      rw [if_neg Bool.false_ne_true] at hr
      obtain ⟨hp2, g2', d2, tk2, os2⟩ := s2
      wp_walk using wpAny_loadPart' g3, wpAny_loadPart' g4
      rw [z3, z4]
      wp_walk
      exact hr
theorem listq_eq {I : Shared → Prop} {la lb : Addr} {N M : Nat} {e : Nat → Bool} (kp : KeepL prog w A.in1 (fun x s' => R (.error x) s') I la lb N M e) {s : Shared} (hi : I s)
    (fin : ∀ s', I s' → R (.ok (.ret (.bool (if (N == M && (List.range N).all e) = true then true else false)))) s') :
    wpAny (model prog w) A.in1 (Builtin.«list.__eq__» ⟨[.ref la, .ref lb], []⟩) (GQ.FinOf prog w A R) (fun x s' => R (.error x) s') s := by
  obtain ⟨xs, ys, n1, n2, g1, g2, sz1, sz2, _⟩ := kp s hi
  have f3 := AutoSeq1.sub_list_list
  by_cases sz : N = M
  · subst sz
    have e1 : (N == N) = true := by simp
    rw [e1, Bool.true_and] at fin
    have rec1 := loopq_eq (A := A) (R := R) kp _ 0 rfl (Nat.zero_le _) s hi (by simpa using fin)
    obtain ⟨hp, g, d, tk, os⟩ := s
    have hne : ¬ (xs.size != ys.size) = true := by simp [sz1, sz2]
    wp_walk using wpAny_loadPart' g1, wpAny_loadPart' g2
    refine ⟨plainId_quiet plain_eq_loop _, codeAny_builtin entry_eq_loop ?_⟩
    rw [Around.under_plainId plain_eq_loop _]
    exact rec1
  · have e1 : (N == M) = false := by simpa using sz
    rw [e1, Bool.false_and] at fin
    have hr := fin s hi
    rw [if_neg Bool.false_ne_true] at hr
    obtain ⟨hp, g, d, tk, os⟩ := s
    have hne : (xs.size != ys.size) = true := by rw [sz1, sz2]; simpa using sz
    wp_walk using wpAny_loadPart' g1, wpAny_loadPart' g2
    exact hr
theorem tupq_eq {I : Shared → Prop} {la lb : Addr} {xs ys : Array Value} {n1 n2 : Nat} {dd dd2 : Option Addr} {sl sl2 : Array (Option Value)} {e : Nat → Bool} (ask : AskL prog w A.in1 (fun x s' => R (.error x) s') I xs ys e) {s : Shared} (hi : I s)
    (g1 : s.heap.get? la = some { cls := .type "tuple", dict := dd, data := .seq xs n1, slots := sl }) (g2 : s.heap.get? lb = some { cls := .type "tuple", dict := dd2, data := .seq ys n2, slots := sl2 })
    (fin : ∀ s', I s' → R (.ok (.ret (.bool (if (xs.size == ys.size && (List.range (min xs.size ys.size)).all e) = true then true else false)))) s') :
    wpAny (model prog w) A.in1 (Builtin.«tuple.__eq__» ⟨[.ref la, .ref lb], []⟩) (GQ.FinOf prog w A R) (fun x s' => R (.error x) s') s := by
  have f2 := AutoSeq1.sub_tuple_tuple
  have zl : (xs.toList.zip ys.toList).length = min xs.size ys.size := by simp
  have h0 := hi
  obtain ⟨hp, g, d, tk, os⟩ := s
  wp_walk using wpAny_loadPart' g1, wpAny_loadPart' g2, wpAny_forIn_list _ (fun rest b s' => b.1 = none ∧ I s' ∧ ∃ j, rest = (xs.toList.zip ys.toList).drop j ∧ j ≤ min xs.size ys.size ∧ ((List.range (min xs.size ys.size)).take j).all e = true) _
  case turn =>
    rintro ⟨y, x⟩ rest b s' ⟨hb, h1, j, hz, hj, hall⟩
    have bj : j < (xs.toList.zip ys.toList).length := by
      rcases Nat.lt_or_ge j (xs.toList.zip ys.toList).length with z | z
      · exact z
      · rw [List.drop_of_length_le z] at hz
        cases hz
    have b1 : j < xs.size := by rw [zl] at bj; omega
    have b2 : j < ys.size := by rw [zl] at bj; omega
    rw [List.drop_eq_getElem_cons bj] at hz
    injection hz with hyx hrest
    have ey : y = xs[j] := by simpa using congrArg Prod.fst hyx
    have ex : x = ys[j] := by simpa using congrArg Prod.snd hyx
    subst ey ex
    refine wpAny_bind (wpAny_mono (ask j b1 b2 s' h1) (fun r s2 q => ?_) fun _ _ x => x)
    obtain ⟨hr, h2⟩ := q
    subst hr
    cases he : e j with
    | true =>
      wp_walk
      refine ⟨rfl, h2, j + 1, hrest, by rw [zl] at bj; omega, ?_⟩
      rw [List.all_eq_true] at hall ⊢
      intro i hm
      rw [List.take_range, List.mem_range] at hm
      by_cases q : i = j
      · rw [q]
        exact he
      · exact hall i (by rw [List.take_range, List.mem_range]; omega)
    | false =>
      wp_walk
      have hf := fin s2 h2
      have na : (xs.size == ys.size && (List.range (min xs.size ys.size)).all e) = false := by
        rw [Bool.and_eq_false_iff]
        refine .inr ?_
        rw [← Bool.not_eq_true, List.all_eq_true]
        intro z
        have := z j (List.mem_range.mpr (by rw [← zl]; exact bj))
        rw [he] at this
        cases this
      rw [na, if_neg Bool.false_ne_true] at hf
      exact hf
  case fin =>
    rintro ⟨b1, b2⟩ s' ⟨hb, h1, j, hz, hj, hall⟩
    simp only at hb
    subst hb
    have bj : min xs.size ys.size ≤ j := by
      rcases Nat.lt_or_ge j (xs.toList.zip ys.toList).length with z | z
      · rw [List.drop_eq_getElem_cons z] at hz
        cases hz
      · exact zl ▸ z
    rw [List.take_of_length_le (by rw [List.length_range]; exact bj)] at hall
    have hf := fin s' h1
    rw [hall, Bool.and_true] at hf
    wp_walk
    by_cases sz : xs.size = ys.size
    · simpa [Builtin.Tuple.tupleCompareSizes, sz] using hf
    · have e1 : (xs.size == ys.size) = false := by simpa using sz
      rw [e1] at hf
      have e2 : (xs.size != ys.size) = true := by simpa using sz
      simpa [Builtin.Tuple.tupleCompareSizes, sz, e1, e2] using hf
  case h =>
    exact ⟨rfl, h0, 0, rfl, Nat.zero_le _, rfl⟩
theorem loopq_ne {I : Shared → Prop} {la lb : Addr} {N : Nat} {e : Nat → Bool} (kp : KeepL prog w A.in1 (fun x s' => R (.error x) s') I la lb N N e) : ∀ (m j : Nat), N - j = m → j ≤ N → ∀ s, I s →
      (∀ s', I s' → R (.ok (.ret (.bool (if ((List.range N).drop j).all e = true then false else true)))) s') →
      wpAny (model prog w) A.in1 (Builtin.«list.__eq__.loop» ⟨[.ref la, .ref lb, rawInt j, rawInt 3], []⟩) (GQ.FinOf prog w A R) (fun x s' => R (.error x) s') s := by
  intro m
  induction m with
  | zero =>
    intro j hm hj s hi fin
    obtain ⟨xs, ys, n1, n2, g1, g2, sz1, sz2, _⟩ := kp s hi
    have sz : xs.size = ys.size := by rw [sz1, sz2]
    have hr := fin s hi
    rw [List.drop_of_length_le (by rw [List.length_range]; omega)] at hr
    obtain ⟨hp, g, d, tk, os⟩ := s
    wp_walk using wpAny_loadPart' g1, wpAny_loadPart' g2
    have z1 : xs[((j : Nat) : Int).toNat]? = none := by simp; omega
    have z2 : ys[((j : Nat) : Int).toNat]? = none := by simp; omega
    rw [z1, z2]
    wp_walk using wpAny_loadPart' g1, wpAny_loadPart' g2
    first
      | (show R (.ok (.ret (.bool (xs.size == ys.size)))) _
         rw [sz]
         simpa using hr)
      | (show R (.ok (.ret (.bool (xs.size != ys.size)))) _
         rw [sz]
         simpa using hr)
  | succ m ih =>
    intro j hm hj s hi fin
    obtain ⟨xs, ys, n1, n2, g1, g2, sz1, sz2, ask⟩ := kp s hi
    have b1 : j < xs.size := by omega
    have b2 : j < ys.size := by omega
    have bN : j < N := by omega
    have turn := ask j b1 b2
    have nx := fun s2 (h2 : I s2) => ih (j + 1) (by omega) (by omega) s2 h2
    have ed : (List.range N).drop j = j :: (List.range N).drop (j + 1) := by simp [List.drop_eq_getElem_cons, bN]
    rw [ed, List.all_cons] at fin
    obtain ⟨hp, g, d, tk, os⟩ := s
    wp_walk using wpAny_loadPart' g1, wpAny_loadPart' g2
    have z1 : xs[((j : Nat) : Int).toNat]? = some xs[j] := by simp [b1]
    have z2 : ys[((j : Nat) : Int).toNat]? = some ys[j] := by simp [b2]
    have zc : ((j : Int) + 1) = ((j + 1 : Nat) : Int) := by omega
    rw [z1, z2]
    refine wpAny_bind (wpAny_mono turn (fun r s2 q => ?_) fun _ _ x => x)
    obtain ⟨hr, h2⟩ := q
    subst hr
    have nx2 := nx s2 h2
    obtain ⟨xs', ys', n3, n4, g3, g4, sz3, sz4, _⟩ := kp s2 h2
    have z3 : xs'[((j : Nat) : Int).toNat]? = some (xs'[j]'(by omega)) := by simp [show j < xs'.size by omega]
    have z4 : ys'[((j : Nat) : Int).toNat]? = some (ys'[j]'(by omega)) := by simp [show j < ys'.size by omega]
    cases he : e j with
    | true =>
      rw [he, Bool.true_and] at fin
      have last := nx2 fin
      obtain ⟨hp2, g2', d2, tk2, os2⟩ := s2
      wp_walk
      rw [zc]
      refine ⟨plainId_quiet plain_eq_loop _, codeAny_builtin entry_eq_loop ?_⟩
      rw [Around.under_plainId plain_eq_loop _]
      exact last
    | false =>
      rw [he, Bool.false_and] at fin
      have hr := fin s2 h2
      rw [if_neg Bool.false_ne_true] at hr
      obtain ⟨hp2, g2', d2, tk2, os2⟩ := s2
      wp_walk using wpAny_loadPart' g3, wpAny_loadPart' g4
      rw [z3, z4]
      wp_walk
      exact hr
theorem listq_ne {I : Shared → Prop} {la lb : Addr} {N M : Nat} {e : Nat → Bool} (kp : KeepL prog w A.in1 (fun x s' => R (.error x) s') I la lb N M e) {s : Shared} (hi : I s)
    (fin : ∀ s', I s' → R (.ok (.ret (.bool (if (N == M && (List.range N).all e) = true then false else true)))) s') :
    wpAny (model prog w) A.in1 (Builtin.«list.__ne__» ⟨[.ref la, .ref lb], []⟩) (GQ.FinOf prog w A R) (fun x s' => R (.error x) s') s := by
  obtain ⟨xs, ys, n1, n2, g1, g2, sz1, sz2, _⟩ := kp s hi
  have f3 := AutoSeq1.sub_list_list
  by_cases sz : N = M
  · subst sz
    have e1 : (N == N) = true := by simp
    rw [e1, Bool.true_and] at fin
    have rec1 := loopq_ne (A := A) (R := R) kp _ 0 rfl (Nat.zero_le _) s hi (by simpa using fin)
    obtain ⟨hp, g, d, tk, os⟩ := s
    have hne : ¬ (xs.size != ys.size) = true := by simp [sz1, sz2]
    wp_walk using wpAny_loadPart' g1, wpAny_loadPart' g2
    refine ⟨plainId_quiet plain_eq_loop _, codeAny_builtin entry_eq_loop ?_⟩
    rw [Around.under_plainId plain_eq_loop _]
    exact rec1
  · have e1 : (N == M) = false := by simpa using sz
    rw [e1, Bool.false_and] at fin
    have hr := fin s hi
    rw [if_neg Bool.false_ne_true] at hr
    obtain ⟨hp, g, d, tk, os⟩ := s
    have hne : (xs.size != ys.size) = true := by rw [sz1, sz2]; simpa using sz
    wp_walk using wpAny_loadPart' g1, wpAny_loadPart' g2
    exact hr
theorem tupq_ne {I : Shared → Prop} {la lb : Addr} {xs ys : Array Value} {n1 n2 : Nat} {dd dd2 : Option Addr} {sl sl2 : Array (Option Value)} {e : Nat → Bool} (ask : AskL prog w A.in1 (fun x s' => R (.error x) s') I xs ys e) {s : Shared} (hi : I s)
    (g1 : s.heap.get? la = some { cls := .type "tuple", dict := dd, data := .seq xs n1, slots := sl }) (g2 : s.heap.get? lb = some { cls := .type "tuple", dict := dd2, data := .seq ys n2, slots := sl2 })
    (fin : ∀ s', I s' → R (.ok (.ret (.bool (if (xs.size == ys.size && (List.range (min xs.size ys.size)).all e) = true then false else true)))) s') :
    wpAny (model prog w) A.in1 (Builtin.«tuple.__ne__» ⟨[.ref la, .ref lb], []⟩) (GQ.FinOf prog w A R) (fun x s' => R (.error x) s') s := by
  have f2 := AutoSeq1.sub_tuple_tuple
  have zl : (xs.toList.zip ys.toList).length = min xs.size ys.size := by simp
  have h0 := hi
  obtain ⟨hp, g, d, tk, os⟩ := s
  wp_walk using wpAny_loadPart' g1, wpAny_loadPart' g2, wpAny_forIn_list _ (fun rest b s' => b.1 = none ∧ I s' ∧ ∃ j, rest = (xs.toList.zip ys.toList).drop j ∧ j ≤ min xs.size ys.size ∧ ((List.range (min xs.size ys.size)).take j).all e = true) _
  case turn =>
    rintro ⟨y, x⟩ rest b s' ⟨hb, h1, j, hz, hj, hall⟩
    have bj : j < (xs.toList.zip ys.toList).length := by
      rcases Nat.lt_or_ge j (xs.toList.zip ys.toList).length with z | z
      · exact z
      · rw [List.drop_of_length_le z] at hz
        cases hz
    have b1 : j < xs.size := by rw [zl] at bj; omega
    have b2 : j < ys.size := by rw [zl] at bj; omega
    rw [List.drop_eq_getElem_cons bj] at hz
    injection hz with hyx hrest
    have ey : y = xs[j] := by simpa using congrArg Prod.fst hyx
    have ex : x = ys[j] := by simpa using congrArg Prod.snd hyx
    subst ey ex
    refine wpAny_bind (wpAny_mono (ask j b1 b2 s' h1) (fun r s2 q => ?_) fun _ _ x => x)
    obtain ⟨hr, h2⟩ := q
    subst hr
    cases he : e j with
    | true =>
      wp_walk
      refine ⟨rfl, h2, j + 1, hrest, by rw [zl] at bj; omega, ?_⟩
      rw [List.all_eq_true] at hall ⊢
      intro i hm
      rw [List.take_range, List.mem_range] at hm
      by_cases q : i = j
      · rw [q]
        exact he
      · exact hall i (by rw [List.take_range, List.mem_range]; omega)
    | false =>
      wp_walk
      have hf := fin s2 h2
      have na : (xs.size == ys.size && (List.range (min xs.size ys.size)).all e) = false := by
        rw [Bool.and_eq_false_iff]
        refine .inr ?_
        rw [← Bool.not_eq_true, List.all_eq_true]
        intro z
        have := z j (List.mem_range.mpr (by rw [← zl]; exact bj))
        rw [he] at this
        cases this
      rw [na, if_neg Bool.false_ne_true] at hf
      exact hf
  case fin =>
    rintro ⟨b1, b2⟩ s' ⟨hb, h1, j, hz, hj, hall⟩
    simp only at hb
    subst hb
    have bj : min xs.size ys.size ≤ j := by
      rcases Nat.lt_or_ge j (xs.toList.zip ys.toList).length with z | z
      · rw [List.drop_eq_getElem_cons z] at hz
        cases hz
      · exact zl ▸ z
    rw [List.take_of_length_le (by rw [List.length_range]; exact bj)] at hall
    have hf := fin s' h1
    rw [hall, Bool.and_true] at hf
    wp_walk
    by_cases sz : xs.size = ys.size
    · simpa [Builtin.Tuple.tupleCompareSizes, sz] using hf
    · have e1 : (xs.size == ys.size) = false := by simpa using sz
      rw [e1] at hf
      have e2 : (xs.size != ys.size) = true := by simpa using sz
      simpa [Builtin.Tuple.tupleCompareSizes, sz, e1, e2] using hf
  case h =>
    exact ⟨rfl, h0, 0, rfl, Nat.zero_le _, rfl⟩
end
section
variable {prog : Program} {w : World} {A : Around} {X : Value → Shared → Prop} {s : Shared}
theorem rc_list_eq {I : Shared → Prop} {la lb : Addr} {N M : Nat} {e : Nat → Bool} {Q : Value → Shared → Prop} (hu : A.units < cLine) (kp : KeepL prog w A.in1 X I la lb N M e) (hi : I s)
    (fin : ∀ s', I s' → Q (.bool (if (N == M && (List.range N).all e) = true then true else false)) s') : wpAny (model prog w) A (richCompare .Eq (.ref la) (.ref lb)) Q X s := by
  obtain ⟨xs, ys, n1, n2, g1, g2, _⟩ := kp s hi
  refine wpAny_richCompare_same_room (op := .Eq) ⟨_, g1, rfl⟩ ⟨_, g2, rfl⟩ F.slot_list_eq (GQ.call_here F.slot_list_eq ⟨_, g1, rfl⟩ F.entry_list_eq (F.args_list_eq_2 _ _) ?_) hu
  exact listq_eq (R := wants (fun v s' => v ≠ .notImplemented ∧ Q v s') X) kp hi fun s' q => ⟨(fun x => nomatch x), fin s' q⟩
theorem rc_tup_eq {I : Shared → Prop} {la lb : Addr} {xs ys : Array Value} {e : Nat → Bool} {Q : Value → Shared → Prop} (hu : A.units < cLine) (h1 : s.heap.IsTuple la xs) (h2 : s.heap.IsTuple lb ys) (ask : AskL prog w A.in1 X I xs ys e) (hi : I s)
    (fin : ∀ s', I s' → Q (.bool (if (xs.size == ys.size && (List.range (min xs.size ys.size)).all e) = true then true else false)) s') : wpAny (model prog w) A (richCompare .Eq (.ref la) (.ref lb)) Q X s := by
  obtain ⟨⟨c1, dd, da, sl⟩, g1, hc, n1, hd⟩ := id h1
  obtain ⟨⟨c2, dd2, db, sl2⟩, g2, hc2, n2, hd2⟩ := id h2
  simp only at hc hd hc2 hd2
  subst hc hd hc2 hd2
  refine wpAny_richCompare_same_room (op := .Eq) ⟨_, g1, rfl⟩ ⟨_, g2, rfl⟩ F.slot_tuple_eq (GQ.call_here F.slot_tuple_eq ⟨_, g1, rfl⟩ F.entry_tuple_eq (F.args_tuple_eq_2 _ _) ?_) hu
  exact tupq_eq (R := wants (fun v s' => v ≠ .notImplemented ∧ Q v s') X) ask hi g1 g2 fun s' q => ⟨(fun x => nomatch x), fin s' q⟩
theorem rc_list_ne {I : Shared → Prop} {la lb : Addr} {N M : Nat} {e : Nat → Bool} {Q : Value → Shared → Prop} (hu : A.units < cLine) (kp : KeepL prog w A.in1 X I la lb N M e) (hi : I s)
    (fin : ∀ s', I s' → Q (.bool (if (N == M && (List.range N).all e) = true then false else true)) s') : wpAny (model prog w) A (richCompare .NotEq (.ref la) (.ref lb)) Q X s := by
  obtain ⟨xs, ys, n1, n2, g1, g2, _⟩ := kp s hi
  refine wpAny_richCompare_same_room (op := .NotEq) ⟨_, g1, rfl⟩ ⟨_, g2, rfl⟩ F.slot_list_ne (GQ.call_here F.slot_list_ne ⟨_, g1, rfl⟩ F.entry_list_ne (F.args_list_ne_2 _ _) ?_) hu
  exact listq_ne (R := wants (fun v s' => v ≠ .notImplemented ∧ Q v s') X) kp hi fun s' q => ⟨(fun x => nomatch x), fin s' q⟩
theorem rc_tup_ne {I : Shared → Prop} {la lb : Addr} {xs ys : Array Value} {e : Nat → Bool} {Q : Value → Shared → Prop} (hu : A.units < cLine) (h1 : s.heap.IsTuple la xs) (h2 : s.heap.IsTuple lb ys) (ask : AskL prog w A.in1 X I xs ys e) (hi : I s)
    (fin : ∀ s', I s' → Q (.bool (if (xs.size == ys.size && (List.range (min xs.size ys.size)).all e) = true then false else true)) s') : wpAny (model prog w) A (richCompare .NotEq (.ref la) (.ref lb)) Q X s := by
  obtain ⟨⟨c1, dd, da, sl⟩, g1, hc, n1, hd⟩ := id h1
  obtain ⟨⟨c2, dd2, db, sl2⟩, g2, hc2, n2, hd2⟩ := id h2
  simp only at hc hd hc2 hd2
  subst hc hd hc2 hd2
  refine wpAny_richCompare_same_room (op := .NotEq) ⟨_, g1, rfl⟩ ⟨_, g2, rfl⟩ F.slot_tuple_ne (GQ.call_here F.slot_tuple_ne ⟨_, g1, rfl⟩ F.entry_tuple_ne (F.args_tuple_ne_2 _ _) ?_) hu
  exact tupq_ne (R := wants (fun v s' => v ≠ .notImplemented ∧ Q v s') X) ask hi g1 g2 fun s' q => ⟨(fun x => nomatch x), fin s' q⟩
end
end G39

/-! dicts over data -/
namespace G39
open PySem PySem.Spec PyProof.Rows L2 Evl
def keyD : Key → D
  | .inl i => .int i
  | .inr x => .str x
def dKey : D → Option Key
  | .int i => some (.inl i)
  | .str x => some (.inr x)
  | _ => none
def valD {κ : Type} [DecidableEq κ] (l : List (κ × D)) (k : κ) : Option D := (l.find? fun kv => decide (kv.1 = k)).map (·.2)
def putD {κ : Type} [DecidableEq κ] (l : List (κ × D)) (k : κ) (d : D) : List (κ × D) := if (l.any fun kv => decide (kv.1 = k)) = true then l.map (fun kv => if kv.1 = k then (kv.1, d) else kv) else l ++ [(k, d)]
section
variable {K : PySem.W.Frag} {F N H H' : Hp} {W : WX'} {so : Option Addr} {κ : Type} [DecidableEq κ]
theorem Rps.vals : ∀ {kvs : List (κ × V)} {l : List (κ × D)} (k : κ), kvs.map Prod.fst = l.map Prod.fst → Rps K F (kvs.map Prod.snd) (l.map Prod.snd) → (valV kvs k = none ∧ valD l k = none) ∨ ∃ v d, valV kvs k = some v ∧ valD l k = some d ∧ Rp K F v d
  | [], [], k, _, _ => .inl ⟨rfl, rfl⟩
  | [], _ :: _, k, e, _ => by cases e
  | _ :: _, [], k, e, _ => by cases e
  | (g, v) :: kvs, (g', d) :: l, k, e, r => by
    simp only [List.map_cons, List.cons.injEq] at e
    obtain ⟨rfl, e⟩ := e
    simp only [List.map_cons] at r
    cases r with
    | cons r t =>
      by_cases h : g = k
      · exact .inr ⟨v, d, valV_pos h, by simp [valD, List.find?_cons, h], r⟩
      · have e1 : valV ((g, v) :: kvs) k = valV kvs k := valV_neg h
        have e2 : valD ((g, d) :: l) k = valD l k := by simp [valD, List.find?_cons, h]
        rw [e1, e2]
        exact Rps.vals k e t
theorem any_keys {kvs : List (κ × V)} {l : List (κ × D)} (k : κ) (e : kvs.map Prod.fst = l.map Prod.fst) : (kvs.any fun kv => decide (kv.1 = k)) = (l.any fun kv => decide (kv.1 = k)) := by
  have h1 : (kvs.any fun kv => decide (kv.1 = k)) = (kvs.map Prod.fst).any fun g => decide (g = k) := by rw [List.any_map]; rfl
  have h2 : (l.any fun kv => decide (kv.1 = k)) = (l.map Prod.fst).any fun g => decide (g = k) := by rw [List.any_map]; rfl
  rw [h1, h2, e]
theorem Rps.puts {kvs : List (κ × V)} {l : List (κ × D)} {k : κ} {v : V} {d : D} (e : kvs.map Prod.fst = l.map Prod.fst) (r : Rps K F (kvs.map Prod.snd) (l.map Prod.snd)) (rv : Rp K F v d) :
    (putK kvs k v).map Prod.fst = (putD l k d).map Prod.fst ∧ Rps K F ((putK kvs k v).map Prod.snd) ((putD l k d).map Prod.snd) := by
  unfold putK putD
  rw [any_keys k e]
  split
  · have go : ∀ {kvs : List (κ × V)} {l : List (κ × D)}, kvs.map Prod.fst = l.map Prod.fst → Rps K F (kvs.map Prod.snd) (l.map Prod.snd) → (kvs.map fun kv => if kv.1 = k then (kv.1, v) else kv).map Prod.fst = (l.map fun kv => if kv.1 = k then (kv.1, d) else kv).map Prod.fst ∧ Rps K F ((kvs.map fun kv => if kv.1 = k then (kv.1, v) else kv).map Prod.snd) ((l.map fun kv => if kv.1 = k then (kv.1, d) else kv).map Prod.snd) := by
      intro kvs
      induction kvs with
      | nil =>
        intro l e r
        cases l with
        | nil => exact ⟨rfl, .nil⟩
        | cons _ _ => cases e
      | cons p kvs ih =>
        intro l e r
        cases l with
        | nil => cases e
        | cons p' l =>
          obtain ⟨g, v0⟩ := p
          obtain ⟨g', d0⟩ := p'
          simp only [List.map_cons, List.cons.injEq] at e
          obtain ⟨rfl, e⟩ := e
          simp only [List.map_cons] at r
          cases r with
          | cons r t =>
            obtain ⟨h1, h2⟩ := ih e t
            by_cases h : g = k
            · simp only [List.map_cons, h, if_true]
              exact ⟨by rw [h1], .cons rv h2⟩
            · simp only [List.map_cons, h, if_false]
              exact ⟨by rw [h1], .cons r h2⟩
    exact go e r
  · rw [List.map_append, List.map_append, List.map_append, List.map_append, e]
    exact ⟨rfl, r.append (.cons rv .nil)⟩
theorem Rps.klen {kvs : List (κ × V)} {l : List (κ × D)} (e : kvs.map Prod.fst = l.map Prod.fst) : kvs.length = l.length := by
  have := congrArg List.length e
  simpa using this
theorem Bw.key {v : V} {d : D} {k : Key} (h : Bw K so F H v d) (e : dKey d = some k) : v = kV k := by
  cases d <;> cases e
  · exact h.int
  · exact h.str
theorem Rp.key (k : Key) : Rp K F (kV k) (keyD k) := by
  cases k with
  | inl i => exact .int i
  | inr x => exact .str x
variable {te ta tb tc td ty tx tv : TE} {pe pa pb pc pd py px pv : PEx}
theorem sf_dnew : SimF K W tDNewK (pC (.dic [])) := fun so F H σ ρ n q x Q e p xo k => KF.here (u := .dK []) k e.sub e.src (.dic rfl .nil) p
theorem sf_dnewT : SimF K W tDNewT (pC (.dct [])) := fun so F H σ ρ n q x Q e p xo k => KF.here (u := .dT []) k e.sub e.src (.dct rfl .nil) p
/-- d[k] -/
def gDGet : D → D → PM D
  | .dic l, d => fun n q _ => ∃ k v, dKey d = some k ∧ valD l k = some v ∧ q v n
  | _, _ => fun _ _ _ => False
theorem se_dget (h1 : SimB K W td pd) (h2 : SimB K W ty py) : SimE K W (tDGet td ty) (pOp gDGet pd py) := fun so F H σ ρ n q x Q e p xo k =>
  h1 so F H σ ρ n _ x _ e p xo fun v d N H1 n1 s1 c1 b1 p1 => h2 so N H1 σ ρ n1 _ x _ (e.step s1 c1) p1 (xo.step s1 e.src c1) fun v2 d2 M H2 n2 s2 c2 b2 p2 => by
    cases d with
    | dic l =>
      obtain ⟨kk, dv, ek, ev, p2⟩ := p2
      obtain ⟨a, kvs, rfl, rd, hk, r⟩ := (b1.step s2).dic s2.sub
      rcases r.vals kk hk with ⟨_, z⟩ | ⟨v0, d0, z1, z2, rv⟩
      · rw [z] at ev; cases ev
      · rw [z2] at ev
        cases ev
        exact ⟨a, v0, rfl, .inl ⟨kvs, kk, rd, b2.key ek, z1.symm⟩, k v0 _ M H2 n2 (s1.trans s2 e.src c1) c2 rv p2⟩
    | _ => exact p2.elim
/-- k in d -/
def gDIn (f : Bool → Bool) : D → D → PM D
  | d, .dic l => fun n q _ => ∃ k, dKey d = some k ∧ q (.bl (f (valD l k).isSome)) n
  | _, _ => fun _ _ _ => False
theorem se_din (h1 : SimB K W ty py) (h2 : SimB K W td pd) : SimE K W (tDIn ty td) (pOp (gDIn id) py pd) := fun so F H σ ρ n q x Q e p xo k =>
  h1 so F H σ ρ n _ x _ e p xo fun v d N H1 n1 s1 c1 b1 p1 => h2 so N H1 σ ρ n1 _ x _ (e.step s1 c1) p1 (xo.step s1 e.src c1) fun v2 d2 M H2 n2 s2 c2 b2 p2 => by
    cases d2 with
    | dic l =>
      obtain ⟨kk, ek, p2⟩ := p2
      obtain ⟨a, kvs, rfl, rd, hk, r⟩ := b2.dic s2.sub
      refine ⟨a, valV kvs kk, rfl, .inl ⟨kvs, kk, rd, (b1.step s2).key ek, rfl⟩, ?_⟩
      have e1 : (valV kvs kk).isSome = (valD l kk).isSome := by
        rcases r.vals kk hk with ⟨z1, z2⟩ | ⟨v0, d0, z1, z2, _⟩ <;> rw [z1, z2] <;> rfl
      rw [e1]
      exact k _ _ M H2 n2 (s1.trans s2 e.src c1) c2 (.bl _) p2
    | _ => exact p2.elim
theorem se_dnin (h1 : SimB K W ty py) (h2 : SimB K W td pd) : SimE K W (tDNotIn ty td) (pOp (gDIn not) py pd) := fun so F H σ ρ n q x Q e p xo k =>
  h1 so F H σ ρ n _ x _ e p xo fun v d N H1 n1 s1 c1 b1 p1 => h2 so N H1 σ ρ n1 _ x _ (e.step s1 c1) p1 (xo.step s1 e.src c1) fun v2 d2 M H2 n2 s2 c2 b2 p2 => by
    cases d2 with
    | dic l =>
      obtain ⟨kk, ek, p2⟩ := p2
      obtain ⟨a, kvs, rfl, rd, hk, r⟩ := b2.dic s2.sub
      refine ⟨a, valV kvs kk, rfl, .inl ⟨kvs, kk, rd, (b1.step s2).key ek, rfl⟩, ?_⟩
      have e1 : (valV kvs kk).isSome = (valD l kk).isSome := by
        rcases r.vals kk hk with ⟨z1, z2⟩ | ⟨v0, d0, z1, z2, _⟩ <;> rw [z1, z2] <;> rfl
      rw [e1]
      exact k _ _ M H2 n2 (s1.trans s2 e.src c1) c2 (.bl _) p2
    | _ => exact p2.elim
/-- d.get(k), d.get(k, x) -/
def isDic : D → Prop
  | .dic _ => True
  | _ => False
def pGet1 (pd py : PEx) : PEx := fun ρ n q x => pd ρ n (fun d n1 => isDic d ∧ py ρ n1 (fun y n2 => match d with | .dic l => ∃ k, dKey y = some k ∧ q ((valD l k).getD .non) n2 | _ => False) x) x
def pGet2 (pd py px : PEx) : PEx := fun ρ n q x => pd ρ n (fun d n1 => isDic d ∧ py ρ n1 (fun y n2 => px ρ n2 (fun z n3 => match d with | .dic l => ∃ k, dKey y = some k ∧ q ((valD l k).getD z) n3 | _ => False) x) x) x
theorem se_get1 (h1 : SimB K W td pd) (h2 : SimB K W ty py) : SimE K W (tDGet1 td ty) (pGet1 pd py) := fun so F H σ ρ n q x Q e p xo k =>
  h1 so F H σ ρ n _ x _ e p xo fun v d N H1 n1 s1 c1 b1 ⟨isd, p1⟩ => by
    cases d with
    | dic l =>
      obtain ⟨a, kvs, rfl, rd, hk, r⟩ := b1.dic s1.sub
      refine ⟨a, rfl, .inl ⟨kvs, rd⟩, h2 so N H1 σ ρ n1 _ x _ (e.step s1 c1) p1 (xo.step s1 e.src c1) fun v2 d2 M H2 n2 s2 c2 b2 ⟨kk, ek, p2⟩ => ?_⟩
      obtain ⟨a', kvs', ea, rd', hk', r'⟩ := (b1.step s2).dic s2.sub
      cases ea
      refine ⟨valV kvs' kk, .inl ⟨kvs', kk, rd', b2.key ek, rfl⟩, ?_⟩
      have s12 := s1.trans s2 e.src c1
      rcases r'.vals kk hk' with ⟨z1, z2⟩ | ⟨v0, d0, z1, z2, rv⟩
      · rw [z1]
        rw [z2] at p2
        exact k _ _ M H2 n2 s12 c2 .non p2
      · rw [z1]
        rw [z2] at p2
        exact k _ _ M H2 n2 s12 c2 rv p2
    | _ => exact isd.elim
theorem se_get2 (h1 : SimB K W td pd) (h2 : SimB K W ty py) (h3 : SimE K W tx px) : SimE K W (tDGet2 td ty tx) (pGet2 pd py px) := fun so F H σ ρ n q x Q e p xo k =>
  h1 so F H σ ρ n _ x _ e p xo fun v d N H1 n1 s1 c1 b1 ⟨isd, p1⟩ => by
    cases d with
    | dic l =>
      obtain ⟨a, kvs, rfl, rd, hk, r⟩ := b1.dic s1.sub
      refine ⟨a, rfl, .inl ⟨kvs, rd⟩, h2 so N H1 σ ρ n1 _ x _ (e.step s1 c1) p1 (xo.step s1 e.src c1) fun v2 d2 M H2 n2 s2 c2 b2 p2 => ?_⟩
      have s12 := s1.trans s2 e.src c1
      refine h3 so M H2 σ ρ n2 _ x _ (e.step s12 c2) p2 (xo.step s12 e.src c2) fun v3 d3 M3 H3 n3 s3 c3 r3 ⟨kk, ek, p3⟩ => ?_
      obtain ⟨a', kvs', ea, rd', hk', r'⟩ := ((b1.step s2).step s3).dic s3.sub
      cases ea
      refine ⟨valV kvs' kk, .inl ⟨kvs', kk, rd', (b2.step s3).key ek, rfl⟩, ?_⟩
      have s13 := s12.trans s3 e.src c2
      rcases r'.vals kk hk' with ⟨z1, z2⟩ | ⟨v0, d0, z1, z2, rv⟩
      · rw [z1]
        rw [z2] at p3
        exact k _ _ M3 H3 n3 s13 c3 r3 p3
      · rw [z1]
        rw [z2] at p3
        exact k _ _ M3 H3 n3 s13 c3 rv p3
    | _ => exact isd.elim
/-- d[k] = v, d an own dict -/
def pDPut (i : Nat) (py pv : PEx) : PSt := fun E ρ n => match ρ[i]? with
  | some (.own (.dic l)) => pv ρ n (fun d n1 => py ρ n1 (fun y n2 => ∃ k, dKey y = some k ∧ l.length < 100000 ∧ E.nx (ρ.set i (.own (.dic (putD l k d)))) n2) E.xc) E.xc
  | _ => False
theorem ss_dput {i : Nat} (hv : SimE K W tv pv) (hy : SimB K W ty py) : SimS K W (sDPut (tVar i) ty tv) (pDPut i py pv) := fun Fb F0 H0 so0 so F H σ ρ n D E r p k => by
  unfold pDPut at p
  split at p
  · rename_i l hi
    obtain ⟨o, hσ, pp, u, rfl, _⟩ := r.en.sl i _ hi
    refine hv so F H σ ρ n _ _ _ r.en p (r.xo k) fun v d N H1 n1 s1 c1 rv p1 => ?_
    have r1 := r.step s1 c1
    refine ⟨_, hσ, hy so N H1 σ ρ n1 _ _ _ r1.en p1 (r1.xo k) fun v2 d2 M H2 n2 s2 c2 b2 ⟨kk, ek, hl, z⟩ => ?_⟩
    have r2 := r1.step s2 c2
    obtain ⟨o, h1, pp', u, ho, h2, h3, h4, h5⟩ := r2.en.sl i _ hi
    rw [hσ] at h1
    cases h1
    cases ho
    cases h3 with
    | @dic kvs _ hk rr =>
      obtain ⟨q1, q2⟩ := rr.puts (k := kk) hk (rv.mono s2.ex)
      exact ⟨pp, _, rfl, .inl ⟨kvs, kk, h2, b2.key ek, by rw [Rps.klen hk, sizeLine_eq]; omega, rfl⟩, k.nx so M _ σ _ n2 (r2.mut hi hσ (.dic q1 q2)) z⟩
  · exact p.elim
/-! built-ins of a dict -/
def gLenD : D → PM D
  | .dic l => fun n q _ => q (.int (l.length : Int)) n
  | _ => fun _ _ _ => False
def gSortD : D → PM D
  | .dic l => fun n q _ => ∃ ks : List Str, l.map Prod.fst = ks.map Sum.inr ∧ ks.length < 64 ∧ q (.lst ((srtS ks).map D.str)) n
  | _ => fun _ _ _ => False
def gDictD : D → PM D
  | .dic l => fun n q _ => q (.dic l) n
  | _ => fun _ _ _ => False
def gListD : D → PM D
  | .dic l => fun n q _ => q (.lst (l.map fun kv => keyD kv.1)) n
  | _ => fun _ _ _ => False
/-- the pairs of a list of pairs -/
def prsD : List D → Option (List (Key × D))
  | [] => some []
  | .tup [a, b] :: r => match dKey a, prsD r with
    | some k, some l => some ((k, b) :: l)
    | _, _ => none
  | _ => none
def mergeD (l m : List (Key × D)) : List (Key × D) := m.foldl (fun l kv => putD l kv.1 kv.2) l
def gDictP : D → PM D
  | .lst l => fun n q _ => ∃ m, prsD l = some m ∧ q (.dic (mergeD [] m)) n
  | _ => fun _ _ _ => False
theorem dic_map {kvs : List (Key × V)} {l : List (Key × D)} (e : kvs.map Prod.fst = l.map Prod.fst) : (kvs.map fun kv => kV kv.1) = l.map fun kv => kV kv.1 := by
  have h1 : (kvs.map fun kv => kV kv.1) = (kvs.map Prod.fst).map kV := by rw [List.map_map]; rfl
  have h2 : (l.map fun kv => kV kv.1) = (l.map Prod.fst).map kV := by rw [List.map_map]; rfl
  rw [h1, h2, e]
theorem scf_dictD : SCF K (fun xs H Q => ∃ (a : Addr) (kvs : List (Key × V)), xs = [.ref a] ∧ Rd H a (.dK kvs) ∧ ∀ p, H p = none → Q (.ref p) (upd H p (.dK kvs))) gDictD := fun so F H n vx a q x Q s c b p k => by
  cases a with
  | dic l =>
    obtain ⟨a, kvs, rfl, rd, hk, r⟩ := b.dic s
    exact ⟨a, kvs, rfl, rd, KF.here (u := .dK kvs) k s c (.dic hk r) p⟩
  | _ => exact p.elim
theorem scf_listD : SCF K (fun xs H Q => ∃ (a : Addr) (kvs : List (Key × V)), xs = [.ref a] ∧ Rd H a (.dK kvs) ∧ ∀ p, H p = none → Q (.ref p) (upd H p (.lst (kvs.map fun kv => kV kv.1)))) gListD := fun so F H n vx a q x Q s c b p k => by
  cases a with
  | dic l =>
    obtain ⟨a, kvs, rfl, rd, hk, r⟩ := b.dic s
    exact ⟨a, kvs, rfl, rd, KF.here (u := .lst _) k s c (.lst (by rw [dic_map hk]; exact Rps.map (fun kv => Rp.key kv.1) l)) p⟩
  | _ => exact p.elim
end
end G39

/-! dicts over data: sorted, from pairs, comprehensions, walks under a lock -/
namespace G39
open PySem PySem.Spec PyProof.Rows L2 Evl
section
variable {K : PySem.W.Frag} {F N H H' : Hp} {W : WX'} {so : Option Addr} {te ta tk tv : TE} {pe pa pk pv : PEx}
theorem scf_sortD : SCF K (fun xs H Q => ∃ (a : Addr) (kvs : List (Key × V)) (ks : List Str), xs = [.ref a] ∧ Rd H a (.dK kvs) ∧ kvs.map (·.1) = ks.map Sum.inr ∧ ks.length < 64 ∧ ∀ ys p, ys.Perm ks → sortedS ys = true → H p = none → Q (.ref p) (upd H p (.lst (ys.map V.str)))) gSortD := fun so F H n vx a q x Q s c b p k => by
  cases a with
  | dic l =>
    obtain ⟨ks, hks, h64, p⟩ := p
    obtain ⟨a, kvs, rfl, rd, hk, r⟩ := b.dic s
    refine ⟨a, kvs, ks, rfl, rd, hk.trans hks, h64, fun ys pp hp hs hn => ?_⟩
    rw [srtS_of hp hs]
    exact KF.here (u := .lst _) k s c (.lst (Rps.strs _)) p pp hn
  | _ => exact p.elim
theorem Rps.prs {F H : Hp} (s : Sub F H) : ∀ {xs : List V} {ds : List D} {m : List (Key × D)}, Rps K F xs ds → prsD ds = some m → ∃ (ps : List Addr) (kvs : List (Key × V)), xs = ps.map V.ref ∧ Paired (fun p kv => SqT K H p [kV kv.1, kv.2]) ps kvs ∧ kvs.map Prod.fst = m.map Prod.fst ∧ Rps K F (kvs.map Prod.snd) (m.map Prod.snd)
  | _, _, m, .nil, e => by
    cases e
    exact ⟨[], [], rfl, .nil, rfl, .nil⟩
  | _, _, m, .cons (v := v) (vs := vs) (d := d) (ds := ds) h t, e => by
    unfold prsD at e
    split at e
    · rename_i heq
      cases heq
    · rename_i a b r heq
      cases heq
      split at e
      · rename_i k l hk hl
        cases e
        obtain ⟨ps, kvs, rfl, h1, h2, h3⟩ := Rps.prs s t hl
        obtain ⟨p, xs, rfl, hp, rp⟩ := Bw.tup (so := none) (H := H) (.inl h) s
        cases rp with
        | cons ra rb =>
          cases rb with
          | cons rb rc =>
            cases rc
            have ea := Bw.key (so := none) (H := H) (.inl ra) hk
            subst ea
            exact ⟨p :: ps, (k, _) :: kvs, rfl, .cons hp h1, by rw [List.map_cons, List.map_cons, h2], .cons rb h3⟩
      · cases e
    · cases e
theorem Rps.merge : ∀ {kvs : List (Key × V)} {m : List (Key × D)} {kvs0 : List (Key × V)} {l : List (Key × D)}, kvs.map Prod.fst = m.map Prod.fst → Rps K F (kvs.map Prod.snd) (m.map Prod.snd) → kvs0.map Prod.fst = l.map Prod.fst → Rps K F (kvs0.map Prod.snd) (l.map Prod.snd) →
    (mergeK kvs0 kvs).map Prod.fst = (mergeD l m).map Prod.fst ∧ Rps K F ((mergeK kvs0 kvs).map Prod.snd) ((mergeD l m).map Prod.snd)
  | [], [], _, _, _, _, e, r => ⟨e, r⟩
  | [], _ :: _, _, _, e, _, _, _ => by cases e
  | _ :: _, [], _, _, e, _, _, _ => by cases e
  | (g, v) :: kvs, (g', d) :: m, kvs0, l, e, r, e0, r0 => by
    simp only [List.map_cons, List.cons.injEq] at e
    obtain ⟨rfl, e⟩ := e
    simp only [List.map_cons] at r
    cases r with
    | cons r t =>
      obtain ⟨h1, h2⟩ := Rps.puts (k := g) e0 r0 r
      exact Rps.merge (kvs := kvs) (m := m) (kvs0 := putK kvs0 g v) (l := putD l g d) e t h1 h2
theorem scf_dictP : SCF K (fun xs H Q => ∃ (a : Addr) (ps : List Addr) (kvs : List (Key × V)), xs = [.ref a] ∧ SqL K H a (ps.map V.ref) ∧ Paired (fun p kv => SqT K H p [kV kv.1, kv.2]) ps kvs ∧ ∀ p, H p = none → Q (.ref p) (upd H p (.dK (mergeK [] kvs)))) gDictP := fun so F H n vx a q x Q s c b p k => by
  cases a with
  | lst l =>
    obtain ⟨m, hm, p⟩ := p
    obtain ⟨a, xs, rfl, ha, r⟩ := b.lst s
    obtain ⟨ps, kvs, rfl, h1, h2, h3⟩ := r.prs s hm
    obtain ⟨h4, h5⟩ := Rps.merge (kvs0 := []) (l := []) h2 h3 rfl .nil
    exact ⟨a, ps, kvs, rfl, sq_of ha, h1, KF.here (u := .dK _) k s c (.dic h4 h5) p⟩
  | _ => exact p.elim
/-! {k: v for ..} -/
def colD (f : D → Nat → (Option (D × D) → Nat → Prop) → Prop) : List D → List (Key × D) → Nat → (List (Key × D) → Nat → Prop) → Prop
  | [], acc, n, q => q acc n
  | d :: ds, acc, n, q => f d n fun o n1 => match o with
    | none => colD f ds acc n1 q
    | some (y, z) => ∃ k, dKey y = some k ∧ colD f ds (putD acc k z) n1 q
def elD (pg : PGx) (pt : PTx) (pk pv : PEx) (ρ : List PV) : D → Nat → (Option (D × D) → Nat → Prop) → Prop := fun d n k => pg d ρ fun ρ' => pt ρ' n (fun b n1 => if b = true then pk ρ' n1 (fun y n2 => pv ρ' n2 (fun z n3 => k (some (y, z)) n3) noX) noX else k none n1) noX
def pDc (pi : PIx) (pg : PGx) (pt : PTx) (pk pv : PEx) (vs : List Nat) : PEx := fun ρ n q x => pi ρ n (fun ds n1 => ds.length ≤ 40000 ∧ colD (elD pg pt pk pv (wipeP ρ vs)) ds [] n1 fun l n2 => q (.dic l) n2) x
theorem putD_len {l : List (Key × D)} {k : Key} {d : D} : (putD l k d).length ≤ l.length + 1 := by
  unfold putD
  split
  · rw [List.length_map]; omega
  · rw [List.length_append]; simp
theorem sf_dc {wi : TI} {pi : PIx} {js vs : List Nat} {g : L2.TG} {pg : PGx} {tt : TT} {pt : PTx} (hi : SimI K W wi pi) (hg : SimG K js g pg) (hj : ∀ j ∈ js, j ∈ vs) (ht : SimT K WF tt pt) (hk : SimE K WF tk pk) (he : SimE K WF tv pv) :
    SimF K W (tDc wi g tt tk tv vs) (pDc pi pg pt pk pv vs) := fun so F H σ ρ n q x Q e p xo k => hi so F H σ ρ n _ x _ e p xo fun J ds G N1 H1 n1 s1 c1 w1 gk p1 Dl hD => by
  have nD := s1.sub.nil hD
  have sD := c1.ne hD
  have hlen := p1.1
  refine ⟨fun i m Hc => m = ds.length - i ∧ i ≤ ds.length ∧ ∃ N n' acc kvs, Step so N1 H1 N Hc ∧ SrcN so Hc n' ∧ N Dl = none ∧ Hc Dl = some (.dK kvs) ∧ acc.length ≤ i ∧ kvs.map Prod.fst = acc.map Prod.fst ∧ Rps K N (kvs.map Prod.snd) (acc.map Prod.snd) ∧ colD (elD pg pt pk pv (wipeP ρ vs)) (ds.drop i) acc n' fun l n2 => q (.dic l) n2,
    ⟨ds.length, by simp, Nat.zero_le _, N1, n1, [], [], (Step.refl s1.sub).beside' hD nD, c1.beside sD, nD, upd_same, Nat.le_refl _, rfl, .nil, p1.2⟩, ?_⟩
  rintro i m Hc ⟨rfl, hle, N, n', acc, kvs, h1, h2, h3, h4, h5, hK, hR, h6⟩
  by_cases hlt : i < ds.length
  · refine .inr ⟨w1.goes i Hc hlt (gk Hc h1.keep), fun H' => ∃ N n' acc kvs, Step so N1 H1 N H' ∧ SrcN so H' n' ∧ N Dl = none ∧ H' Dl = some (.dK kvs) ∧ acc.length ≤ i + 1 ∧ kvs.map Prod.fst = acc.map Prod.fst ∧ Rps K N (kvs.map Prod.snd) (acc.map Prod.snd) ∧ colD (elD pg pt pk pv (wipeP ρ vs)) (ds.drop (i + 1)) acc n' fun l n2 => q (.dic l) n2,
      fun H' z => ⟨ds.length - (i + 1), by omega, rfl, hlt, z⟩, fun x H2 y => ?_⟩
    obtain ⟨d, hd, ed⟩ := drop_at hlt
    rw [ed] at h6
    obtain ⟨N2, s2', r2⟩ := w1.yields i Hc x H2 N d hd (gk Hc h1.keep) h1.ex h1.sub y
    have s2 : Step so N Hc N2 H2 := s2'.any
    have c2 : SrcN so H2 n' := s2'.srcN h2
    have t2 := h1.trans s2 c1 h2
    have d2 : H2 Dl = some (.dK kvs) := s2.keep Dl _ sD h4
    have n2 : N2 Dl = none := by rw [s2.new Dl (by rw [h4]; exact fun q => by cases q)]; exact h3
    have e2 := (e.step (s1.trans t2 e.src c1) c2).wipe vs
    refine hg so N2 H2 x d _ _ n' _ _ e2 r2 h6 fun σ2 ρ2 e3 o3 p3 => ⟨wipe_off o3 hj, ht so N2 H2 σ2 ρ2 n' _ noX _ e3 p3 xo_no fun b N3 H3 n3 s3 c3 p4 => ?_⟩
    have t3 := t2.trans s3 c1 c2
    have d3 : H3 Dl = some (.dK kvs) := s3.keep Dl _ sD d2
    have n3' : N3 Dl = none := by rw [s3.new Dl (by rw [d2]; exact fun q => by cases q)]; exact n2
    cases b with
    | true =>
      rw [if_pos rfl] at p4 ⊢
      refine hk so N3 H3 σ2 ρ2 n3 _ noX _ (e3.step s3 c3) p4 xo_no fun vk dk N4 H4 n4 s4 c4 r4 p5 => ?_
      have t4 := t3.trans s4 c1 c3
      have d4 : H4 Dl = some (.dK kvs) := s4.keep Dl _ sD d3
      have n4' : N4 Dl = none := by rw [s4.new Dl (by rw [d3]; exact fun q => by cases q)]; exact n3'
      refine he so N4 H4 σ2 ρ2 n4 _ noX _ ((e3.step s3 c3).step s4 c4) p5 xo_no fun vv dv N5 H5 n5 s5 c5 r5 ⟨kk, ek, p6⟩ => ?_
      have t5 := t4.trans s5 c1 c4
      have d5 : H5 Dl = some (.dK kvs) := s5.keep Dl _ sD d4
      have n5' : N5 Dl = none := by rw [s5.new Dl (by rw [d4]; exact fun q => by cases q)]; exact n4'
      have hR5 := hR.mono (s2.ex.trans (s3.ex.trans (s4.ex.trans s5.ex)))
      obtain ⟨q1, q2⟩ := hR5.puts (k := kk) hK r5
      refine ⟨kvs, kk, Bw.key (so := so) (H := H4) (.inl r4) ek, d5, ?_, N5, n5, putD acc kk dv, putK kvs kk vv, t5.beside' hD n5', c5.beside sD, n5', upd_same, ?_, q1, q2, p6⟩
      · rw [Rps.klen hK, sizeLine_eq]
        omega
      · have := putD_len (l := acc) (k := kk) (d := dv)
        omega
    | false =>
      rw [if_neg Bool.false_ne_true] at p4 ⊢
      exact ⟨N3, n3, acc, kvs, t3, c3, n3', d3, by omega, hK, hR.mono (s2.ex.trans s3.ex), p4⟩
  · have ei : i = ds.length := by omega
    subst ei
    rw [List.drop_of_length_le (Nat.le_refl _)] at h6
    have h6 : q (.dic acc) n' := h6
    exact .inl ⟨w1.stops Hc (gk Hc h1.keep), KF.step k s1 e.src c1 Dl (.dK kvs) (.dic acc) N Hc n' h1 h2 hD h3 h4 sD (.dic hK hR) h6⟩
/-! walks over a dict, locked meanwhile -/
/-- locked already, or locked for this -/
def tLk (t : TE) : TE := fun σ H Q => t σ H Q ∨ tLockE t σ H Q
theorem pe_lk {X : Cx} {e : Expr} {t : TE} (h : PE X e t) : PE X e (tLk t) := ⟨fun pins s σ H Q I hw => hw.elim (fun z => h.run pins s σ H Q I z) fun z => (pe_lock h).run pins s σ H Q I z⟩
/-- a dict that F holds may be locked -/
theorem Sub.lock {d : Addr} {u : HO} {od : Obj} (s : Sub F H) (hf : F d = some u) (hi : isDk u) : Sub F (upd H d (.frz od u)) := fun a o e => by
  by_cases z : a = d
  · subst z
    rw [hf] at e
    cases e
    exact .inr ⟨hi, od, upd_same⟩
  · rw [upd_ne z]
    exact s a o e
theorem En.lock {σ : L2.St} {ρ : List PV} {n : Nat} {d : Addr} {u : HO} {od : Obj} (e : En K so F H σ ρ n) (hf : F d = some u) (hi : isDk u) (hh : H d = some u) : En K so F (upd H d (.frz od u)) σ ρ n := by
  have sd : so ≠ some d := fun z => by rw [e.nsr d z] at hf; cases hf
  refine ⟨e.sub.lock hf hi, e.src.beside sd, e.nsr, e.len, fun i pv h => ?_⟩
  obtain ⟨o, h1, h2⟩ := e.sl i pv h
  refine ⟨o, h1, ?_⟩
  cases pv with
  | un => trivial
  | val d => exact h2
  | own d' =>
    obtain ⟨p, w, eo, q1, q2, q3, q4⟩ := h2
    have np : p ≠ d := fun z => by rw [z, hf] at q3; cases q3
    exact ⟨p, w, eo, by rw [upd_ne np]; exact q1, q2, q3, q4⟩
  | src => exact h2
  | me p => exact h2
  | scr ns =>
    obtain ⟨a, eo, q1, q2⟩ := h2
    refine ⟨a, eo, ?_, q2⟩
    rcases q1 with (z | ⟨o, z⟩) | z
    · have na : a ≠ d := fun y => by
        rw [y, hh] at z
        cases z
        exact hi.elim
      exact .inl (.inl (by rw [upd_ne na]; exact z))
    · have na : a ≠ d := fun y => by
        rw [y, hh] at z
        cases z
        exact hi.elim
      exact .inl (.inr ⟨o, by rw [upd_ne na]; exact z⟩)
    · exact .inr z
theorem Step.unlock {d : Addr} {u : HO} {od : Obj} (s : Step so F (upd H d (.frz od u)) N H') (hf : F d = some u) (hi : isDk u) (hh : H d = some u) : Step so F H N (upd H' d u) := by
  refine ⟨fun a o e => ?_, s.ex, fun a o ns e => ?_, fun a ha => ?_⟩
  · by_cases z : a = d
    · subst z
      have := s.ex a u hf
      rw [this] at e
      cases e
      exact .inl upd_same
    · rw [upd_ne z]
      exact s.sub a o e
  · by_cases z : a = d
    · subst z
      rw [hh] at e
      cases e
      exact upd_same
    · rw [upd_ne z]
      exact s.keep a o ns (by rw [upd_ne z]; exact e)
  · by_cases z : a = d
    · subst z
      exact s.new a (by rw [upd_same]; simp)
    · exact s.new a (by rw [upd_ne z]; exact ha)
/-- the dict in the slot i is locked -/
def LkAt (F H : Hp) (σ : L2.St) (i : Nat) : Prop := ∀ d kvs, σ[i]? = some (some (.ref d)) → F d = some (.dK kvs) → ∃ o, H d = some (.frz o (.dK kvs))
def SimFL (K : PySem.W.Frag) (i : Nat) (te : TE) (pe : PEx) : Prop := ∀ so F H σ ρ n q x (Q : VK), En K so F H σ ρ n → LkAt F H σ i → pe ρ n q x → KF K so F H q Q → te σ H Q
theorem sf_lk {i : Nat} (h : SimFL K i te pe) (hp : ∀ ρ n q x, pe ρ n q x → ∃ l, ρ[i]? = some (.val (.dic l))) : SimF K W (tLk te) pe := fun so F H σ ρ n q x Q e p xo k => by
  obtain ⟨l, hl⟩ := hp ρ n q x p
  obtain ⟨o, h1, v, rfl, r⟩ := e.sl i _ hl
  cases r with
  | @dic a kvs _ ha hk rr =>
    rcases e.sub a _ ha with z | ⟨_, od, z⟩
    · refine .inr ⟨a, .dK kvs, z, trivial, fun od => ?_⟩
      have e' := e.lock (od := od) ha trivial z
      have sd : so ≠ some a := fun y => by rw [e.nsr a y] at ha; cases ha
      refine h so F _ σ ρ n q x _ e' (fun d kvs' g1 g2 => ?_) p (fun pp u d N H' n' s c h0 hn hh hs ro z' => ?_)
      · rw [h1] at g1
        cases g1
        rw [ha] at g2
        cases g2
        exact ⟨od, upd_same⟩
      · have np : pp ≠ a := fun y => by rw [y, upd_same] at h0; cases h0
        have ka : H' a = some (.frz od (.dK kvs)) := s.keep a _ sd upd_same
        refine ⟨ka, k pp u d N _ n' (s.unlock ha trivial z) (c.beside sd) (by rw [upd_ne np] at h0; exact h0) hn (by rw [upd_ne np]; exact hh) hs ro z'⟩
    · exact .inl (h so F H σ ρ n q x Q e (fun d kvs' g1 g2 => by
        rw [h1] at g1
        cases g1
        rw [ha] at g2
        cases g2
        exact ⟨od, z⟩) p k)
/-- the keys of the dict in a slot -/
def pKeys (i : Nat) : PIx := fun ρ n q _ => match ρ[i]? with
  | some (.val (.dic l)) => q (l.map fun kv => keyD kv.1) n
  | _ => False
theorem keys_si {i : Nat} {H0 : Hp} {σ0 : L2.St} (lk : ∃ d o kvs, σ0[i]? = some (some (.ref d)) ∧ H0 d = some (.frz o (.dK kvs))) : SimI K WF (fun σ H R => σ = σ0 ∧ H = H0 → iKeys (tVar i) σ0 H0 R) (pKeys i) := fun so F H σ ρ n q x R e p xo k ⟨es, eh⟩ => by
  subst es eh
  obtain ⟨d, o, kvs, h1, h2⟩ := lk
  unfold pKeys at p
  split at p
  · rename_i l hl
    obtain ⟨_, g1, v, rfl, r⟩ := e.sl i _ hl
    rw [h1] at g1
    cases g1
    cases r with
    | @dic a kvs' _ ha hk rr =>
      have ek : kvs' = kvs := by
        rcases e.sub d _ ha with z | ⟨_, o', z⟩
        · rw [h2] at z; cases z
        · rw [h2] at z; cases z; rfl
      subst ek
      have sd : so ≠ some d := fun y => by rw [e.nsr d y] at ha; cases ha
      have wk : Walk (Itk d o kvs') (kvs'.map fun kv => kV kv.1).length (fun H => H d = some (.frz o (.dK kvs'))) (YOf (kvs'.map fun kv => kV kv.1) id) := by
        rw [List.length_map]
        exact walk_keys.mono (fun _ z => z) fun i H x H' _ _ y => ⟨y.1, by
          obtain ⟨kk, vv, z1, z2⟩ := y.2
          exact ⟨_, by rw [List.getElem?_map, z1]; rfl, z2⟩⟩
      have rk : Rps K F (kvs'.map fun kv => kV kv.1) (l.map fun kv => keyD kv.1) := by
        rw [dic_map hk]
        exact Rps.map (fun kv => Rp.key kv.1) l
      exact ⟨_, h1, d, o, rfl, .inl ⟨kvs', h2, k _ _ (fun H => H d = some (.frz o (.dK kvs'))) F H n (Step.refl e.sub) e.src (walk_of wk rk) (fun H'' kp => kp d _ sd h2) p⟩⟩
  · exact p.elim
theorem pLc_x {i : Nat} {pg : PGx} {pt : PTx} {pe : PEx} {vs : List Nat} {ρ : List PV} {n : Nat} {q : D → Nat → Prop} {x : PX} (p : pLc (pKeys i) pg pt pe vs ρ n q x) : pLc (pKeys i) pg pt pe vs ρ n q noX := p
/-- [e for x in d] -/
theorem sf_lcK {i : Nat} {js vs : List Nat} {g : L2.TG} {pg : PGx} {tt : TT} {pt : PTx} (hg : SimG K js g pg) (hj : ∀ j ∈ js, j ∈ vs) (ht : SimT K WF tt pt) (he : SimE K WF te pe) : SimF K W (tLk (tLc (iKeys (tVar i)) g tt te vs)) (pLc (pKeys i) pg pt pe vs) := by
  refine sf_lk (i := i) (fun so F H σ ρ n q x Q e lk p k => ?_) (fun ρ n q x p => ?_)
  · have hd : ∃ d o kvs, σ[i]? = some (some (.ref d)) ∧ H d = some (.frz o (.dK kvs)) := by
      unfold pLc pKeys at p
      split at p
      · rename_i l hl
        obtain ⟨o, g1, v, rfl, r⟩ := e.sl i _ hl
        cases r with
        | @dic a kvs _ ha hk rr =>
          obtain ⟨o, z⟩ := lk a kvs g1 ha
          exact ⟨a, o, kvs, g1, z⟩
      · exact p.elim
    exact sf_lc (W := WF) (keys_si hd) hg hj ht he so F H σ ρ n q noX Q e (pLc_x p) xo_no k ⟨rfl, rfl⟩
  · unfold pLc pKeys at p
    split at p
    · rename_i l hl
      exact ⟨l, hl⟩
    · exact p.elim
end
end G39

/-! == and != of data: lists, tuples, dicts, objects, both answers -/
namespace G39
open PySem PySem.Spec PyProof.Rows L2 Evl
/-- two dicts with scalars -/
def eqDic (l m : List (Key × D)) : Bool := l.length == m.length && l.all fun kv => match valD m kv.1 with
  | some d => (match flD kv.2, flD d with | some u, some v => L2.eqV u v | _, _ => false)
  | none => false
def flatD (d : D) : Bool := (flD d).isSome
mutual
/-- the answer of a == b -/
inductive CmpD (cO : D → D → Bool → Prop) : Nat → D → D → Bool → Prop
  | pl {n : Nat} {a b : D} {d e : PyData} : toPy a = some d → toPy b = some e → SeqAt.shaped d = true → SeqAt.shaped e = true → CmpD cO n a b (PyData.eqv d e)
  | lst {n : Nat} {l m : List D} {r : Bool} : CmpDs cO n l m r → CmpD cO (n + 1) (.lst l) (.lst m) (l.length == m.length && r)
  | tup {n : Nat} {l m : List D} {r : Bool} : CmpDs cO n l m r → CmpD cO (n + 1) (.tup l) (.tup m) (l.length == m.length && r)
  | dic {n : Nat} {l m : List (Key × D)} : (∀ kv ∈ l, flatD kv.2 = true) → (∀ kv ∈ m, flatD kv.2 = true) → (l.map Prod.fst).Nodup → CmpD cO (n + 1) (.dic l) (.dic m) (eqDic l m)
  | obj {n : Nat} {a b : D} {r : Bool} : cO a b r → CmpD cO (n + 1) a b r
inductive CmpDs (cO : D → D → Bool → Prop) : Nat → List D → List D → Bool → Prop
  | nil {n : Nat} {m : List D} : CmpDs cO n [] m true
  | nil' {n : Nat} {l : List D} : CmpDs cO n l [] true
  | cons {n : Nat} {a b : D} {l m : List D} {r r' : Bool} : CmpD cO n a b r → CmpDs cO n l m r' → CmpDs cO n (a :: l) (b :: m) (r && r')
end
section
variable {K : PySem.W.Frag} {F H : Hp} {cO : D → D → Bool → Prop}
/-- a value stands for one plain thing -/
def Apart (K : PySem.W.Frag) (F : Hp) : Prop := ∀ a o, K.lookup a = some o → F a = none
mutual
theorem Rp.one (ap : Apart K F) : ∀ {v : V} {d d' : D} {a a' : PyData}, Rp K F v d → Rp K F v d' → toPy d = some a → toPy d' = some a' → a = a'
  | _, _, _, _, _, .non, h, e, e' => by cases h; rw [e] at e'; exact Option.some.inj e'
  | _, _, _, _, _, .bl b, h, e, e' => by cases h; rw [e] at e'; exact Option.some.inj e'
  | _, _, _, _, _, .int i, h, e, e' => by cases h; rw [e] at e'; exact Option.some.inj e'
  | _, _, _, _, _, .str x, h, e, e' => by cases h; rw [e] at e'; exact Option.some.inj e'
  | _, _, _, _, _, .lst h t, h', e, e' => by
    cases h' with
    | lst g s =>
      rw [h] at g
      cases g
      simp only [toPy, Option.map_eq_some_iff] at e e'
      obtain ⟨l, e1, rfl⟩ := e
      obtain ⟨l', e2, rfl⟩ := e'
      rw [Rps.one ap t s e1 e2]
    | tup g s => rw [h] at g; cases g
    | wtup g s =>
      obtain ⟨o, _, _, hk, _⟩ := g
      rw [ap _ o hk] at h
      cases h
    | dic g _ _ => rw [h] at g; cases g
    | dct g _ _ => rw [h] at g; cases g
    | obj g _ _ => rw [h] at g; cases g
    | kn g _ _ => rw [h] at g; cases g
  | _, _, _, _, _, .tup h t, h', e, e' => by
    cases h' with
    | tup g s =>
      rw [h] at g
      cases g
      simp only [toPy, Option.map_eq_some_iff] at e e'
      obtain ⟨l, e1, rfl⟩ := e
      obtain ⟨l', e2, rfl⟩ := e'
      rw [Rps.one ap t s e1 e2]
    | lst g s => rw [h] at g; cases g
    | wtup g s =>
      obtain ⟨o, _, _, hk, _⟩ := g
      rw [ap _ o hk] at h
      cases h
    | dic g _ _ => rw [h] at g; cases g
    | dct g _ _ => rw [h] at g; cases g
    | obj g _ _ => rw [h] at g; cases g
    | kn g _ _ => rw [h] at g; cases g
  | _, _, _, _, _, .wtup h t, h', e, e' => by
    obtain ⟨o, its, m, hk, hc, hd, hs, hv⟩ := h
    cases h' with
    | wtup g s =>
      obtain ⟨o2, its2, m2, hk2, hc2, hd2, hs2, hv2⟩ := g
      rw [hk] at hk2
      cases hk2
      rw [hd] at hd2
      cases hd2
      have ev := Vals.inj hv hv2
      subst ev
      simp only [toPy, Option.map_eq_some_iff] at e e'
      obtain ⟨l, e1, rfl⟩ := e
      obtain ⟨l', e2, rfl⟩ := e'
      rw [Rps.one ap t s e1 e2]
    | lst g _ => rw [ap _ o hk] at g; cases g
    | tup g _ => rw [ap _ o hk] at g; cases g
    | dic g _ _ => rw [ap _ o hk] at g; cases g
    | dct g _ _ => rw [ap _ o hk] at g; cases g
    | obj g _ _ => rw [ap _ o hk] at g; cases g
    | kn g _ _ => rw [ap _ o hk] at g; cases g
  | _, _, _, _, _, .dic .., _, e, _ => by simp [toPy] at e
  | _, _, _, _, _, .dct .., _, e, _ => by simp [toPy] at e
  | _, _, _, _, _, .obj .., _, e, _ => by simp [toPy] at e
  | _, _, _, _, _, .kn .., _, e, _ => by simp [toPy] at e
theorem Rps.one (ap : Apart K F) : ∀ {vs : List V} {ds ds' : List D} {as as' : List PyData}, Rps K F vs ds → Rps K F vs ds' → toPys ds = some as → toPys ds' = some as' → as = as'
  | _, _, _, _, _, .nil, h, e, e' => by cases h; rw [e] at e'; exact Option.some.inj e'
  | _, _, _, _, _, .cons h t, h', e, e' => by
    cases h' with
    | cons g s =>
      simp only [toPys] at e e'
      split at e
      · rename_i p q e1 e2
        cases e
        split at e'
        · rename_i p' q' e1' e2'
          cases e'
          rw [Rp.one ap h g e1 e1', Rps.one ap t s e2 e2']
        · cases e'
      · cases e
end
theorem shaped_lay {d : PyData} (h : SeqAt.shaped d = true) : d.canLay0 = true ∧ d.depth ≤ 64 := by
  unfold SeqAt.shaped at h
  simp only [Bool.and_eq_true, decide_eq_true_eq] at h
  exact ⟨h.1, by omega⟩
theorem eqV_self {u : V} (h : flatV u = true) : L2.eqV u u = true := by
  cases u <;> first | rfl | (simp [L2.eqV]; done) | (simp [flatV] at h; done)
theorem fl_flat {d : D} {u : V} (h : flD d = some u) : flatV u = true := by
  cases d <;> first | (cases h; rfl) | (simp [flD] at h)
theorem Rp.flat {v u : V} {d : D} (h : Rp K F v d) (e : flD d = some u) : v = u := Bw.fl (so := none) (H := F) (.inl h) e
theorem valD_mem : ∀ {l : List (Key × D)} {k : Key} {d : D}, (l.map Prod.fst).Nodup → (k, d) ∈ l → valD l k = some d
  | [], _, _, _, h => by cases h
  | (g, d0) :: l, k, d, nd, h => by
    simp only [List.map_cons, List.nodup_cons] at nd
    rcases List.mem_cons.mp h with z | z
    · cases z
      simp [valD, List.find?_cons]
    · have ne : g ≠ k := fun y => nd.1 (by rw [y]; exact List.mem_map.mpr ⟨(k, d), z, rfl⟩)
      have e2 : valD ((g, d0) :: l) k = valD l k := by simp [valD, List.find?_cons, ne]
      rw [e2]
      exact valD_mem nd.2 z
/-- the same object: the answer is yes -/
theorem cmp_same (ap : Apart K F) (sO : ∀ v d d' r, Rp K F v d → Rp K F v d' → cO d d' r → r = true) : ∀ (n : Nat) {d d' : D} {r : Bool} {v : V}, CmpD cO n d d' r → Rp K F v d → Rp K F v d' → r = true := by
  intro n
  induction n with
  | zero =>
    intro d d' r v c h h'
    cases c with
    | pl e1 e2 s1 s2 =>
      rw [Rp.one ap h h' e1 e2]
      exact SeqAt.eqv_refl _ (shaped_lay s2).1
  | succ n ih =>
    intro d d' r v c h h'
    have go : ∀ {l m : List D} {r : Bool} {vs : List V}, CmpDs cO n l m r → Rps K F vs l → Rps K F vs m → r = true := by
      intro l m r vs c
      revert vs
      induction l generalizing m r with
      | nil =>
        intro vs h h'
        cases c with
        | nil => rfl
        | nil' => rfl
      | cons a l ihl =>
        intro vs h h'
        cases c with
        | nil' => rfl
        | cons c cs =>
          cases h with
          | cons h t =>
            cases h' with
            | cons h' t' =>
              rw [ih c h h', ihl cs t t']
              rfl
    cases c with
    | pl e1 e2 s1 s2 =>
      rw [Rp.one ap h h' e1 e2]
      exact SeqAt.eqv_refl _ (shaped_lay s2).1
    | lst c =>
      cases h with
      | lst ha t =>
        cases h' with
        | lst hb t' =>
          rw [ha] at hb
          cases hb
          rw [go c t t', ← t.len, ← t'.len]
          simp
    | tup c =>
      cases h with
      | tup ha t =>
        cases h' with
        | tup hb t' =>
          rw [ha] at hb
          cases hb
          rw [go c t t', ← t.len, ← t'.len]
          simp
        | wtup hb t' =>
          obtain ⟨o, _, _, hk, _⟩ := hb
          rw [ap _ o hk] at ha
          cases ha
      | wtup ha t =>
        obtain ⟨o, its, _, hk, _, hd, _, hv⟩ := ha
        cases h' with
        | tup hb t' => rw [ap _ o hk] at hb; cases hb
        | wtup hb t' =>
          obtain ⟨o2, its2, _, hk2, _, hd2, _, hv2⟩ := hb
          rw [hk] at hk2
          cases hk2
          rw [hd] at hd2
          cases hd2
          have ev := Vals.inj hv hv2
          subst ev
          rw [go c t t', ← t.len, ← t'.len]
          simp
    | @dic _ l m f1 f2 nd =>
      cases h with
      | @dic a kvs _ ha hk t =>
        cases h' with
        | @dic _ kvs' _ hb hk' t' =>
          rw [ha] at hb
          cases hb
          have ek : l.map Prod.fst = m.map Prod.fst := hk.symm.trans hk'
          have ev : l.map (fun kv => flD kv.2) = m.map (fun kv => flD kv.2) := by
            have one : ∀ {vs : List V} {p q : List D}, Rps K F vs p → Rps K F vs q → (∀ d ∈ p, flatD d = true) → (∀ d ∈ q, flatD d = true) → p.map flD = q.map flD := by
              intro vs
              induction vs with
              | nil => intro p q h h' _ _; cases h; cases h'; rfl
              | cons v vs ih2 =>
                intro p q h h' g1 g2
                cases h with
                | cons r t0 =>
                cases h' with
                | cons r' t'' =>
                  obtain ⟨u, eu⟩ := Option.isSome_iff_exists.mp (g1 _ (List.mem_cons_self ..))
                  obtain ⟨u', eu'⟩ := Option.isSome_iff_exists.mp (g2 _ (List.mem_cons_self ..))
                  have e3 := (r.flat eu).symm.trans (r'.flat eu')
                  subst e3
                  rw [List.map_cons, List.map_cons, eu, eu', ih2 t0 t'' (fun d hd => g1 d (List.mem_cons_of_mem _ hd)) fun d hd => g2 d (List.mem_cons_of_mem _ hd)]
            have := one t t' (fun d hd => by obtain ⟨kv, z, rfl⟩ := List.mem_map.mp hd; exact f1 kv z) fun d hd => by obtain ⟨kv, z, rfl⟩ := List.mem_map.mp hd; exact f2 kv z
            simpa [List.map_map, Function.comp_def] using this
          have len : l.length = m.length := by simpa using congrArg List.length ek
          unfold eqDic
          rw [len]
          simp only [beq_self_eq_true, Bool.true_and, List.all_eq_true]
          intro kv hkv
          obtain ⟨i, hi, ei⟩ := List.getElem_of_mem hkv
          have him : i < m.length := by omega
          have e1 : kv.1 = m[i].1 := by
            have := congrArg (fun z => z[i]?) ek
            simp only [List.getElem?_map, List.getElem?_eq_getElem hi, List.getElem?_eq_getElem him, Option.map_some, Option.some.injEq] at this
            rw [← ei]; exact this
          have e2 : flD kv.2 = flD m[i].2 := by
            have := congrArg (fun z => z[i]?) ev
            simp only [List.getElem?_map, List.getElem?_eq_getElem hi, List.getElem?_eq_getElem him, Option.map_some, Option.some.injEq] at this
            rw [← ei]; exact this
          have ndm : (m.map Prod.fst).Nodup := by rw [← ek]; exact nd
          have e4 : valD m kv.1 = some m[i].2 := by rw [e1]; exact valD_mem ndm (List.getElem_mem him)
          rw [e4]
          dsimp only
          obtain ⟨u, eu⟩ := Option.isSome_iff_exists.mp (f1 kv hkv)
          rw [← e2, eu]
          exact eqV_self (fl_flat eu)
    | obj c => exact sO v d d' r h h' c
end
end G39

/-! == and != of data: the run -/
namespace G39
open PySem PySem.Spec PyProof.Rows L2 Evl
/-- what is kept while == runs -/
def Grown (X : Cx) (pins : List (Addr × Obj)) (σ : L2.St) (H : Hp) (s : Shared) : Prop := ∃ H', Inv X pins σ H' s ∧ L2.Ext H H'
/-- own == of the objects -/
structure ObEq (X : Cx) (m : Nat) (cO : D → D → Bool → Prop) : Prop where
  rc : ∀ (A : Around) pins s σ H F a b d1 d2 r, L2.Sub X m A → Inv X pins σ H s → Sub F H → Rp X.K F (.ref a) d1 → Rp X.K F (.ref b) d2 → cO d1 d2 r → wpAny (model X.prog X.w) A (richCompare .Eq (.ref a) (.ref b)) (fun v s' => v = .bool r ∧ Grown X pins σ H s') X.xe s
  rn : ∀ (A : Around) pins s σ H F a b d1 d2 r, L2.Sub X m A → Inv X pins σ H s → Sub F H → Rp X.K F (.ref a) d1 → Rp X.K F (.ref b) d2 → cO d1 d2 r → wpAny (model X.prog X.w) A (richCompare .NotEq (.ref a) (.ref b)) (fun v s' => v = .bool (!r) ∧ Grown X pins σ H s') X.xe s
  same : ∀ F v d d' r, Apart X.K F → Rp X.K F v d → Rp X.K F v d' → cO d d' r → r = true
  ref : ∀ F v d d' r, cO d d' r → (Rp X.K F v d → ∃ a, v = .ref a) ∧ (Rp X.K F v d' → ∃ a, v = .ref a)
/-- no objects -/
def cO0 : D → D → Bool → Prop := fun _ _ _ => False
theorem obEq0 {X : Cx} {m : Nat} : ObEq X m cO0 := ⟨fun _ _ _ _ _ _ _ _ _ _ _ _ _ _ _ _ c => c.elim, fun _ _ _ _ _ _ _ _ _ _ _ _ _ _ _ _ c => c.elim, fun _ _ _ _ _ _ _ _ c => c.elim, fun _ _ _ _ _ c => c.elim⟩
section
variable {X : Cx} {m : Nat} {cO : D → D → Bool → Prop} {pins : List (Addr × Obj)} {σ : L2.St} {H F : Hp} {s : Shared} {A : Around}
theorem inv_apart (I : Inv X pins σ H s) (sb : Sub F H) : Apart X.K F := fun a o h => sb.nil (I.bs a o (I.ok.mod.kin a o h)).2
theorem Sub.ext {H' : Hp} (sb : Sub F H) (e : L2.Ext H H') : Sub F H' := fun a u h => by
  rcases sb a u h with z | ⟨z, o, z2⟩
  · exact .inl (e a u z)
  · exact .inr ⟨z, o, e a _ z2⟩
theorem relO_some {v : V} {o : Option Value} (h : RelO (some v) o) : ∃ y, o = some y ∧ RelV v y := by
  cases o with
  | none => exact h.elim
  | some y => exact ⟨y, rfl, h⟩
/-- how the items of two lists answer -/
def ansOf {cO : D → D → Bool → Prop} {n : Nat} : ∀ {l m : List D} {r : Bool}, CmpDs cO n l m r → ∃ e : Nat → Bool, (∀ (j : Nat) a b, l[j]? = some a → m[j]? = some b → CmpD cO n a b (e j)) ∧ r = (List.range (min l.length m.length)).all e := by
  intro l
  induction l with
  | nil =>
    intro m r c
    cases c <;> exact ⟨fun _ => true, fun j a b h _ => by simp at h, by simp⟩
  | cons a l ih =>
    intro m r c
    cases c with
    | nil' => exact ⟨fun _ => true, fun j a b _ h => by simp at h, by simp⟩
    | @cons _ _ b _ m' r1 r2 c cs =>
      obtain ⟨e, h1, h2⟩ := ih cs
      refine ⟨fun j => match j with | 0 => r1 | j + 1 => e j, fun j x y hx hy => ?_, ?_⟩
      · cases j with
        | zero =>
          simp only [List.getElem?_cons_zero, Option.some.injEq] at hx hy
          subst hx hy
          exact c
        | succ j =>
          simp only [List.getElem?_cons_succ] at hx hy
          exact h1 j x y hx hy
      · simp only [List.length_cons]
        rw [show min (l.length + 1) (m'.length + 1) = min l.length m'.length + 1 from by omega, List.range_succ_eq_map, List.all_cons, List.all_map, h2]
        rfl
theorem all_min {N M : Nat} {e : Nat → Bool} : (N == M && (List.range N).all e) = (N == M && (List.range (min N M)).all e) := by
  by_cases h : N = M
  · subst h
    rw [Nat.min_self]
  · have : (N == M) = false := by simpa using h
    rw [this]
    rfl
theorem hits_of {A : Around} {ls : List (Key × V)} {m : List (Key × D)} {vb : List (Key × Value)} (rb : KV ls vb) (hk : ls.map Prod.fst = m.map Prod.fst) (rm : Rps X.K F (ls.map Prod.snd) (m.map Prod.snd)) (fm : ∀ kv ∈ m, flatD kv.2 = true) :
    ∀ {ks : List (Key × V)} {l : List (Key × D)} {va : List (Key × Value)}, KV ks va → ks.map Prod.fst = l.map Prod.fst → Rps X.K F (ks.map Prod.snd) (l.map Prod.snd) → (∀ kv ∈ l, flatD kv.2 = true) →
      PySem.W.KeqHits A s vb va (l.all fun kv => match valD m kv.1 with | some d => (match flD kv.2, flD d with | some u, some v => L2.eqV u v | _, _ => false) | none => false) := by
  intro ks
  induction ks with
  | nil =>
    intro l va r e _ _
    cases l with
    | nil => cases r; exact .nil
    | cons _ _ => cases e
  | cons p ks ih =>
    intro l va r e rp fl
    cases l with
    | nil => cases e
    | cons q l =>
      obtain ⟨g, v⟩ := p
      obtain ⟨g', d⟩ := q
      simp only [List.map_cons, List.cons.injEq] at e
      obtain ⟨rfl, e⟩ := e
      simp only [List.map_cons] at rp
      cases rp with
      | cons rd rt =>
        cases r with
        | @cons _ u _ va' ru rr =>
          obtain ⟨gv, uv⟩ := u
          obtain ⟨eg, rv⟩ := ru
          have eg : g = gv := eg
          subst eg
          have rec1 := ih rr e rt fun kv hkv => fl kv (List.mem_cons_of_mem _ hkv)
          obtain ⟨fu, ef⟩ := Option.isSome_iff_exists.mp (fl (g, d) (List.mem_cons_self ..))
          have ef : flD d = some fu := ef
          have ev : v = fu := rd.flat ef
          subst ev
          rw [List.all_cons]
          rcases rm.vals g hk with ⟨z1, z2⟩ | ⟨v0, d0, z1, z2, r0⟩
          · rw [z2]
            dsimp only
            rw [Bool.false_and]
            exact .miss (RelO.none_of (by have := rb.val g; rw [z1] at this; exact this))
          · rw [z2]
            dsimp only
            have hm : (g, d0) ∈ m ∨ True := .inr trivial
            obtain ⟨f0, e0⟩ : ∃ f0, flD d0 = some f0 := by
              have : ∃ kv ∈ m, kv.2 = d0 := by
                unfold valD at z2
                obtain ⟨kv, hkv, ekv⟩ := Option.map_eq_some_iff.mp z2
                exact ⟨kv, List.mem_of_find?_eq_some hkv, ekv⟩
              obtain ⟨kv, hkv, rfl⟩ := this
              exact Option.isSome_iff_exists.mp (fm kv hkv)
            have ev0 : v0 = f0 := r0.flat e0
            subst ev0
            rw [ef, e0]
            dsimp only
            obtain ⟨y, hy, ry⟩ := relO_some (by have := rb.val g; rw [z1] at this; exact this)
            exact .hit hy (eqAt_V rv ry (fl_flat ef) (fl_flat e0)) rec1
/-- the items at j, seen in a grown state -/
theorem ask_of {n : Nat} {A1 : Around} (O : ObEq X m cO) (rec1 : ∀ {d1 d2 : D} {r : Bool}, CmpD cO n d1 d2 r → ∀ pins s σ H F v1 v2 u1 u2, Inv X pins σ H s → Sub F H → Rp X.K F v1 d1 → Rp X.K F v2 d2 → RelV v1 u1 → RelV v2 u2 → wpAny (model X.prog X.w) A1 (eqBool u1 u2) (fun b s' => b = r ∧ Grown X pins σ H s') X.xe s)
    {l m' : List D} {xs ys : List V} {us ws : List Value} {e : Nat → Bool} (he : ∀ (j : Nat) a b, l[j]? = some a → m'[j]? = some b → CmpD cO n a b (e j)) (r1 : Rps X.K F xs l) (r2 : Rps X.K F ys m') (sb : Sub F H) (v1 : Vals xs us) (v2 : Vals ys ws)
    (j : Nat) (h1 : j < us.toArray.size) (h2 : j < ws.toArray.size) (s : Shared) (g : Grown X pins σ H s) : wpAny (model X.prog X.w) A1 (eqBool us.toArray[j] ws.toArray[j]) (fun b s' => b = e j ∧ Grown X pins σ H s') X.xe s := by
  obtain ⟨H1, I1, x1⟩ := g
  have k1 : j < xs.length := by rw [v1.length]; simpa using h1
  have k2 : j < ys.length := by rw [v2.length]; simpa using h2
  obtain ⟨u, hu, ru⟩ := v1.get (List.getElem?_eq_getElem k1)
  obtain ⟨w, hw, rw'⟩ := v2.get (List.getElem?_eq_getElem k2)
  obtain ⟨d1, e1, p1⟩ := r1.get (List.getElem?_eq_getElem k1)
  obtain ⟨d2, e2, p2⟩ := r2.get (List.getElem?_eq_getElem k2)
  have g1 : us.toArray[j] = u := by
    have h1' : j < us.length := by simpa using h1
    rw [List.getElem?_eq_getElem h1'] at hu
    simpa using hu
  have g2 : ws.toArray[j] = w := by
    have h2' : j < ws.length := by simpa using h2
    rw [List.getElem?_eq_getElem h2'] at hw
    simpa using hw
  rw [g1, g2]
  refine wpAny_mono (rec1 (he j d1 d2 e1 e2) pins s σ H1 F _ _ u w I1 (sb.ext x1) p1 p2 ru rw') (fun b s' q => ?_) fun _ _ x => x
  obtain ⟨eb, H2, I2, x2⟩ := q
  exact ⟨eb, H2, I2, x1.trans x2⟩
theorem eqRun (O : ObEq X m cO) : ∀ (n : Nat) {d1 d2 : D} {r : Bool}, CmpD cO n d1 d2 r → ∀ (A : Around) pins s σ H F v1 v2 u1 u2, L2.Sub X (m + n) A → Inv X pins σ H s → Sub F H → Rp X.K F v1 d1 → Rp X.K F v2 d2 → RelV v1 u1 → RelV v2 u2 →
    wpAny (model X.prog X.w) A (eqBool u1 u2) (fun b s' => b = r ∧ Grown X pins σ H s') X.xe s := by
  have plain : ∀ {d1 d2 : D} {d e : PyData} (A : Around) pins s σ H F v1 v2 u1 u2 (k : Nat), L2.Sub X k A → Inv X pins σ H s → Sub F H → Rp X.K F v1 d1 → Rp X.K F v2 d2 → RelV v1 u1 → RelV v2 u2 → toPy d1 = some d → toPy d2 = some e → SeqAt.shaped d = true → SeqAt.shaped e = true →
      wpAny (model X.prog X.w) A (eqBool u1 u2) (fun b s' => b = PyData.eqv d e ∧ Grown X pins σ H s') X.xe s := by
    intro d1 d2 d e A pins s σ H F v1 v2 u1 u2 k sb I sf p1 p2 ru rw' e1 e2 s1 s2
    obtain ⟨as, q1⟩ := Dp.reads I d v1 u1 (p1.dp sf e1) ru
    obtain ⟨bs, q2⟩ := Dp.reads I e v2 u2 (p2.dp sf e2) rw'
    obtain ⟨l1, l2⟩ := shaped_lay s1
    obtain ⟨l3, l4⟩ := shaped_lay s2
    have hu := sb.room.units
    exact SeqAt.eqAt_reads d e A s u1 u2 as bs q1 q2 l1 l3 (by omega) X.prog X.w X.xe _ ⟨rfl, H, I, Ext.rfl'⟩
  intro n
  induction n with
  | zero =>
    intro d1 d2 r c A pins s σ H F v1 v2 u1 u2 sb I sf p1 p2 ru rw'
    cases c with
    | pl e1 e2 s1 s2 => exact plain A pins s σ H F v1 v2 u1 u2 _ sb I sf p1 p2 ru rw' e1 e2 s1 s2
  | succ n ih =>
    intro d1 d2 r c A pins s σ H F v1 v2 u1 u2 sb I sf p1 p2 ru rw'
    have same : v1 = v2 → r = true := fun e => by
      subst e
      exact cmp_same (inv_apart I sf) (fun v d d' r h h' c => O.same F v d d' r (inv_apart I sf) h h' c) (n + 1) c p1 p2
    have in1 : L2.Sub X (m + n) A.in1 := L2.Sub.in1 (by have := sb; rw [← Nat.add_assoc] at this; exact this)
    -- two objects: the same one, or by their rich comparison
    have refs : ∀ a b, v1 = .ref a → v2 = .ref b → (a ≠ b → wpAny (model X.prog X.w) A (richCompare .Eq (.ref a) (.ref b)) (fun v s' => v = .bool r ∧ Grown X pins σ H s') X.xe s) → wpAny (model X.prog X.w) A (eqBool u1 u2) (fun b s' => b = r ∧ Grown X pins σ H s') X.xe s := by
      intro a b ea eb h
      subst ea eb
      cases (show u1 = Value.ref a from ru)
      cases (show u2 = Value.ref b from rw')
      by_cases hab : a = b
      · subst hab
        rw [same rfl]
        exact SeqAt.EqAt.same (A := A) (s := s) (.ref a) X.prog X.w X.xe _ ⟨rfl, H, I, Ext.rfl'⟩
      · exact GQ.eqBool_refG hab (wpAny_mono (h hab) (fun v s' q => ⟨r, q.1, rfl, q.2⟩) fun _ _ x => x)
    have rec1 : ∀ {d1 d2 : D} {r : Bool}, CmpD cO n d1 d2 r → ∀ pins s σ H F v1 v2 u1 u2, Inv X pins σ H s → Sub F H → Rp X.K F v1 d1 → Rp X.K F v2 d2 → RelV v1 u1 → RelV v2 u2 → wpAny (model X.prog X.w) A.in1 (eqBool u1 u2) (fun b s' => b = r ∧ Grown X pins σ H s') X.xe s := fun c pins s σ H F v1 v2 u1 u2 => ih c A.in1 pins s σ H F v1 v2 u1 u2 in1
    cases c with
    | pl e1 e2 s1 s2 => exact plain A pins s σ H F v1 v2 u1 u2 _ sb I sf p1 p2 ru rw' e1 e2 s1 s2
    | @lst _ l m' r c =>
      obtain ⟨a, xs, ea, ha, t1⟩ := Bw.lst (so := none) (.inl p1) sf
      obtain ⟨b, ys, eb, hb, t2⟩ := Bw.lst (so := none) (.inl p2) sf
      obtain ⟨e, he, hr⟩ := ansOf c
      refine refs a b ea eb fun _ => ?_
      refine rc_list_eq (N := l.length) (M := m'.length) (e := e) sb.room.units0 (I := Grown X pins σ H) (fun s' g => ?_) ⟨H, I, Ext.rfl'⟩ (fun s' g => ⟨?_, g⟩)
      · obtain ⟨H1, I1, x1⟩ := id g
        obtain ⟨_, us, k1, q1, h1⟩ := I1.hok a _ (x1 _ _ ha)
        obtain ⟨_, ws, k2, q2, h2⟩ := I1.hok b _ (x1 _ _ hb)
        exact ⟨us.toArray, ws.toArray, k1, k2, h1, h2, by rw [List.size_toArray, ← q1.length, t1.len], by rw [List.size_toArray, ← q2.length, t2.len], fun j g1 g2 => ask_of O rec1 he t1 t2 sf q1 q2 j g1 g2 s' g⟩
      · rw [all_min, hr]
        cases (l.length == m'.length && (List.range (min l.length m'.length)).all e) <;> rfl
    | @tup _ l m' r c =>
      obtain ⟨a, xs, ea, ha, t1⟩ := Bw.tup (so := none) (.inl p1) sf
      obtain ⟨b, ys, eb, hb, t2⟩ := Bw.tup (so := none) (.inl p2) sf
      obtain ⟨e, he, hr⟩ := ansOf c
      obtain ⟨us, q1, h1, _⟩ := I.tuple ha
      obtain ⟨ws, q2, h2, _⟩ := I.tuple hb
      refine refs a b ea eb fun _ => ?_
      refine rc_tup_eq (e := e) sb.room.units0 h1 h2 (I := Grown X pins σ H) (fun j g1 g2 s' g => ask_of O rec1 he t1 t2 sf q1 q2 j g1 g2 s' g) ⟨H, I, Ext.rfl'⟩ (fun s' g => ⟨?_, g⟩)
      rw [List.size_toArray, List.size_toArray, ← q1.length, ← q2.length, t1.len, t2.len, hr]
      cases (l.length == m'.length && (List.range (min l.length m'.length)).all e) <;> rfl
    | @dic _ l m' f1 f2 nd =>
      obtain ⟨a, kvs, ea, ha, k1, t1⟩ := Bw.dic (so := none) (.inl p1) sf
      obtain ⟨b, kvs', eb, hb, k2, t2⟩ := Bw.dic (so := none) (.inl p2) sf
      obtain ⟨_, y1, va, ra, da⟩ := dk_rd I.hok ha
      obtain ⟨_, y2, vb, rb, db⟩ := dk_rd I.hok hb
      refine refs a b ea eb fun _ => ?_
      have hl : (va.length == vb.length) = (l.length == m'.length) := by rw [← ra.length, ← rb.length, Rps.klen k1, Rps.klen k2]
      refine PySem.W.keq_eq (knd := mixKind X.prog X.w) y1 y2 da db sb.room.units0 (fun _ => hits_of (X := X) rb k2 t2 f2 ra k1 t1 f1) ⟨?_, H, I, Ext.rfl'⟩
      rw [hl]
      rfl
    | obj c =>
      obtain ⟨a, ea⟩ := (O.ref F v1 d1 d2 r c).1 p1
      obtain ⟨b, eb⟩ := (O.ref F v2 d1 d2 r c).2 p2
      refine refs a b ea eb fun _ => ?_
      subst ea eb
      exact O.rc A pins s σ H F a b d1 d2 r (sb.mono (by omega)) I sf p1 p2 c
end
/-! the operators -/
def rEqX (K : PySem.W.Frag) (cO : D → D → Bool → Prop) (neg : Bool) : R2 := fun x y H Q => ∃ F n d1 d2 r, Sub F H ∧ Rp K F x d1 ∧ Rp K F y d2 ∧ CmpD cO n d1 d2 r ∧ n ≤ 9 ∧ ∀ H', L2.Ext H H' → Q (.bl (xor neg r)) H'
section
variable {X : Cx} {m : Nat} {cO : D → D → Bool → Prop} {K : PySem.W.Frag}
theorem op_eqX (hK : X.K = K) (O : ObEq X m cO) (hr : Room (m + 9) X.A) : OpR X (compareOp .Eq) (rEqX K cO false) := by
  subst hK
  intro pins s σ H x y v u Q I rx ry h
  obtain ⟨F, n, d1, d2, r, sf, p1, p2, c, hn, q⟩ := h
  have sb : L2.Sub X (m + n) X.A := ⟨hr.mono (by omega), rfl⟩
  have fin : ∀ v s', v = Value.bool r ∧ Grown X pins σ H s' → EP X pins σ Q v s' := fun v s' ⟨e, H', I', x'⟩ => ⟨.bl r, H', I', by rw [e]; rfl, by have := q H' x'; rwa [Bool.false_xor] at this⟩
  have plain : ∀ {d e : PyData}, toPy d1 = some d → toPy d2 = some e → SeqAt.shaped d = true → SeqAt.shaped e = true → PyData.eqv d e = r → wpAny (model X.prog X.w) X.A (compareOp .Eq v u) (EP X pins σ Q) X.xe s := by
    intro d e e1 e2 s1 s2 er
    obtain ⟨as, q1⟩ := Dp.reads I d x v (p1.dp sf e1) rx
    obtain ⟨bs, q2⟩ := Dp.reads I e y u (p2.dp sf e2) ry
    exact SeqAt.compareEq_shaped q1 q2 s1 s2 hr.units (by rw [er]; exact fin _ _ ⟨rfl, H, I, Ext.rfl'⟩)
  cases n with
  | zero =>
    cases c with
    | pl e1 e2 s1 s2 => exact plain e1 e2 s1 s2 rfl
  | succ n =>
    have in1 : L2.Sub X (m + n) X.A.in1 := L2.Sub.in1 (by have := sb; rw [← Nat.add_assoc] at this; exact this)
    have rec1 : ∀ {d1 d2 : D} {r : Bool}, CmpD cO n d1 d2 r → ∀ pins s σ H F v1 v2 u1 u2, Inv X pins σ H s → Sub F H → Rp X.K F v1 d1 → Rp X.K F v2 d2 → RelV v1 u1 → RelV v2 u2 → wpAny (model X.prog X.w) X.A.in1 (eqBool u1 u2) (fun b s' => b = r ∧ Grown X pins σ H s') X.xe s := fun c pins s σ H F v1 v2 u1 u2 => eqRun O n c X.A.in1 pins s σ H F v1 v2 u1 u2 in1
    cases c with
    | pl e1 e2 s1 s2 => exact plain e1 e2 s1 s2 rfl
    | @lst _ l m' r c =>
      obtain ⟨a, xs, rfl, ha, t1⟩ := Bw.lst (so := none) (.inl p1) sf
      obtain ⟨b, ys, rfl, hb, t2⟩ := Bw.lst (so := none) (.inl p2) sf
      cases (show v = Value.ref a from rx)
      cases (show u = Value.ref b from ry)
      obtain ⟨e, he, hr'⟩ := ansOf c
      refine rc_list_eq (N := l.length) (M := m'.length) (e := e) hr.units0 (I := Grown X pins σ H) (fun s' g => ?_) ⟨H, I, Ext.rfl'⟩ (fun s' g => fin _ _ ⟨?_, g⟩)
      · obtain ⟨H1, I1, x1⟩ := id g
        obtain ⟨_, us, k1, q1, h1⟩ := I1.hok a _ (x1 _ _ ha)
        obtain ⟨_, ws, k2, q2, h2⟩ := I1.hok b _ (x1 _ _ hb)
        exact ⟨us.toArray, ws.toArray, k1, k2, h1, h2, by rw [List.size_toArray, ← q1.length, t1.len], by rw [List.size_toArray, ← q2.length, t2.len], fun j g1 g2 => ask_of O rec1 he t1 t2 sf q1 q2 j g1 g2 s' g⟩
      · rw [all_min, hr']
        cases (l.length == m'.length && (List.range (min l.length m'.length)).all e) <;> rfl
    | @tup _ l m' r c =>
      obtain ⟨a, xs, rfl, ha, t1⟩ := Bw.tup (so := none) (.inl p1) sf
      obtain ⟨b, ys, rfl, hb, t2⟩ := Bw.tup (so := none) (.inl p2) sf
      cases (show v = Value.ref a from rx)
      cases (show u = Value.ref b from ry)
      obtain ⟨e, he, hr'⟩ := ansOf c
      obtain ⟨us, q1, h1, _⟩ := I.tuple ha
      obtain ⟨ws, q2, h2, _⟩ := I.tuple hb
      refine rc_tup_eq (e := e) hr.units0 h1 h2 (I := Grown X pins σ H) (fun j g1 g2 s' g => ask_of O rec1 he t1 t2 sf q1 q2 j g1 g2 s' g) ⟨H, I, Ext.rfl'⟩ (fun s' g => fin _ _ ⟨?_, g⟩)
      rw [List.size_toArray, List.size_toArray, ← q1.length, ← q2.length, t1.len, t2.len, hr']
      cases (l.length == m'.length && (List.range (min l.length m'.length)).all e) <;> rfl
    | @dic _ l m' f1 f2 nd =>
      obtain ⟨a, kvs, rfl, ha, k1, t1⟩ := Bw.dic (so := none) (.inl p1) sf
      obtain ⟨b, kvs', rfl, hb, k2, t2⟩ := Bw.dic (so := none) (.inl p2) sf
      cases (show v = Value.ref a from rx)
      cases (show u = Value.ref b from ry)
      obtain ⟨_, y1, va, ra, da⟩ := dk_rd I.hok ha
      obtain ⟨_, y2, vb, rb, db⟩ := dk_rd I.hok hb
      have hl : (va.length == vb.length) = (l.length == m'.length) := by rw [← ra.length, ← rb.length, Rps.klen k1, Rps.klen k2]
      refine PySem.W.keq_eq (knd := mixKind X.prog X.w) y1 y2 da db hr.units0 (fun _ => hits_of (X := X) rb k2 t2 f2 ra k1 t1 f1) (fin _ _ ⟨?_, H, I, Ext.rfl'⟩)
      rw [hl]
      rfl
    | obj c =>
      obtain ⟨a, rfl⟩ := (O.ref F x d1 d2 r c).1 p1
      obtain ⟨b, rfl⟩ := (O.ref F y d1 d2 r c).2 p2
      cases (show v = Value.ref a from rx)
      cases (show u = Value.ref b from ry)
      exact wpAny_mono (O.rc X.A pins s σ H F a b d1 d2 r (sb.mono (by omega)) I sf p1 p2 c) (fun v s' q => fin v s' q) fun _ _ x => x
theorem op_neX (hK : X.K = K) (O : ObEq X m cO) (hr : Room (m + 9) X.A) : OpR X (compareOp .NotEq) (rEqX K cO true) := by
  subst hK
  intro pins s σ H x y v u Q I rx ry h
  obtain ⟨F, n, d1, d2, r, sf, p1, p2, c, hn, q⟩ := h
  have sb : L2.Sub X (m + n) X.A := ⟨hr.mono (by omega), rfl⟩
  have fin : ∀ v s', v = Value.bool (!r) ∧ Grown X pins σ H s' → EP X pins σ Q v s' := fun v s' ⟨e, H', I', x'⟩ => ⟨.bl (!r), H', I', by rw [e]; rfl, by have := q H' x'; rwa [Bool.true_xor] at this⟩
  have plain : ∀ {d e : PyData}, toPy d1 = some d → toPy d2 = some e → SeqAt.shaped d = true → SeqAt.shaped e = true → PyData.eqv d e = r → wpAny (model X.prog X.w) X.A (compareOp .NotEq v u) (EP X pins σ Q) X.xe s := by
    intro d e e1 e2 s1 s2 er
    obtain ⟨as, q1⟩ := Dp.reads I d x v (p1.dp sf e1) rx
    obtain ⟨bs, q2⟩ := Dp.reads I e y u (p2.dp sf e2) ry
    exact SeqAt.compareNe_shaped q1 q2 s1 s2 hr.units (by rw [er]; exact fin _ _ ⟨rfl, H, I, Ext.rfl'⟩)
  cases n with
  | zero =>
    cases c with
    | pl e1 e2 s1 s2 => exact plain e1 e2 s1 s2 rfl
  | succ n =>
    have in1 : L2.Sub X (m + n) X.A.in1 := L2.Sub.in1 (by have := sb; rw [← Nat.add_assoc] at this; exact this)
    have rec1 : ∀ {d1 d2 : D} {r : Bool}, CmpD cO n d1 d2 r → ∀ pins s σ H F v1 v2 u1 u2, Inv X pins σ H s → Sub F H → Rp X.K F v1 d1 → Rp X.K F v2 d2 → RelV v1 u1 → RelV v2 u2 → wpAny (model X.prog X.w) X.A.in1 (eqBool u1 u2) (fun b s' => b = r ∧ Grown X pins σ H s') X.xe s := fun c pins s σ H F v1 v2 u1 u2 => eqRun O n c X.A.in1 pins s σ H F v1 v2 u1 u2 in1
    cases c with
    | pl e1 e2 s1 s2 => exact plain e1 e2 s1 s2 rfl
    | @lst _ l m' r c =>
      obtain ⟨a, xs, rfl, ha, t1⟩ := Bw.lst (so := none) (.inl p1) sf
      obtain ⟨b, ys, rfl, hb, t2⟩ := Bw.lst (so := none) (.inl p2) sf
      cases (show v = Value.ref a from rx)
      cases (show u = Value.ref b from ry)
      obtain ⟨e, he, hr'⟩ := ansOf c
      refine rc_list_ne (N := l.length) (M := m'.length) (e := e) hr.units0 (I := Grown X pins σ H) (fun s' g => ?_) ⟨H, I, Ext.rfl'⟩ (fun s' g => fin _ _ ⟨?_, g⟩)
      · obtain ⟨H1, I1, x1⟩ := id g
        obtain ⟨_, us, k1, q1, h1⟩ := I1.hok a _ (x1 _ _ ha)
        obtain ⟨_, ws, k2, q2, h2⟩ := I1.hok b _ (x1 _ _ hb)
        exact ⟨us.toArray, ws.toArray, k1, k2, h1, h2, by rw [List.size_toArray, ← q1.length, t1.len], by rw [List.size_toArray, ← q2.length, t2.len], fun j g1 g2 => ask_of O rec1 he t1 t2 sf q1 q2 j g1 g2 s' g⟩
      · rw [all_min, hr']
        cases (l.length == m'.length && (List.range (min l.length m'.length)).all e) <;> rfl
    | @tup _ l m' r c =>
      obtain ⟨a, xs, rfl, ha, t1⟩ := Bw.tup (so := none) (.inl p1) sf
      obtain ⟨b, ys, rfl, hb, t2⟩ := Bw.tup (so := none) (.inl p2) sf
      cases (show v = Value.ref a from rx)
      cases (show u = Value.ref b from ry)
      obtain ⟨e, he, hr'⟩ := ansOf c
      obtain ⟨us, q1, h1, _⟩ := I.tuple ha
      obtain ⟨ws, q2, h2, _⟩ := I.tuple hb
      refine rc_tup_ne (e := e) hr.units0 h1 h2 (I := Grown X pins σ H) (fun j g1 g2 s' g => ask_of O rec1 he t1 t2 sf q1 q2 j g1 g2 s' g) ⟨H, I, Ext.rfl'⟩ (fun s' g => fin _ _ ⟨?_, g⟩)
      rw [List.size_toArray, List.size_toArray, ← q1.length, ← q2.length, t1.len, t2.len, hr']
      cases (l.length == m'.length && (List.range (min l.length m'.length)).all e) <;> rfl
    | @dic _ l m' f1 f2 nd =>
      obtain ⟨a, kvs, rfl, ha, k1, t1⟩ := Bw.dic (so := none) (.inl p1) sf
      obtain ⟨b, kvs', rfl, hb, k2, t2⟩ := Bw.dic (so := none) (.inl p2) sf
      cases (show v = Value.ref a from rx)
      cases (show u = Value.ref b from ry)
      obtain ⟨_, y1, va, ra, da⟩ := dk_rd I.hok ha
      obtain ⟨_, y2, vb, rb, db⟩ := dk_rd I.hok hb
      have hl : (va.length == vb.length) = (l.length == m'.length) := by rw [← ra.length, ← rb.length, Rps.klen k1, Rps.klen k2]
      refine PySem.W.keq_ne (knd := mixKind X.prog X.w) y1 y2 da db hr.units0 (fun _ => hits_of (X := X) rb k2 t2 f2 ra k1 t1 f1) (fin _ _ ⟨?_, H, I, Ext.rfl'⟩)
      rw [hl]
      rfl
    | obj c =>
      obtain ⟨a, rfl⟩ := (O.ref F x d1 d2 r c).1 p1
      obtain ⟨b, rfl⟩ := (O.ref F y d1 d2 r c).2 p2
      cases (show v = Value.ref a from rx)
      cases (show u = Value.ref b from ry)
      exact wpAny_mono (O.rn X.A pins s σ H F a b d1 d2 r (sb.mono (by omega)) I sf p1 p2 c) (fun v s' q => fin v s' q) fun _ _ x => x
end
/-! over data -/
section
variable {K : PySem.W.Frag} {so : Option Addr} {F H : Hp} {cO : D → D → Bool → Prop}
/-- what is borrowed may be held -/
theorem Bw.hold {v : V} {d : D} (h : Bw K so F H v d) (sb : Sub F H) : ∃ F', Ex F F' ∧ Sub F' H ∧ Rp K F' v d := by
  rcases h with h | ⟨p, u, rfl, h1, h2, h⟩
  · exact ⟨F, Ex.refl F, sb, h⟩
  · cases q : F p with
    | none => exact ⟨upd F p u, Ex.new q, fun a o e => by
        by_cases z : a = p
        · subst z
          rw [upd_same] at e
          cases e
          exact .inl h1
        · rw [upd_ne z] at e
          exact sb a o e, h.rp (Ex.new q) upd_same⟩
    | some o =>
      have eo : o = u := by
        rcases sb p o q with z | ⟨_, _, z⟩
        · rw [h1] at z; cases z; rfl
        · rw [h1] at z
          cases z
          cases h
      subst eo
      exact ⟨F, Ex.refl F, sb, h.rp (Ex.refl F) q⟩
theorem Bw.mono {F' : Hp} {v : V} {d : D} (h : Bw K so F H v d) (e : Ex F F') : Bw K so F' H v d := by
  rcases h with h | ⟨p, u, ev, h1, h2, h⟩
  · exact .inl (h.mono e)
  · exact .inr ⟨p, u, ev, h1, h2, h.mono e⟩
def gEqX (cO : D → D → Bool → Prop) (neg : Bool) : D → D → PM D := fun a b n q _ => ∃ k r, k ≤ 9 ∧ CmpD cO k a b r ∧ q (.bl (xor neg r)) n
theorem Ext.step {n : Nat} {H' : Hp} (e : L2.Ext H H') (sb : Sub F H) (c : SrcN so H n) : Step so F H F H' ∧ SrcN so H' n :=
  ⟨⟨sb.ext e, Ex.refl F, fun a o _ h => e a o h, fun _ _ => rfl⟩, fun sa es => by
    obtain ⟨c0, u, m, h1, r⟩ := c sa es
    exact ⟨c0, u, m, e _ _ h1, r⟩⟩
theorem sr_eqX {neg : Bool} : SR K (rEqX K cO neg) (gEqX cO neg) := fun so F H n vx vy a b q x Q s c ba bb ⟨k, r, hk, hc, p⟩ kk => by
  obtain ⟨F1, e1, s1, r1⟩ := ba.hold s
  obtain ⟨F2, e2, s2, r2⟩ := (bb.mono e1).hold s1
  refine ⟨F2, k, a, b, r, s2, r1.mono e2, r2, hc, hk, fun H' ex => ?_⟩
  obtain ⟨st, sc⟩ := Ext.step (F := F) ex s c
  exact kk _ _ F H' n st sc (.bl _) p
end
end G39

/-! objects with an own == inside data; walks over lists or tuples -/
namespace G39
open PySem PySem.Spec PyProof.Rows L2 Evl
section
variable {X : Cx} {k : Nat} {C g : Addr} {nm : Str} {psp : PSp} {cO : D → D → Bool → Prop}
theorem env0_at {A : Around} {pins : List (Addr × Obj)} {σ : L2.St} {H : Hp} {s : Shared} (I : Inv X pins σ H s) (h : A.frames = X.A.frames) : Env0 X.prog X.w X.K X.mg X.base A X.stack s H :=
  let z := I.env0
  ⟨h.trans z.frames, z.mod, z.bs, z.bsz, z.funs, z.frf, z.hok, z.bare⟩
/-- the promise of an own ==, asked beside the draws -/
theorem lift_eq {F H : Hp} {d1 d2 : D} {r : Bool} {a b : Addr} {R : V → Hp → Prop} {E : XK} (sf : Sub F H) (p1 : Rp X.K F (.ref a) d1) (p2 : Rp X.K F (.ref b) d2) (hp : psp [.val d1, .val d2] 0 (fun d _ => d = .bl r) noX) (hR : ∀ H', L2.Ext H H' → R (.bl r) H') : lift X.K psp [.ref a, .ref b] H R E :=
  ⟨none, F, [.val d1, .val d2], 0, _, noX, sf, fun sa e => (by cases e), fun sa e => (by cases e), .cons p1 (.cons p2 .nil), hp, fun v d N H' n' s c rv z => by
    subst z
    cases rv
    exact hR H' fun x o h => s.keep x o (by simp) h, fun _ _ _ _ _ _ _ _ _ z => z.elim⟩
theorem obEq_own (Ac : ClsA X.K X.mg nm C) (O : OwnEq X.K C g) (F : FnR X.prog X.w X.K X.mg X.base CX0 k g (lift X.K psp))
    (hp : ∀ d1 d2 r, cO d1 d2 r → (∃ l, d1 = .obj C l) ∧ (∃ l, d2 = .obj C l) ∧ psp [.val d1, .val d2] 0 (fun d _ => d = .bl r) noX)
    (same : ∀ F v d d' r, Apart X.K F → Rp X.K F v d → Rp X.K F v d' → cO d d' r → r = true) : ObEq X (k + 1) cO := by
  have ref : ∀ F v d d' r, cO d d' r → (Rp X.K F v d → ∃ a, v = .ref a) ∧ (Rp X.K F v d' → ∃ a, v = .ref a) := fun F v d d' r c => by
    obtain ⟨⟨l, rfl⟩, ⟨l', rfl⟩, _⟩ := hp d d' r c
    exact ⟨fun h => by cases h; exact ⟨_, rfl⟩, fun h => by cases h; exact ⟨_, rfl⟩⟩
  refine ⟨fun A pins s σ H F' a b d1 d2 r sb I sf p1 p2 c => ?_, fun A pins s σ H F' a b d1 d2 r sb I sf p1 p2 c => ?_, same, ref⟩
  · obtain ⟨⟨l, rfl⟩, ⟨l', rfl⟩, q⟩ := hp d1 d2 r c
    obtain ⟨_, dx, fs, ea, ha, _, _⟩ := Bw.obj (so := none) (H := H) (.inl p1) sf
    cases ea
    obtain ⟨_, dy, gs, eb, hb, _, _⟩ := Bw.obj (so := none) (H := H) (.inl p2) sf
    cases eb
    obtain ⟨mA, Oi, _⟩ := ins_get I.hok ha
    obtain ⟨od, J, _⟩ := Oi.look
    obtain ⟨mB, Oj, _⟩ := ins_get I.hok hb
    obtain ⟨od', J', _⟩ := Oj.look
    obtain ⟨m, hF⟩ := I.fr
    have e0 : Env0 X.prog X.w X.K X.mg X.base A X.stack s H := env0_at I sb.fr
    refine PySem.W.cmp_K (op := .Eq) (tb := .ref C) sb.room.units0 hF I.ok.mod.kin J J'.type notFirst_self O.eq O.fn ?_
    refine wpAny_mono (wpAny_call (SlX.run_at (us := [.ref a, .ref b]) (ws := [.ref a, .ref b]) (Q := fun v H' => v = .bl r ∧ L2.Ext H H') (E := E0) F (sb.room.mono (by omega)) e0 pass0 I (.cons rfl (.cons rfl .nil)) (lift_eq sf p1 p2 q fun H' x => ⟨rfl, x⟩))) (fun w s' z => ?_) fun _ _ x => x
    obtain ⟨z', H', I', rz, ez, ex⟩ := z
    subst ez
    exact SlX.cmpback (z := .bl r) rz ⟨rz, H', I', ex⟩
  · obtain ⟨⟨l, rfl⟩, ⟨l', rfl⟩, q⟩ := hp d1 d2 r c
    obtain ⟨_, dx, fs, ea, ha, _, _⟩ := Bw.obj (so := none) (H := H) (.inl p1) sf
    cases ea
    obtain ⟨_, dy, gs, eb, hb, _, _⟩ := Bw.obj (so := none) (H := H) (.inl p2) sf
    cases eb
    obtain ⟨mA, Oi, _⟩ := ins_get I.hok ha
    obtain ⟨od, J, _⟩ := Oi.look
    obtain ⟨mB, Oj, _⟩ := ins_get I.hok hb
    obtain ⟨od', J', _⟩ := Oj.look
    obtain ⟨m, hF⟩ := I.fr
    have e0 : Env0 X.prog X.w X.K X.mg X.base A X.stack s H := env0_at I sb.fr
    refine ne_K (tb := .ref C) (Room.units0 (k := k) sb.room.in1) hF I.ok.mod.kin J J'.type notFirst_self O.eq O.fn O.ne O.cm ?_
    refine wpAny_mono (wpAny_call (SlX.run_at (us := [.ref a, .ref b]) (ws := [.ref a, .ref b]) (Q := fun v H' => v = .bl r ∧ L2.Ext H H') (E := E0) F sb.room.in1 e0.in1 pass0 I (.cons rfl (.cons rfl .nil)) (lift_eq sf p1 p2 q fun H' x => ⟨rfl, x⟩))) (fun w s' z => ?_) fun _ _ x => x
    obtain ⟨z', H', I', rz, ez, ex⟩ := z
    subst ez
    cases (show w = Value.bool r from rz)
    exact ⟨r, rfl, rfl, H', I', ex⟩
end
/-! a walk over a list or a tuple -/
def iOr (a b : TI) : TI := fun σ H R => a σ H R ∨ b σ H R
theorem pi_or {X : Cx} {tg e : Expr} {a b : TI} (h1 : PI X tg e a) (h2 : PI X tg e b) : PI X tg e (iOr a b) := ⟨fun pins s σ H R I h => h.elim (fun z => h1.run pins s σ H R I z) fun z => h2.run pins s σ H R I z⟩
def pItQ (pe : PEx) : PIx := fun ρ n q x => pe ρ n (fun d n1 => ∃ l, itemsD d = some l ∧ q l n1) x
section
variable {K : PySem.W.Frag} {W : WX'} {te : TE} {pe : PEx}
theorem sj_q (i : Nat) : SimJ K W (iOr (iList K (tVar i)) (iTup K (tVar i))) (pItQ (pVar i)) := fun so F H σ ρ n q x R e p xo k => by
  unfold pItQ pVar at p
  split at p
  · rename_i d hd
    obtain ⟨l, hl, p⟩ := p
    cases d with
    | lst l' =>
      cases hl
      exact .inl (sj_list (W := W) (se_var i) so F H σ ρ n q x R e (by unfold pItL pVar; rw [hd]; exact p) xo k)
    | tup l' =>
      cases hl
      exact .inr (sj_tup (W := W) (se_var i) so F H σ ρ n q x R e (by unfold pItT pVar; rw [hd]; exact p) xo k)
    | _ => cases hl
  · exact p.elim
end
end G39

/-! [e for x in xs for y in ys] over data -/
namespace G39
open PySem PySem.Spec PyProof.Rows L2 Evl
def colC (f : D → Nat → (List D → Nat → Prop) → Prop) : List D → Nat → (List D → Nat → Prop) → Prop
  | [], n, q => q [] n
  | d :: ds, n, q => f d n fun ys n1 => colC f ds n1 fun l n2 => q (ys ++ l) n2
def elC (pg : PGx) (pt : PTx) (pi1 : PIx) (pg1 : PGx) (pt1 : PTx) (pe : PEx) (vs1 : List Nat) (ρ : List PV) : D → Nat → (List D → Nat → Prop) → Prop := fun d n k =>
  pg d ρ fun ρ2 => pt ρ2 n (fun b n1 => if b = true then pi1 ρ2 n1 (fun es n2 => es.length ≤ 400 ∧ colP (elP pg1 pt1 pe (wipeP ρ2 vs1)) es n2 k) noX else k [] n1) noX
def pLc2 (pi : PIx) (pg : PGx) (pt : PTx) (pi1 : PIx) (pg1 : PGx) (pt1 : PTx) (pe : PEx) (vs vs1 : List Nat) : PEx := fun ρ n q x => pi ρ n (fun ds n1 => ds.length ≤ 200 ∧ colC (elC pg pt pi1 pg1 pt1 pe vs1 (wipeP ρ vs)) ds n1 fun l n2 => q (.lst l) n2) x
section
variable {K : PySem.W.Frag} {W : WX'} {te : TE} {pe : PEx}
/-- behind a target: the slots again, in a later heap -/
theorem En.move {so : Option Addr} {N2 H2 N Hx : Hp} {σ σ2 : L2.St} {ρ ρ2 : List PV} {n n2 : Nat} {js : List Nat} (e2 : En K so N2 H2 σ2 ρ2 n2) (o : Off js σ σ2 ρ ρ2) (e : En K so N Hx σ ρ n) (x : Ex N2 N) : En K so N Hx σ2 ρ2 n :=
  ⟨e.sub, e.src, e.nsr, e2.len, fun i pv h => by
    rcases o.2.2 i pv h with ⟨d, rfl⟩ | ⟨h1, h2⟩
    · obtain ⟨ov, g1, v, rfl, r⟩ := e2.sl i _ h
      exact ⟨_, g1, v, rfl, r.mono x⟩
    · obtain ⟨ov, g1, g2⟩ := e.sl i pv h1
      exact ⟨ov, by rw [h2]; exact g1, g2⟩⟩
theorem sf_lc2 {wi wi1 : TI} {pi pi1 : PIx} {js js1 vs vs1 : List Nat} {g g1 : L2.TG} {pg pg1 : PGx} {tt tt1 : TT} {pt pt1 : PTx} (hi : SimI K W wi pi) (hg : SimG K js g pg) (hj : ∀ j ∈ js, j ∈ vs) (ht : SimT K WF tt pt)
    (hi1 : SimJ K WF wi1 pi1) (hg1 : SimG K js1 g1 pg1) (hj1 : ∀ j ∈ js1, j ∈ vs1) (ht1 : SimT K WF tt1 pt1) (he : SimE K WF te pe) :
    SimF K W (tLc2 wi g tt wi1 g1 tt1 te vs vs1) (pLc2 pi pg pt pi1 pg1 pt1 pe vs vs1) := fun so F H σ ρ n q x Q e p xo k => hi so F H σ ρ n _ x _ e p xo fun J ds G N1 H1 n1 s1 c1 w1 gk p1 Dl hD => by
  have nD := s1.sub.nil hD
  have sD := c1.ne hD
  have hlen := p1.1
  refine ⟨fun i m Hc => m = ds.length - i ∧ i ≤ ds.length ∧ ∃ N n' acc ys, Step so N1 H1 N Hc ∧ SrcN so Hc n' ∧ N Dl = none ∧ Hc Dl = some (.lst ys) ∧ Rps K N ys acc ∧ acc.length ≤ 400 * i ∧ colC (elC pg pt pi1 pg1 pt1 pe vs1 (wipeP ρ vs)) (ds.drop i) n' fun l n2 => q (.lst (acc ++ l)) n2,
    ⟨ds.length, by simp, Nat.zero_le _, N1, n1, [], [], (Step.refl s1.sub).beside' hD nD, c1.beside sD, nD, upd_same, .nil, Nat.le_refl _, p1.2⟩, ?_⟩
  rintro i m Hc ⟨rfl, hle, N, n', acc, ys, h1, h2, h3, h4, h5, h6, h7⟩
  by_cases hlt : i < ds.length
  · refine .inr ⟨w1.goes i Hc hlt (gk Hc h1.keep), fun H' => ∃ N n' acc ys, Step so N1 H1 N H' ∧ SrcN so H' n' ∧ N Dl = none ∧ H' Dl = some (.lst ys) ∧ Rps K N ys acc ∧ acc.length ≤ 400 * (i + 1) ∧ colC (elC pg pt pi1 pg1 pt1 pe vs1 (wipeP ρ vs)) (ds.drop (i + 1)) n' fun l n2 => q (.lst (acc ++ l)) n2,
      fun H' z => ⟨ds.length - (i + 1), by omega, rfl, hlt, z⟩, fun x H2 y => ?_⟩
    obtain ⟨d, hd, ed⟩ := drop_at hlt
    rw [ed] at h7
    obtain ⟨N2, s2', r2⟩ := w1.yields i Hc x H2 N d hd (gk Hc h1.keep) h1.ex h1.sub y
    have s2 : Step so N Hc N2 H2 := s2'.any
    have c2 : SrcN so H2 n' := s2'.srcN h2
    have t2 := h1.trans s2 c1 h2
    have d2 : H2 Dl = some (.lst ys) := s2.keep Dl _ sD h4
    have n2 : N2 Dl = none := by rw [s2.new Dl (by rw [h4]; exact fun q => by cases q)]; exact h3
    have e2 := (e.step (s1.trans t2 e.src c1) c2).wipe vs
    refine hg so N2 H2 x d _ _ n' _ _ e2 r2 h7 fun σ2 ρ2 e3 o3 p3 => ⟨wipe_off o3 hj, ht so N2 H2 σ2 ρ2 n' _ noX _ e3 p3 xo_no fun b N3 H3 n3 s3 c3 p4 => ?_⟩
    have t3 := t2.trans s3 c1 c2
    have d3 : H3 Dl = some (.lst ys) := s3.keep Dl _ sD d2
    have n3' : N3 Dl = none := by rw [s3.new Dl (by rw [d2]; exact fun q => by cases q)]; exact n2
    have e3' := e3.step s3 c3
    cases b with
    | false =>
      rw [if_neg Bool.false_ne_true] at p4 ⊢
      refine ⟨N3, n3, acc, ys, t3, c3, n3', d3, h5.mono (s2.ex.trans s3.ex), by omega, ?_⟩
      simpa using p4
    | true =>
      rw [if_pos rfl] at p4 ⊢
      refine hi1 so N3 H3 σ2 ρ2 n3 _ noX _ e3' p4 xo_no fun J1 es G1 N4 H4 n4 s4 c4 w2 gk1 p5 => ?_
      have t4 := t3.trans s4 c1 c3
      have d4 : H4 Dl = some (.lst ys) := s4.keep Dl _ sD d3
      have n4' : N4 Dl = none := by rw [s4.new Dl (by rw [d3]; exact fun q => by cases q)]; exact n3'
      have e4 := e3'.step s4 c4
      have he400 := p5.1
      refine ⟨fun j kk Hx => kk = es.length - j ∧ j ≤ es.length ∧ ∃ N n' acc' ys', Step so N1 H1 N Hx ∧ Ex N4 N ∧ SrcN so Hx n' ∧ N Dl = none ∧ Hx Dl = some (.lst ys') ∧ Rps K N ys' acc' ∧ acc'.length ≤ 400 * i + j ∧ colP (elP pg1 pt1 pe (wipeP ρ2 vs1)) (es.drop j) n' fun l n2 => colC (elC pg pt pi1 pg1 pt1 pe vs1 (wipeP ρ vs)) (ds.drop (i + 1)) n2 fun l2 n3 => q (.lst (acc' ++ (l ++ l2))) n3,
        ⟨es.length, by simp, Nat.zero_le _, N4, n4, acc, ys, t4, Ex.refl N4, c4, n4', d4, h5.mono (s2.ex.trans (s3.ex.trans s4.ex)), by omega, p5.2⟩, ?_⟩
      rintro j kk Hx ⟨rfl, hjl, Nx, nx, acc', ys', g1', gx, g2, g3, g4, g5, g6, g7⟩
      by_cases hjt : j < es.length
      · refine .inr ⟨w2.goes j Hx hjt (gk1 Nx Hx gx g1'.sub), fun H' => ∃ N n' acc' ys', Step so N1 H1 N H' ∧ Ex N4 N ∧ SrcN so H' n' ∧ N Dl = none ∧ H' Dl = some (.lst ys') ∧ Rps K N ys' acc' ∧ acc'.length ≤ 400 * i + (j + 1) ∧ colP (elP pg1 pt1 pe (wipeP ρ2 vs1)) (es.drop (j + 1)) n' fun l n2 => colC (elC pg pt pi1 pg1 pt1 pe vs1 (wipeP ρ vs)) (ds.drop (i + 1)) n2 fun l2 n3 => q (.lst (acc' ++ (l ++ l2))) n3,
          fun H' z => ⟨es.length - (j + 1), by omega, rfl, hjt, z⟩, fun x5 H5 y5 => ?_⟩
        obtain ⟨d5, hd5, ed5⟩ := drop_at hjt
        rw [ed5] at g7
        obtain ⟨N5, s5', r5⟩ := w2.yields j Hx x5 H5 Nx d5 hd5 (gk1 Nx Hx gx g1'.sub) gx g1'.sub y5
        have s5 : Step so Nx Hx N5 H5 := s5'.any
        have c5 : SrcN so H5 nx := s5'.srcN g2
        have t5 := g1'.trans s5 c1 g2
        have d5' : H5 Dl = some (.lst ys') := s5.keep Dl _ sD g4
        have n5' : N5 Dl = none := by rw [s5.new Dl (by rw [g4]; exact fun q => by cases q)]; exact g3
        have e5 := (e3.move o3 ((e.step (s1.trans t5 e.src c1) c5).wipe vs) (s3.ex.trans (s4.ex.trans (gx.trans s5.ex)))).wipe vs1
        refine hg1 so N5 H5 x5 d5 _ _ nx _ _ e5 r5 g7 fun σ3 ρ3 e6 o6 p6 => ⟨wipe_off o6 hj1, ht1 so N5 H5 σ3 ρ3 nx _ noX _ e6 p6 xo_no fun b N6 H6 n6 s6 c6 p7 => ?_⟩
        have t6 := t5.trans s6 c1 c5
        have d6 : H6 Dl = some (.lst ys') := s6.keep Dl _ sD d5'
        have n6' : N6 Dl = none := by rw [s6.new Dl (by rw [d5']; exact fun q => by cases q)]; exact n5'
        cases b with
        | false =>
          rw [if_neg Bool.false_ne_true] at p7 ⊢
          exact ⟨N6, n6, acc', ys', t6, gx.trans (s5.ex.trans s6.ex), c6, n6', d6, g5.mono (s5.ex.trans s6.ex), by omega, p7⟩
        | true =>
          rw [if_pos rfl] at p7 ⊢
          refine he so N6 H6 σ3 ρ3 n6 _ noX _ (e6.step s6 c6) p7 xo_no fun v7 d7 N7 H7 n7 s7 c7 r7 p8 => ?_
          have t7 := t6.trans s7 c1 c6
          have d7' : H7 Dl = some (.lst ys') := s7.keep Dl _ sD d6
          have n7' : N7 Dl = none := by rw [s7.new Dl (by rw [d6]; exact fun q => by cases q)]; exact n6'
          refine ⟨ys', d7', ?_, ?_⟩
          · rw [g5.len, sizeLine_eq]
            have : 400 * i ≤ 400 * 200 := Nat.mul_le_mul_left _ (by omega)
            omega
          · refine ⟨N7, n7, acc' ++ [d7], ys' ++ [v7], t7.beside' hD n7', gx.trans (s5.ex.trans (s6.ex.trans s7.ex)), c7.beside sD, n7', upd_same, (g5.mono (s5.ex.trans (s6.ex.trans s7.ex))).snoc r7, by rw [List.length_append]; simp only [List.length_cons, List.length_nil]; omega, ?_⟩
            simpa using p8
      · have ej : j = es.length := by omega
        subst ej
        rw [List.drop_of_length_le (Nat.le_refl _)] at g7
        refine .inl ⟨w2.stops Hx (gk1 Nx Hx gx g1'.sub), Nx, nx, acc', ys', g1', g2, g3, g4, g5, by omega, ?_⟩
        simpa [colP] using g7
  · have ei : i = ds.length := by omega
    subst ei
    rw [List.drop_of_length_le (Nat.le_refl _)] at h7
    have h7 : q (.lst (acc ++ [])) n' := h7
    rw [List.append_nil] at h7
    exact .inl ⟨w1.stops Hc (gk Hc h1.keep), KF.step k s1 e.src c1 Dl (.lst ys) (.lst acc) N Hc n' h1 h2 hD h3 h4 sD (.lst h5) h7⟩
end
end G39

/-! plain facts and promises that the laws share -/
namespace G39
open PySem PySem.Spec PyProof.Rows L2 Evl
section
variable {P : Program} {w : World} {K : PySem.W.Frag} {mg : Str → Option Value} {base : Heap}
theorem nameS_nil {z : Str} (h : z.cps.toList = []) : nameS z = false := by
  unfold nameS
  rw [h]
  rfl
theorem name_go {d : D} {n : Nat} {q : D → Nat → Prop} {x : PX} (h : Sm d) (k : q (.bl (nameX d)) n) : psName [.val d] n q x := ⟨h, k⟩
theorem var_go {d : D} {n : Nat} {q : D → Nat → Prop} {x : PX} (h : Sm d) (k : q (.bl (varX d)) n) : psVar [.val d] n q x := ⟨h, k⟩
theorem sm_str {z : Str} (h : z.length ≤ 10000) : Sm (.str z) := ⟨rfl, fun x e => by cases e; exact h⟩
theorem pat_go {d : D} {n : Nat} {q : D → Nat → Prop} {x : PX} (h : SmT d) (k : q (.bl (patX d)) n) : psPat [.val d] n q x := ⟨h, k⟩
def optD : Option (List Str) → D
  | none => .non
  | some p => tupD p
def psText : PSp := A1 fun d n q _ => ∃ p, d = tupD p ∧ PB p ∧ q (.str (textS p)) n
def psRead : PSp := A1 fun d n q _ => ∃ z : Str, d = .str z ∧ z.length ≤ 5000 ∧ q (optD (readS z)) n
/-- read as a fact -/
def readF (z : Str) : Option (List Str) := match readS z with
  | some p => if factX (tupD p) then some p else none
  | none => none
def psReadF : PSp := A1 fun d n q _ => ∃ z : Str, d = .str z ∧ z.length ≤ 5000 ∧ SOk z ∧ q (optD (readF z)) n
def psNameL : PSp := A1 fun d n q _ => ∃ z : Str, d = .str z ∧ z.length ≤ 10000 ∧ SOk z ∧ q (.bl (nameS z)) n
def psTermL : PSp := A2 fun d o n q _ => ∃ (z : Str) (b : Bool), d = .str z ∧ o = .bl b ∧ z.length ≤ 10000 ∧ SOk z ∧ q (.bl (nameS z || (b && varS z))) n
def psPatL : PSp := A2 fun d o n q _ => ∃ (p : List Str) (b : Bool), d = tupD p ∧ o = .bl b ∧ p.length ≤ 6000 ∧ (∀ z ∈ p, z.length ≤ 6000 ∧ SOk z) ∧ q (.bl (if b then patX d else factX d)) n
theorem sm_strs {p : List Str} (h : ∀ z ∈ p, z.length ≤ 10000) (hl : p.length ≤ 10000) : SmT (tupD p) := by
  refine ⟨⟨rfl, fun x e => by cases e⟩, fun l e => ?_⟩
  cases e
  refine ⟨by rw [List.length_map]; exact hl, fun d hd => ?_⟩
  obtain ⟨z, hz, rfl⟩ := List.mem_map.mp hd
  exact ⟨rfl, fun x e => by cases e; exact h z hz⟩
theorem empty_add (t : Str) : Str.empty ++ t = t := Str.empty_append t
theorem cut_strs (t : Str) (r : List Str) : cutD (D.str t :: r.map D.str) (some 1) none = r.map D.str := by
  rw [cutD_1]
  rfl
theorem join_ok {r : List Str} (h : ∀ z ∈ r, z.length ≤ 20) (hl : r.length ≤ 3) : (r.map (·.length)).sum + r.length * comma.length ≤ 16777216 ∧ (Str.join comma r).length ≤ 100 := by
  have a := sum_len r h
  have b := join_len r h
  have c : comma.length = 1 := rfl
  rw [c]
  omega
theorem opt_pat {p : List Str} {n : Nat} {q : D → Nat → Prop} {x : PX} (hl : p.length ≤ 6000) (h : ∀ z ∈ p, z.length ≤ 6000) (hq : q (optD (if patX (tupD p) = true then some p else none)) n) :
    psPat [.val (tupD p)] n (fun d n1 => match d with | .bl b => if b = true then q (tupD p) n1 else q .non n1 | _ => False) x := by
  refine pat_go (sm_strs (fun z hz => Nat.le_trans (h z hz) (by decide)) (by omega)) ?_
  show if patX (tupD p) = true then _ else _
  by_cases c : patX (tupD p) = true
  · rw [if_pos c] at hq ⊢
    exact hq
  · rw [if_neg c] at hq ⊢
    exact hq
theorem gEq_nil {f : Bool → Bool} {l : List D} {n : Nat} {q : D → Nat → Prop} {x : PX} (pl : plDs l = true) (dp : dpDs l ≤ 40) (h : q (.bl (f l.isEmpty)) n) : gEqD f (.lst l) (.lst []) n q x := by
  refine gEqD_of (by simpa [plD] using pl) rfl (by simp only [dpD]; omega) (by simp [dpD, dpDs]) ?_
  have e : decide (D.lst l = D.lst []) = l.isEmpty := by
    cases l with
    | nil => simp
    | cons a l => simp
  rw [e]
  exact h
theorem pl_strs : ∀ {l : List Str}, (∀ z ∈ l, SOk z) → plDs (l.map D.str) = true ∧ dpDs (l.map D.str) = 0
  | [], _ => ⟨rfl, rfl⟩
  | z :: l, h => by
    obtain ⟨h1, h2⟩ := pl_strs fun y hy => h y (List.mem_cons_of_mem _ hy)
    have hz : plD (.str z) = true := h z (List.mem_cons_self ..)
    exact ⟨by simp [plDs, hz, h1], by simp [dpDs, dpD, h2]⟩
theorem sok_sign {z : Str} (h : SOk z) {c : Nat} (hc : c ∈ z.cps.toList) : SOk ⟨#[c]⟩ := by
  unfold SOk at h ⊢
  simp only [PyData.canLay0, PyData.strOk] at h ⊢
  have z1 := Array.all_eq_true'.mp h c (by simpa using hc)
  simpa using z1
theorem no_bad {z : Str} : ((z.cps.toList.filter fun c => !isSgn c).map fun c => D.str ⟨#[c]⟩).isEmpty = z.cps.toList.all isSgn := by
  cases e : z.cps.toList.all isSgn with
  | true =>
    have : (z.cps.toList.filter fun c => !isSgn c) = [] := List.filter_eq_nil_iff.mpr fun c hc => by
      rw [List.all_eq_true.mp e c hc]
      decide
    rw [this]
    rfl
  | false =>
    cases h : (z.cps.toList.filter fun c => !isSgn c) with
    | nil =>
      have : z.cps.toList.all isSgn = true := List.all_eq_true.mpr fun c hc => by
        have := List.filter_eq_nil_iff.mp h c hc
        simpa using this
      rw [e] at this
      cases this
    | cons a l => rfl
theorem nameL_go {z : Str} {n : Nat} {q : D → Nat → Prop} {x : PX} (h : z.length ≤ 10000) (so : SOk z) (k : q (.bl (nameS z)) n) : psNameL [.val (.str z)] n q x := ⟨z, rfl, h, so, k⟩
theorem tail_ok {z : Str} (h : z.length ≤ 10000) (so : SOk z) : (cutS z (some 1) none).length ≤ 10000 ∧ SOk (cutS z (some 1) none) := by
  refine ⟨by rw [← len_cps, cut_tail, List.length_drop, len_cps]; omega, ?_⟩
  unfold SOk at so ⊢
  simp only [PyData.canLay0, PyData.strOk] at so ⊢
  refine Array.all_eq_true'.mpr fun c hc => ?_
  have hc : c ∈ (cutS z (some 1) none).cps.toList := by simpa using hc
  rw [cut_tail] at hc
  exact Array.all_eq_true'.mp so c (by simpa using List.mem_of_mem_drop hc)
theorem name_not_open {z : Str} (h : cutS z none (some 1) = Str.ofString "?") : nameS z = false := by
  have e : z.cps.toList.take 1 = [63] := by
    rw [← cut_head, h]
    rfl
  unfold nameS
  cases hz : z.cps.toList with
  | nil => rfl
  | cons c r =>
    rw [hz] at e
    have : c = 63 := by simpa using e
    subst this
    cases hn : nameC (63 :: r) with
    | false => rfl
    | true => exact absurd rfl ((name_parts hn).2.2 63 (List.mem_cons_self ..)).2.2.2.2
theorem termL_go {z : Str} {b : Bool} {n : Nat} {q : D → Nat → Prop} {x : PX} (h : z.length ≤ 10000) (so : SOk z) (k : q (.bl (nameS z || (b && varS z))) n) : psTermL [.val (.str z), .val (.bl b)] n q x := ⟨z, b, rfl, rfl, h, so, k⟩
theorem filter_empty {α : Type} {f : α → Bool} : ∀ (l : List α), (l.filter fun a => !f a).isEmpty = l.all f
  | [] => rfl
  | a :: l => by
    cases h : f a with
    | true => simp [List.filter_cons, h, filter_empty l]
    | false => simp [List.filter_cons, h]
theorem pat_law {t : Str} {r : List Str} (c : r.length ≤ 3) (b : Bool) : (if b = true then patX (tupD (t :: r)) else factX (tupD (t :: r))) = (nameS t && r.all fun z => nameS z || (b && varS z)) := by
  cases b with
  | true => simp [tupD, patX, c, nameX, varX, List.all_map, Function.comp_def]
  | false =>
    simp only [Bool.false_eq_true, if_false, tupD, List.map_cons, factX, patX, List.length_map, decide_eq_true c, Bool.true_and, nameX, List.all_cons, List.all_map, Function.comp_def, Bool.false_and, Bool.or_false, varX]
    cases h1 : nameS t with
    | false => rfl
    | true =>
      simp only [Bool.true_and]
      cases h2 : r.all fun z => nameS z with
      | false => simp
      | true =>
        rw [Bool.and_true]
        exact List.all_eq_true.mpr fun z hz => by rw [List.all_eq_true.mp h2 z hz]; rfl
theorem pat_long {t : Str} {r : List Str} (c : ¬ r.length ≤ 3) (b : Bool) : (if b = true then patX (tupD (t :: r)) else factX (tupD (t :: r))) = false := by
  cases b <;> simp [tupD, patX, factX, c]
theorem parts_sok {z : Str} {a b : List Nat} (hc : cutAt 40 z.cps.toList = some (a, b)) (so : SOk z) : ∀ y ∈ partsC a b, SOk y := by
  obtain ⟨ex, _⟩ := cutAt_some hc
  have each : ∀ y ∈ partsC a b, ∀ c ∈ y.cps.toList, c ∈ z.cps.toList := by
    intro y hy c hcy
    rw [ex]
    unfold partsC at hy
    rcases List.mem_cons.mp hy with rfl | hy
    · rw [ofC_cps] at hcy
      exact List.mem_append_left _ hcy
    · by_cases q : b.dropLast = []
      · rw [if_pos q] at hy
        cases hy
      · rw [if_neg q] at hy
        have : c ∈ (ofC b.dropLast).cps.toList := split_mem hy hcy
        rw [ofC_cps] at this
        exact List.mem_append_right _ (List.mem_cons_of_mem _ (List.dropLast_subset b this))
  intro y hy
  unfold SOk at so ⊢
  simp only [PyData.canLay0, PyData.strOk] at so ⊢
  exact Array.all_eq_true'.mpr fun c hc => Array.all_eq_true'.mp so c (by simpa using each y hy c (by simpa using hc))
theorem fact_pat {d : D} (h : factX d = true) : patX d = true := by
  cases d with
  | tup l =>
    cases l with
    | nil => cases h
    | cons t r =>
      simp only [factX, Bool.and_eq_true] at h
      exact h.1
  | _ => cases h
theorem patL_go {p : List Str} {b : Bool} {n : Nat} {q : D → Nat → Prop} {x : PX} (h : p.length ≤ 6000) (hz : ∀ z ∈ p, z.length ≤ 6000 ∧ SOk z) (k : q (.bl (if b then patX (tupD p) else factX (tupD p))) n) : psPatL [.val (tupD p), .val (.bl b)] n q x := ⟨p, b, rfl, rfl, h, hz, k⟩
theorem opt_fact {p : List Str} {n : Nat} {q : D → Nat → Prop} {x : PX} (hl : p.length ≤ 6000) (h : ∀ z ∈ p, z.length ≤ 6000 ∧ SOk z) (hq : q (optD (if factX (tupD p) = true then some p else none)) n) :
    psPatL [.val (tupD p), .val (.bl false)] n (fun d n1 => match d with | .bl b => if b = true then q (tupD p) n1 else q .non n1 | _ => False) x := by
  refine patL_go hl h ?_
  show if factX (tupD p) = true then _ else _
  by_cases c : factX (tupD p) = true
  · rw [if_pos c] at hq ⊢
    exact hq
  · rw [if_neg c] at hq ⊢
    exact hq
/-- ends of lines -/
def nlC (z : Str) : Nat := z.cps.toList.count 10
def psSpoil : PSp := S1 fun a n q _ => ∃ ls : List Str, a = .lst (ls.map .str) ∧ ls.length ≤ 6 ∧ (∀ z ∈ ls, z.length ≤ 200 ∧ SOk z ∧ nlC z = 0) ∧ n ≤ 800000 ∧ ∀ z n', z.length ≤ 5000 → SOk z → nlC z ≤ 40 → n' ≤ n + 5 → q (.str z) n'
/-- texts, not too many -/
def Lines (l : List D) : Prop := ∃ xs : List Str, l = xs.map D.str ∧ xs.length ≤ 13 ∧ ∀ z ∈ xs, z.length ≤ 200 ∧ SOk z ∧ nlC z = 0
theorem sok_iff {z : Str} : SOk z ↔ ∀ c ∈ z.cps.toList, c < 0x110000 := by
  unfold SOk
  simp only [PyData.canLay0, PyData.strOk]
  constructor
  · intro h c hc
    have := Array.all_eq_true'.mp h c (by simpa using hc)
    simpa using this
  · intro h
    exact Array.all_eq_true'.mpr fun c hc => decide_eq_true (h c (by simpa using hc))
theorem sok_add {a b : Str} (ha : SOk a) (hb : SOk b) : SOk (a ++ b) := by
  rw [sok_iff] at *
  intro c hc
  rw [cps_add] at hc
  rcases List.mem_append.mp hc with h | h
  · exact ha c h
  · exact hb c h
theorem join_all {s : Str} {N : Nat} (hs : SOk s) (hl : s.length = 1) : ∀ {l : List Str}, (∀ z ∈ l, z.length ≤ N ∧ SOk z) → SOk (Str.join s l) ∧ (Str.join s l).length ≤ (N + 1) * l.length
  | [], _ => by
    refine ⟨sok_iff.mpr fun c hc => ?_, ?_⟩
    · have : (Str.join s []).cps.toList = [] := rfl
      rw [this] at hc
      cases hc
    · show (0 : Nat) ≤ _
      omega
  | [a], h => by
    have := h a (List.mem_cons_self ..)
    exact ⟨this.2, by show a.length ≤ _; simp; omega⟩
  | a :: b :: l, h => by
    have h1 := h a (List.mem_cons_self ..)
    have ih := join_all hs hl (l := b :: l) fun z hz => h z (List.mem_cons_of_mem _ hz)
    have e : Str.join s (a :: b :: l) = (a ++ s) ++ Str.join s (b :: l) := rfl
    rw [e]
    refine ⟨sok_add (sok_add h1.2 hs) ih.1, ?_⟩
    rw [len_add, len_add, hl, List.length_cons, Nat.mul_succ]
    have := ih.2
    omega
theorem sum_le {N : Nat} : ∀ {l : List Str}, (∀ z ∈ l, z.length ≤ N) → (l.map (·.length)).sum ≤ N * l.length
  | [], _ => by simp
  | a :: l, h => by
    have := sum_le (l := l) fun z hz => h z (List.mem_cons_of_mem _ hz)
    have := h a (List.mem_cons_self ..)
    simp only [List.map_cons, List.sum_cons, List.length_cons, Nat.mul_succ]
    omega
theorem nlC_add (a b : Str) : nlC (a ++ b) = nlC a + nlC b := by
  unfold nlC
  rw [cps_add, List.count_append]
theorem join_nl : ∀ {l : List Str}, (∀ z ∈ l, nlC z = 0) → nlC (Str.join (Str.ofString "\n") l) = l.length - 1
  | [], _ => rfl
  | [a], h => h a (List.mem_cons_self ..)
  | a :: b :: l, h => by
    have e : Str.join (Str.ofString "\n") (a :: b :: l) = (a ++ Str.ofString "\n") ++ Str.join (Str.ofString "\n") (b :: l) := rfl
    have e1 : nlC (Str.ofString "\n") = 1 := rfl
    rw [e, nlC_add, nlC_add, h a (List.mem_cons_self ..), e1, join_nl fun z hz => h z (List.mem_cons_of_mem _ hz)]
    simp only [List.length_cons]
    omega
theorem split_nl (z : Str) : (Txt.split z (Str.ofString "\n")).length = nlC z + 1 := by
  have e : Str.ofString "\n" = ⟨#[10]⟩ := rfl
  have h1 : ∀ y ∈ Txt.split z ⟨#[10]⟩, nlC y = 0 := fun y hy => List.count_eq_zero.mpr (StrLaws.split_free z 10 y hy)
  have h2 := join_nl h1
  have h3 : Str.join (Str.ofString "\n") (Txt.split z ⟨#[10]⟩) = z := StrLaws.join_split z _
  rw [h3] at h2
  have h4 := split_pos z ⟨#[10]⟩
  rw [e]
  omega
theorem nl_ok : SOk (Str.ofString "\n") ∧ (Str.ofString "\n").length = 1 := by
  constructor
  · show (PyData.str (Str.ofString "\n")).canLay0 = true
    decide +kernel
  · rfl
theorem lines_of {ls : List Str} (hl : ls.length ≤ 13) (hz : ∀ z ∈ ls, z.length ≤ 200 ∧ SOk z ∧ nlC z = 0) : (ls.map fun x => x.length).sum + ls.length * (Str.ofString "\n").length ≤ 16777216 ∧ ((Str.ofString "\n").join ls).length ≤ 201 * ls.length ∧ SOk ((Str.ofString "\n").join ls) ∧ nlC ((Str.ofString "\n").join ls) ≤ 12 := by
  have h1 := sum_le fun z m => (hz z m).1
  have h2 := join_all nl_ok.1 nl_ok.2 fun z m => ⟨(hz z m).1, (hz z m).2.1⟩
  have hn := join_nl fun z m => (hz z m).2.2
  have h3 : 200 * ls.length ≤ 200 * 13 := Nat.mul_le_mul_left _ hl
  have h4 : 201 * ls.length ≤ 201 * 13 := Nat.mul_le_mul_left _ hl
  refine ⟨?_, h2.2, h2.1, by omega⟩
  rw [nl_ok.2]
  omega
theorem lines_join {l : List D} {q : D → Nat → Prop} {n : Nat} (h : Lines l) (k : ∀ z, z.length ≤ 4000 → SOk z → nlC z ≤ 12 → q (.str z) n) : ∃ x, strsD l = some x ∧ (x.map fun x => x.length).sum + x.length * (Str.ofString "\n").length ≤ 16777216 ∧ q (.str ((Str.ofString "\n").join x)) n := by
  obtain ⟨xs, rfl, hl, hz⟩ := h
  have h1 := sum_le fun z m => (hz z m).1
  have h2 := join_all nl_ok.1 nl_ok.2 fun z m => ⟨(hz z m).1, (hz z m).2.1⟩
  have hn := join_nl fun z m => (hz z m).2.2
  have h3 : 200 * xs.length ≤ 200 * 13 := Nat.mul_le_mul_left _ hl
  have h4 : 201 * xs.length ≤ 201 * 13 := Nat.mul_le_mul_left _ hl
  refine ⟨xs, strsD_map xs, ?_, k _ (by omega) h2.1 (by omega)⟩
  rw [nl_ok.2]
  omega
theorem cut_sub {ls : List Str} (lo hi : Option Int) : ∃ sub : List Str, cutD (ls.map D.str) lo hi = sub.map D.str ∧ sub.length ≤ ls.length ∧ ∀ z ∈ sub, z ∈ ls := by
  unfold cutD
  rw [← List.map_drop, ← List.map_take]
  refine ⟨_, rfl, ?_, fun z hz => List.mem_of_mem_drop (List.mem_of_mem_take hz)⟩
  rw [List.length_take, List.length_drop]
  omega
theorem cutS_ok {z : Str} (so : SOk z) {m : Nat} (h : m ≤ z.length) : (SOk (cutS z none (some (m : Int))) ∧ (cutS z none (some (m : Int))).length ≤ z.length ∧ nlC (cutS z none (some (m : Int))) ≤ nlC z) := by
  refine ⟨sok_iff.mpr fun c hc => ?_, ?_, by unfold nlC; rw [cut_to z h]; exact (List.take_sublist _ _).count_le _⟩
  · rw [cut_to z h] at hc
    exact sok_iff.mp so c (List.mem_of_mem_take hc)
  · rw [← len_cps, cut_to z h, List.length_take, ← len_cps z]
    omega
theorem cutF_ok {z : Str} (so : SOk z) (m : Nat) : (SOk (cutS z (some (m : Int)) none) ∧ (cutS z (some (m : Int)) none).length ≤ z.length ∧ nlC (cutS z (some (m : Int)) none) ≤ nlC z) := by
  refine ⟨sok_iff.mpr fun c hc => ?_, ?_, by unfold nlC; rw [cut_from]; exact (List.drop_sublist _ _).count_le _⟩
  · rw [cut_from] at hc
    exact sok_iff.mp so c (List.mem_of_mem_drop hc)
  · rw [← len_cps, cut_from, List.length_drop, ← len_cps z]
    omega
theorem pickS_go {ss : List Str} {m : Nat} {q : D → Prop} {l : List D} (hm : m < ss.length) (k : ∀ z ∈ ss, q (.str z)) (e : l = ss.map D.str := by rfl) : ∃ d, L2.atI l (m : Int) = some d ∧ q d := by
  subst e
  exact ⟨_, at_map hm, k _ (List.getElem_mem _)⟩
/-- p may follow what has been found -/
def goesOn (f : List (List Str)) (p : List Str) : Bool := match f.getLast? with
  | none => true
  | some a => ltP a p
def dueGo : List Str → Nat → List (List Str) → D
  | [], _, f => .lst (f.map tupD)
  | l :: ls, k, f => match readF l with
    | none => .int ((k : Int) + 1)
    | some p => if goesOn f p = true then dueGo ls (k + 1) (f ++ [p]) else .int ((k : Int) + 1)
def dueD (z : Str) : D := if z = Str.ofString "" then .lst [] else dueGo (Txt.split z (Str.ofString "\n")) 0 []
def psDue : PSp := A1 fun a n q _ => ∃ z : Str, a = .str z ∧ z.length ≤ 5000 ∧ SOk z ∧ q (dueD z) n
theorem readF_go {z : Str} {n : Nat} {q : D → Nat → Prop} {x : PX} (h : z.length ≤ 5000) (so : SOk z) (k : q (optD (readF z)) n) : psReadF [.val (.str z)] n q x := ⟨z, rfl, h, so, k⟩
theorem lines_each {z : Str} (hz : z.length ≤ 5000) (so : SOk z) : (Txt.split z (Str.ofString "\n")).length ≤ 5001 ∧ ∀ l ∈ Txt.split z (Str.ofString "\n"), l.length ≤ 5000 ∧ SOk l := by
  have e : Str.ofString "\n" = ⟨#[10]⟩ := rfl
  rw [e]
  refine ⟨by have := split_len z 10; omega, fun l hl => ⟨by have := split_each hl; omega, sok_iff.mpr fun c hc => sok_iff.mp so c (split_mem hl hc)⟩⟩
theorem readF_fact {l : Str} {p : List Str} (h : readF l = some p) : factX (tupD p) = true := by
  unfold readF at h
  split at h
  · rename_i p' _
    by_cases c : factX (tupD p') = true
    · rw [if_pos c] at h
      cases h
      exact c
    · rw [if_neg c] at h
      cases h
  · cases h
theorem at_last {α : Type} {l : List α} {a : α} : L2.atI (l ++ [a]) (-1) = some a := by
  unfold L2.atI ixN
  simp
  have e1 : (1 : Int) ≤ (l.length : Int) + 1 := by omega
  have e2 : (-1 + ((l.length : Int) + 1)).toNat = l.length := by omega
  rw [if_pos e1, e2]
  simp
theorem snoc_of {α : Type} {l : List α} (h : l ≠ []) : ∃ m a, l = m ++ [a] := ⟨l.dropLast, l.getLast h, (List.dropLast_concat_getLast h).symm⟩
theorem colK_of {f : D → Nat → (Option D → Nat → Prop) → Prop} {n : Nat} {q : List (List Str) → Nat → Prop} : ∀ (ks acc : List (List Str)), (acc ++ ks).Nodup → (∀ k ∈ ks, ∀ kk : Option D → Nat → Prop, kk (some (tupD k)) n → f (tupD k) n kk) → q (acc ++ ks) n → colK f (ks.map tupD) acc n q
  | [], acc, _, _, h => by
    rw [List.append_nil] at h
    exact h
  | k :: ks, acc, nd, hf, h => by
    refine hf k (List.mem_cons_self ..) _ ⟨k, rfl, fun z => ?_, ?_⟩
    · exact (List.nodup_append.mp nd).2.2 k z k (List.mem_cons_self ..) rfl
    · have e : acc ++ k :: ks = (acc ++ [k]) ++ ks := by simp
      rw [e] at nd h
      exact colK_of ks (acc ++ [k]) nd (fun k' hk' => hf k' (List.mem_cons_of_mem _ hk')) h
theorem fact_go {d : D} {n : Nat} {q : D → Nat → Prop} {x : PX} (h : SmT d) (k : q (.bl (factX d)) n) : psFact [.val d] n q x := ⟨h, k⟩
theorem fact_sm {p : List Str} (h : factX (tupD p) = true) : SmT (tupD p) := by
  have pb := (good_pb (fact_parts h).1).1
  exact sm_strs (fun z hz => Nat.le_trans (pb.2.2 z hz) (by decide)) (by have := pb.2.1; omega)
theorem nodup_sub {α : Type} [DecidableEq α] : ∀ {l m : List α}, l.Nodup → (∀ x ∈ l, x ∈ m) → l.length ≤ m.length
  | [], _, _, _ => Nat.zero_le _
  | x :: l, m, hd, hs => by
    have hx := hs x (List.mem_cons_self ..)
    have hd := List.nodup_cons.mp hd
    have ih := nodup_sub (l := l) (m := m.erase x) hd.2 fun y hy => (List.mem_erase_of_ne (fun (e : y = x) => hd.1 (by rw [← e]; exact hy))).mpr (hs y (List.mem_cons_of_mem _ hy))
    rw [List.length_erase_of_mem hx] at ih
    have : 0 < m.length := List.length_pos_of_mem hx
    rw [List.length_cons]
    omega
def psTextM (P : Program) (w : World) (C : Addr) : PSp := A1 fun d n q _ => ∃ ps, d = storeD P w C ps ∧ ps.length ≤ 100 ∧ (∀ p ∈ ps, PB p) ∧ q (.str (Str.join (Str.ofString "\n") (ps.map textS))) n
def psRows (P : Program) (w : World) (C : Addr) : PSp := A1 fun d n q _ => ∃ ps, d = storeD P w C ps ∧ q (rowsD ps) n
theorem text_go {p : List Str} {n : Nat} {q : D → Nat → Prop} {x : PX} (h : PB p) (k : q (.str (textS p)) n) : psText [.val (tupD p)] n q x := ⟨p, rfl, h, k⟩
def psReadM (P : Program) (w : World) (C CB : Addr) : PSp := fun args n q x => match args with
  | [.me C', .val (.str z)] => C' = C ∧ z.length ≤ 5000 ∧ SOk z ∧ nlC z ≤ 40 ∧ (∀ k, dueD z = .int k → x (.ref CB) [("line", .int k)] n) ∧ (∀ ps, dueD z = .lst (ps.map tupD) → q (storeD P w C ps) n)
  | _ => False
theorem readM_len {P : Program} {w : World} {C CB : Addr} : ∀ args n q x, psReadM P w C CB args n q x → args.length = 2 := fun args n q x h => by
  unfold psReadM at h
  split at h
  · rfl
  · exact h.elim
/-- strictly rising -/
def Rise (f : List (List Str)) : Prop := f.Pairwise (fun a b => ltP a b = true)
theorem rise_srt {f : List (List Str)} (h : Rise f) : srtP (onceP f) = f := by
  have nd : f.Nodup := h.imp fun {a b} h e => by
    rw [e, ltP_irr] at h
    cases h
  have pm : f.Perm (onceP f) := (List.perm_ext_iff_of_nodup nd (once_nodup f)).mpr fun x => mem_once.symm
  exact (srtP_eq pm (h.imp fun {a b} h => by unfold leP; rw [ltP_asym h]; rfl)).symm
theorem read_go {z : Str} {n : Nat} {q : D → Nat → Prop} {x : PX} (h : z.length ≤ 5000) (k : q (optD (readS z)) n) : psRead [.val (.str z)] n q x := ⟨z, rfl, h, k⟩
theorem readS_good {z : Str} {p : List Str} (h : readS z = some p) : GoodP p := by
  unfold readS at h
  split at h
  · cases h
  · split at h
    · split at h
      · rename_i hp
        cases h
        exact hp
      · cases h
    · cases h
theorem rise_snoc {f : List (List Str)} {p : List Str} (h : Rise f) (g : goesOn f p = true) : Rise (f ++ [p]) := by
  refine List.pairwise_append.mpr ⟨h, List.pairwise_singleton _ _, fun a ha b hb => ?_⟩
  rw [List.mem_singleton.mp hb]
  by_cases fe : f = []
  · subst fe
    cases ha
  · obtain ⟨m, z, rfl⟩ := snoc_of fe
    have g : ltP z p = true := by simpa [goesOn] using g
    rcases List.mem_append.mp ha with ha | ha
    · exact ltP_trans ((List.pairwise_append.mp h).2.2 a ha z (by simp)) g
    · rw [List.mem_singleton.mp ha]
      exact g
def psTold : PSp := A1 fun a n q _ => ∃ z : Str, a = .str z ∧ z.length ≤ 5000 ∧ SOk z ∧ nlC z ≤ 40 ∧ q (dueD z) n
def psEqM (P : Program) (w : World) (C : Addr) : PSp := A2 fun a b n q _ => ∃ ps, a = storeD P w C ps ∧ (∀ p ∈ ps, factX (tupD p) = true) ∧ eqR C b ∧ ((∃ qs, b = storeD P w C qs ∧ (∀ p ∈ qs, factX (tupD p) = true) ∧ q (.bl (decide (ps = qs))) n) ∨ (isC C b = false ∧ q (.bl false) n))
theorem rows_inj {ps qs : List (List Str)} : decide (rowsD ps = rowsD qs) = decide (ps = qs) := by
  have : rowsD ps = rowsD qs ↔ ps = qs := ⟨fun h => by
    have h : ps.map tupD = qs.map tupD := by simpa [rowsD] using h
    exact (List.map_inj_right fun a b e => tupD_inj e).mp h, fun h => by rw [h]⟩
  simp only [this]
theorem pl_rows {ps : List (List Str)} (h : ∀ p ∈ ps, factX (tupD p) = true) : plD (rowsD ps) = true ∧ dpD (rowsD ps) ≤ 2 := by
  obtain ⟨h1, h2⟩ := pl_tups (ps := ps) fun p hp => fact_sok (h p hp)
  exact ⟨h1, by unfold rowsD dpD; omega⟩
theorem nl_name {l : List Nat} (h : nameC l = true) : 10 ∉ l := by
  intro hc
  cases l with
  | nil => cases hc
  | cons c r =>
    unfold nameC at h
    simp only [Bool.and_eq_true] at h
    have := List.all_eq_true.mp h.2.2 10 hc
    revert this
    decide
theorem text_nl {p : List Str} (h : factX (tupD p) = true) : nlC (textS p) = 0 := by
  obtain ⟨gp, nm⟩ := fact_parts h
  obtain ⟨t, r, rfl, h1, h2, h3⟩ := good_parts gp
  refine List.count_eq_zero.mpr fun hc => ?_
  rw [text_cps] at hc
  have jn : ∀ {r : List Str}, (∀ z ∈ r, nameS z = true) → 10 ∉ (Str.join comma r).cps.toList := by
    intro r
    induction r with
    | nil => intro _ z; cases z
    | cons x r ih =>
      intro hr hc
      cases r with
      | nil => exact nl_name (hr x (List.mem_cons_self ..)) hc
      | cons y r =>
        have : (Str.join comma (x :: y :: r)).cps.toList = _ := join_cps 44 x y r
        rw [this] at hc
        rcases List.mem_append.mp hc with hc | hc
        · exact nl_name (hr x (List.mem_cons_self ..)) hc
        · rcases List.mem_cons.mp hc with hc | hc
          · cases hc
          · exact ih (fun z hz => hr z (List.mem_cons_of_mem _ hz)) hc
  rcases List.mem_append.mp hc with hc | hc
  · exact nl_name (nm t (List.mem_cons_self ..)) hc
  · rcases List.mem_cons.mp hc with hc | hc
    · cases hc
    · rcases List.mem_append.mp hc with hc | hc
      · exact jn (fun z hz => nm z (List.mem_cons_of_mem _ hz)) hc
      · cases List.mem_singleton.mp hc
theorem readF_text {p : List Str} (h : factX (tupD p) = true) : readF (textS p) = some p := by
  unfold readF
  rw [read_text (fact_parts h).1]
  dsimp only
  rw [if_pos h]
theorem facts_rise {ps : List (List Str)} (h : FactsOk ps) : Rise ps := by
  have := List.pairwise_and_iff.mpr ⟨h.pw, h.once⟩
  refine this.imp fun {a b} ⟨h1, h2⟩ => ?_
  cases hl : ltP a b with
  | true => rfl
  | false => exact absurd (leP_anti h1 (by unfold leP; rw [hl]; rfl)) h2
theorem due_go : ∀ (ls f : List (List Str)) (k : Nat), (∀ p ∈ ls, factX (tupD p) = true) → Rise (f ++ ls) → dueGo (ls.map textS) k f = .lst ((f ++ ls).map tupD)
  | [], f, k, _, _ => by
    rw [List.append_nil]
    rfl
  | p :: ls, f, k, hf, hr => by
    rw [List.map_cons]
    unfold dueGo
    rw [readF_text (hf p (List.mem_cons_self ..))]
    dsimp only
    have g : goesOn f p = true := by
      by_cases fe : f = []
      · subst fe
        rfl
      · obtain ⟨m, a, rfl⟩ := snoc_of fe
        have : goesOn (m ++ [a]) p = ltP a p := by simp [goesOn]
        rw [this]
        exact (List.pairwise_append.mp hr).2.2 a (by simp) p (by simp)
    have e : f ++ p :: ls = (f ++ [p]) ++ ls := by simp
    rw [if_pos g, due_go ls (f ++ [p]) (k + 1) (fun q hq => hf q (List.mem_cons_of_mem _ hq)) (by rw [← e]; exact hr), ← e]
theorem text_ne {p : List Str} (h : factX (tupD p) = true) : (textS p).cps.toList ≠ [] := by
  obtain ⟨t, r, rfl, h1, h2, h3⟩ := good_parts (fact_parts h).1
  rw [text_cps]
  simp
theorem join_ne {p : List Str} {ps : List (List Str)} (h : factX (tupD p) = true) : Str.join (Str.ofString "\n") ((p :: ps).map textS) ≠ Str.ofString "" := by
  intro e
  have e2 := congrArg (fun z : Str => z.cps.toList) e
  cases ps with
  | nil => exact text_ne h e2
  | cons q ps =>
    have : (Str.join (Str.ofString "\n") ((p :: q :: ps).map textS)).cps.toList = _ := join_cps 10 (textS p) (textS q) (ps.map textS)
    simp only [this] at e2
    have e3 : (Str.ofString "").cps.toList = [] := rfl
    rw [e3] at e2
    simp at e2
/-- the text of facts is read as these facts -/
theorem due_join {ps : List (List Str)} (h : FactsOk ps) : dueD (Str.join (Str.ofString "\n") (ps.map textS)) = .lst (ps.map tupD) := by
  cases ps with
  | nil => rfl
  | cons p ps =>
    unfold dueD
    rw [if_neg (join_ne (h.each p (List.mem_cons_self ..)))]
    have e : Txt.split (Str.join (Str.ofString "\n") ((p :: ps).map textS)) (Str.ofString "\n") = (p :: ps).map textS := split_join (c := 10) (by simp) fun y hy => by
      obtain ⟨q, hq, rfl⟩ := List.mem_map.mp hy
      exact List.count_eq_zero.mp (text_nl (h.each q hq))
    rw [e]
    exact due_go (p :: ps) [] 0 h.each (facts_rise h)
theorem dueGo_pl : ∀ (ls : List Str) (k : Nat) (f : List (List Str)), (∀ p ∈ f, factX (tupD p) = true) → plD (dueGo ls k f) = true ∧ dpD (dueGo ls k f) ≤ 2
  | [], k, f, hf => by
    obtain ⟨h1, h2⟩ := pl_tups (ps := f) fun p hp => fact_sok (hf p hp)
    exact ⟨h1, by unfold dueGo dpD; omega⟩
  | l :: ls, k, f, hf => by
    unfold dueGo
    cases hr : readF l with
    | none => exact ⟨rfl, by simp [dpD]⟩
    | some p =>
      dsimp only
      split
      · refine dueGo_pl ls (k + 1) (f ++ [p]) fun q hq => ?_
        rcases List.mem_append.mp hq with hq | hq
        · exact hf q hq
        · rw [List.mem_singleton.mp hq]
          exact readF_fact hr
      · exact ⟨rfl, by simp [dpD]⟩
theorem due_pl (z : Str) : plD (dueD z) = true ∧ dpD (dueD z) ≤ 2 := by
  unfold dueD
  split
  · exact ⟨rfl, by simp [dpD, dpDs]⟩
  · exact dueGo_pl _ 0 [] fun _ z => by cases z
theorem told_go {z : Str} {n : Nat} {q : D → Nat → Prop} {x : PX} (h1 : z.length ≤ 5000) (h2 : SOk z) (h3 : nlC z ≤ 40) (k : q (dueD z) n) : psTold [.val (.str z)] n q x := ⟨z, rfl, h1, h2, h3, k⟩
theorem due_go' {z : Str} {n : Nat} {q : D → Nat → Prop} {x : PX} (h1 : z.length ≤ 5000) (h2 : SOk z) (k : q (dueD z) n) : psDue [.val (.str z)] n q x := ⟨z, rfl, h1, h2, k⟩
theorem spoil_go {ls : List Str} {n : Nat} {q : D → Nat → Prop} {x : PX} (hl : ls.length ≤ 6) (hz : ∀ z ∈ ls, z.length ≤ 200 ∧ SOk z ∧ nlC z = 0) (hn : n ≤ 800000) (k : ∀ z n', z.length ≤ 5000 → SOk z → nlC z ≤ 40 → n' ≤ n + 5 → q (.str z) n') : psSpoil [.src, .val (.lst (ls.map .str))] n q x := ⟨ls, rfl, hl, hz, hn, k⟩
def spLaw (K : PySem.W.Frag) : Sp := fun vs H Q _ => ∃ (a : Addr) (ns : List Int), vs = [.ref a] ∧ SqL K H a (ns.map V.int) ∧ (∀ z ∈ ns, Builtin.Int.intBits z ≤ 1048576) ∧ ns.length ≤ 63 ∧ ∀ H', Q (.bl true) H'
def psLaw : PSp := fun args n q _ => ∃ ns : List Int, args = [.scr ns] ∧ (∀ z ∈ ns, Builtin.Int.intBits z ≤ 1048576) ∧ ns.length ≤ 63 ∧ ∀ n', q (.bl true) n'
theorem law_len : ∀ args n q x, psLaw args n q x → args.length = 1 := fun args n q x ⟨_, e, _⟩ => by rw [e]; rfl
theorem law_lift {K : PySem.W.Frag} {vs : List V} {H : Hp} {Q : VK} {E : XK} (h : spLaw K vs H Q E) : lift K psLaw vs H Q E := by
  obtain ⟨a, ns, rfl, hs, hb, hl, hq⟩ := h
  exact ⟨none, fun _ => none, [.scr ns], 0, fun d _ => d = .bl true, noX, fun a u e => (by cases e), fun sa e => (by cases e), fun sa e => (by cases e), .cons (p := .scr ns) ⟨a, rfl, hs, rfl⟩ .nil, ⟨ns, rfl, hb, hl, fun _ => rfl⟩, fun v d N H' n' s c r z => by
    subst z
    cases r
    exact hq H', fun _ _ _ _ _ _ _ _ _ z => z.elim⟩
end
end G39

/-! calls by names and with defaults; the making of a store of a list or a tuple -/
namespace G39
open PySem PySem.Spec PyProof.Rows L2 Evl
/-- these places of a list -/
def pickL {α : Type} (idx : List Nat) (l : List α) : List α := idx.filterMap fun i => l[i]?
theorem Ags.app {K : PySem.W.Frag} {so : Option Addr} {F H : Hp} : ∀ {vs us : List V} {ps qs : List PV}, Ags K so F H vs ps → Ags K so F H us qs → Ags K so F H (vs ++ us) (ps ++ qs)
  | _, _, _, _, .nil, s => s
  | _, _, _, _, .cons r t, s => .cons r (Ags.app t s)
theorem Ags.at {K : PySem.W.Frag} {so : Option Addr} {F H : Hp} : ∀ {vs : List V} {ps : List PV} (i : Nat), Ags K so F H vs ps → (vs[i]? = none ∧ ps[i]? = none) ∨ ∃ v p, vs[i]? = some v ∧ ps[i]? = some p ∧ Ag K so F H v p
  | _, _, _, .nil => .inl ⟨by simp, by simp⟩
  | _, _, 0, .cons r t => .inr ⟨_, _, rfl, rfl, r⟩
  | _, _, i + 1, .cons r t => by simpa using Ags.at i t
theorem Ags.pick {K : PySem.W.Frag} {so : Option Addr} {F H : Hp} {vs : List V} {ps : List PV} (h : Ags K so F H vs ps) : ∀ idx : List Nat, Ags K so F H (pickL idx vs) (pickL idx ps)
  | [] => .nil
  | i :: idx => by
    have ih := Ags.pick h idx
    unfold pickL at ih ⊢
    rw [List.filterMap_cons, List.filterMap_cons]
    rcases h.at i with ⟨h1, h2⟩ | ⟨v, p, h1, h2, r⟩
    · rw [h1, h2]
      exact ih
    · rw [h1, h2]
      exact .cons r ih
theorem vals_at : ∀ {vs : List V} {us : List Value} (i : Nat), Vals vs us → (vs[i]? = none ∧ us[i]? = none) ∨ ∃ v u, vs[i]? = some v ∧ us[i]? = some u ∧ RelV v u
  | _, _, _, .nil => .inl ⟨by simp, by simp⟩
  | _, _, 0, .cons r t => .inr ⟨_, _, rfl, rfl, r⟩
  | _, _, i + 1, .cons r t => by simpa using vals_at i t
theorem vals_pick {vs : List V} {us : List Value} (h : Vals vs us) : ∀ idx : List Nat, Vals (pickL idx vs) (pickL idx us)
  | [] => .nil
  | i :: idx => by
    have ih := vals_pick h idx
    unfold pickL at ih ⊢
    rw [List.filterMap_cons, List.filterMap_cons]
    rcases vals_at i h with ⟨h1, h2⟩ | ⟨v, p, h1, h2, r⟩
    · rw [h1, h2]
      exact ih
    · rw [h1, h2]
      exact .cons r ih
section
variable {K : PySem.W.Frag} {x qual : Str} {params : Arguments} {body : List Stmt} {scope : Scope} {dvs : List V} {f : Addr} {fd : FuncData} {ps : List Str}
/-- n places, names ks: what is bound are the places idx of these, the defaults, the named -/
theorem FunD.kbn (F : FunD K x qual params body scope dvs [] f fd) (n : Nat) (ks : List Str) (idx : List Nat) (hd : dvs ≠ [])
    (h : ∀ (T : Addr) (kV doc pm : Value) (an : Option Addr) (cdv ct : Value) (us its ws : List Value), us.length = n → its.length = dvs.length → ws.length = ks.length →
      ∃ k, bindArgs (PySem.W.fnOf x qual params body scope (.ref T) kV doc pm an cdv ct) ⟨us, ks.zip ws⟩ = seqItems? (.ref T) >>= k ∧ k (some its.toArray) = pure (ps.zip (pickL idx (us ++ its ++ ws)))) :
    ∃ its : List Value, KBn K fd ps n ks (fun us ws => pickL idx (us ++ its ++ ws)) (fun vs zs => pickL idx (vs ++ dvs ++ zs)) := by
  obtain ⟨oc, od, dV, kV, doc, pm, an, cdv, ct, osl, rfl, lk, hcd, hD, hK⟩ := F.ex
  rcases hD with ⟨e, _⟩ | ⟨_, T, o, its, m, rfl, lT, oT, rT⟩
  · exact absurd e hd
  · refine ⟨its, ⟨fun s us ws X l1 l2 => ?_, fun r1 r2 => vals_pick ((r1.append rT).append r2) idx⟩⟩
    obtain ⟨k, e1, e2⟩ := h T kV doc pm an cdv ct us its ws l1 rT.length.symm l2
    refine BindsTo.of_looks fun M => ?_
    rw [e1]
    exact looks_items X lT oT (.of_pure e2)
theorem Fun.kbn {st : Stmt} (F : Fun K x qual st f fd) (n : Nat) (ks : List Str) (idx : List Nat)
    (h : ∀ (kV doc pm : Value) (an : Option Addr) (cdv ct : Value) (us ws : List Value), us.length = n → ws.length = ks.length → bindArgs (PySem.W.fnOf x qual (defArgs st) (defBody st) (defScope st) .none kV doc pm an cdv ct) ⟨us, ks.zip ws⟩ = pure (ps.zip (pickL idx (us ++ [] ++ ws)))) :
    KBn K fd ps n ks (fun us ws => pickL idx (us ++ [] ++ ws)) (fun vs zs => pickL idx (vs ++ [] ++ zs)) := by
  obtain ⟨oc, od, kV, doc, pm, an, cdv, ct, osl, rfl, lk, hcd⟩ := F.ex
  exact ⟨fun s us ws _ h1 h2 => .of_eq (h kV doc pm an cdv ct us ws h1 h2), fun r1 r2 => vals_pick ((r1.append .nil).append r2) idx⟩
end
/-- the defaults stand for these data -/
def Dfl (K : PySem.W.Frag) (dvs : List V) (dds : List D) : Prop := ∀ F : Hp, Rps K F dvs dds
theorem dfl_nil {K : PySem.W.Frag} : Dfl K [] [] := fun _ => .nil
theorem dfl_non {K : PySem.W.Frag} {dvs : List V} {dds : List D} (h : Dfl K dvs dds) : Dfl K (.non :: dvs) (.non :: dds) := fun F => .cons .non (h F)
theorem dfl_tup {K : PySem.W.Frag} {dvs : List V} {dds : List D} {e : Addr} (w : WrT K e []) (h : Dfl K dvs dds) : Dfl K (.ref e :: dvs) (.tup [] :: dds) := fun F => .cons (.wtup w .nil) (h F)
theorem ags_dfl {K : PySem.W.Frag} {so : Option Addr} {F H : Hp} : ∀ {dvs : List V} {dds : List D}, Rps K F dvs dds → Ags K so F H dvs (dds.map .val)
  | _, _, .nil => .nil
  | _, _, .cons r t => .cons r (ags_dfl t)
section
variable {K : PySem.W.Frag} {W : WX'} {ta tk : TA} {pa pk : PAx}
/-- f(.., k = ..) -/
def pCallN (n m : Nat) (idx : List Nat) (dds : List D) (psp : PSp) (pa pk : PAx) : PEx := fun ρ n0 q x => pa ρ n0 (fun ps n1 => pk ρ n1 (fun zs n2 => ps.length = n ∧ zs.length = m ∧ psp (pickL idx (ps ++ dds.map PV.val ++ zs)) n2 q noX) x) x
theorem se_callN {psp : PSp} {n m : Nat} {idx : List Nat} {dvs : List V} {dds : List D} (hd : Dfl K dvs dds) (h : SimA K W ta pa) (h2 : SimA K W tk pk) : SimE K W (tCallN n m (lift K psp) (fun vs zs => pickL idx (vs ++ dvs ++ zs)) E0 ta tk) (pCallN n m idx dds psp pa pk) := fun so F H σ ρ n0 q x Q e p xo k =>
  h so F H σ ρ n0 _ x _ e p xo fun vs ps N H1 n1 s1 c1 a1 p1 => h2 so N H1 σ ρ n1 _ x _ (e.step s1 c1) p1 (xo.step s1 e.src c1) fun zs qs M H2 n2 s2 c2 a2 ⟨l1, l2, p2⟩ =>
    ⟨(a1.len).trans l1, (a2.len).trans l2, so, M, _, n2, q, noX, s2.sub, c2, ((e.step s1 c1).step s2 c2).nsr, Ags.pick (((a1.step s2).app (ags_dfl (hd M))).app a2) idx, p2, fun v d L H' n' s c r z => k v d L H' n' ((s1.trans s2 e.src c1).trans s e.src c2) c r z, fun _ _ _ _ _ _ _ _ _ z => z.elim⟩
end
/-! stores of a list or a tuple -/
def spInitQ (K : PySem.W.Frag) (P : Program) (w : World) (C : Addr) : Sp := fun vs H Q _ => ∃ (x dx : Addr) (v : V) (so : Option Addr) (F : Hp) (n : Nat) (dv : D) (ps : List (List Str)), vs = [.ref x, v] ∧ H x = some (.ins C dx []) ∧ F x = none ∧ so ≠ some x ∧ Sub F H ∧ SrcN so H n ∧ (∀ sa, so = some sa → F sa = none) ∧
  Rp K F v dv ∧ itemsD dv = some (ps.map tupD) ∧ (∀ p ∈ ps, factX (tupD p) = true) ∧ ps.length < 64 ∧
  ∀ N H' fs, Ex F N → Sub N H' → N x = none → H' x = some (.ins C dx fs) → fs.map Prod.fst = ([Str.ofString "rows", Str.ofString "known"] : List Str) → Rps K N (fs.map Prod.snd) [rowsD (srtP (onceP ps)), .kn P w (srtP (onceP ps))] →
    (∀ a o, so ≠ some a → a ≠ x → H a = some o → H' a = some o) → (∀ a, H a ≠ none → a ≠ x → N a = F a) → SrcN so H' n → Q .non H'
section
variable {K : PySem.W.Frag} {W : WX'} {te ta : TE} {pe : PEx} {P : Program} {w : World} {C : Addr}
def pMakeQ (P : Program) (w : World) (C : Addr) (pe : PEx) : PEx := fun ρ n q x => pe ρ n (fun d n1 => ∃ ps, itemsD d = some (ps.map tupD) ∧ (∀ p ∈ ps, factX (tupD p) = true) ∧ ps.length < 64 ∧ q (storeD P w C (srtP (onceP ps))) n1) x
theorem makeQ_step {so : Option Addr} {N H1 : Hp} {n : Nat} {v : V} {dv : D} {ps : List (List Str)} {Q : VK} {E : XK} {q : D → Nat → Prop} (sub : Sub N H1) (src : SrcN so H1 n) (nsr : ∀ sa, so = some sa → N sa = none) (rv : Rp K N v dv) (hv : itemsD dv = some (ps.map tupD)) (hf : ∀ p ∈ ps, factX (tupD p) = true) (hl : ps.length < 64) (hq : q (storeD P w C (srtP (onceP ps))) n)
    (k : ∀ v d M H' n', Step so N H1 M H' → SrcN so H' n' → Rp K M v d → q d n' → Q v H') (x dx : Addr) (hx : H1 x = none) (hd : H1 dx = none) (hne : dx ≠ x) :
    spInitQ K P w C [.ref x, v] (upd (upd H1 dx (.own x)) x (.ins C dx [])) (fun v H2 => v = .non ∧ Q (.ref x) H2) E := by
  have Nx := sub.nil hx
  have Nd := sub.nil hd
  have sx := src.ne hx
  have sd := src.ne hd
  refine ⟨x, dx, v, so, N, n, dv, ps, rfl, upd_same, Nx, sx, (sub.beside Nd).beside Nx, (src.beside sd).beside sx, nsr, rv, hv, hf, hl, fun M H' fs ex sb Mx hH hk hr keep new sr => ⟨rfl, ?_⟩⟩
  have live : ∀ a, H1 a ≠ none → a ≠ x ∧ a ≠ dx := fun a ha => ⟨fun z => ha (by rw [z]; exact hx), fun z => ha (by rw [z]; exact hd)⟩
  refine k (.ref x) (storeD P w C (srtP (onceP ps))) (upd M x (.ins C dx fs)) H' n ⟨fun b o hb => ?_, ex.trans (Ex.new Mx), fun a o ha h => ?_, fun a ha => ?_⟩ sr (.obj upd_same hk (hr.mono (Ex.new Mx))) hq
  · by_cases z : b = x
    · subst z
      rw [upd_same] at hb
      exact .inl (by rw [← hb]; exact hH)
    · rw [upd_ne z] at hb
      exact sb b o hb
  · obtain ⟨h1, h2⟩ := live a (by rw [h]; simp)
    exact keep a o ha h1 (by rw [upd_ne h1, upd_ne h2]; exact h)
  · obtain ⟨h1, h2⟩ := live a ha
    rw [upd_ne h1]
    exact new a (by rw [upd_ne h1, upd_ne h2]; exact ha) h1
theorem se_makeQ {E : XK} (h : SimE K W te pe) : SimE K W (tMake C (spInitQ K P w C) [] E (tCons te tNil)) (pMakeQ P w C pe) := fun so F H σ ρ n q x Q e p xo k =>
  h so F H σ ρ n _ x _ e p xo fun v d N H1 n1 s1 c1 r1 ⟨ps, ed, hf, hl, p1⟩ x dx hx hd hne =>
    makeQ_step s1.sub c1 (e.step s1 c1).nsr r1 ed hf hl p1 (fun v d M H' n' s c r z => k v d M H' n' (s1.trans s e.src c1) c r z) x dx hx hd hne
/-- Store() -/
def pMake0 (P : Program) (w : World) (C : Addr) : PEx := fun ρ n q x => q (storeD P w C []) n
theorem srt_nil : srtP (onceP ([] : List (List Str))) = [] := by simp [srtP, onceP]
theorem se_make0 {E : XK} {e0 : Addr} (hw : WrT K e0 []) : SimE K W (tMake C (spInitQ K P w C) [.ref e0] E tNil) (pMake0 P w C) := fun so F H σ ρ n q x Q e p xo k x dx hx hd hne =>
  makeQ_step (ps := []) e.sub e.src e.nsr (.wtup hw .nil) rfl (fun _ z => by cases z) (by decide) (by rw [srt_nil]; exact p) (fun v d M H' n' s c r z => k v d M H' n' s c r z) x dx hx hd hne
end
end G39

/-! lots and maps, plain -/
namespace G39
open PySem PySem.Spec PyProof.Rows L2 Evl
theorem colC_of {α : Type} {n : Nat} {f : D → Nat → (List D → Nat → Prop) → Prop} {v : α → D} {g : α → List D} : ∀ {l : List α} {q : List D → Nat → Prop}, (∀ a ∈ l, ∀ k : List D → Nat → Prop, k (g a) n → f (v a) n k) → q (l.flatMap g) n → colC f (l.map v) n q
  | [], q, _, hq => hq
  | a :: l, q, h, hq => by
    rw [List.map_cons]
    unfold colC
    refine h a (List.mem_cons_self ..) _ ?_
    refine colC_of (l := l) (fun b hb => h b (List.mem_cons_of_mem _ hb)) ?_
    rw [List.flatMap_cons] at hq
    exact hq
def termsS (ps : List (List Str)) : List Str := ps.flatMap fun p => p.drop 1
def varsS (ps : List (List Str)) : List Str := srtS (onceP ((termsS ps).filter varS))
structure LotOk (ps : List (List Str)) : Prop where
  len : ps.length ≤ 100
  good : ∀ p ∈ ps, GoodP p
  few : (onceP ((termsS ps).filter varS)).length < 64
theorem terms_len {ps : List (List Str)} (h : ∀ p ∈ ps, GoodP p) : (termsS ps).length ≤ 3 * ps.length := by
  induction ps with
  | nil => simp [termsS]
  | cons p ps ih =>
    have h1 := ih fun q hq => h q (List.mem_cons_of_mem _ hq)
    have h2 := (good_pb (h p (List.mem_cons_self ..))).1.2.1
    simp only [termsS, List.flatMap_cons, List.length_append, List.length_drop, List.length_cons] at h1 ⊢
    omega
theorem once_le {α : Type} [DecidableEq α] (l : List α) : (onceP l).length ≤ l.length := nodup_sub (once_nodup l) fun x hx => mem_once.mp hx
theorem lot_small {ps : List (List Str)} (hl : ps.length ≤ 20) (h : ∀ p ∈ ps, GoodP p) : LotOk ps := by
  refine ⟨by omega, h, ?_⟩
  have h1 := once_le ((termsS ps).filter varS)
  have h2 := List.length_filter_le varS (termsS ps)
  have h3 := terms_len h
  omega
theorem mem_terms {ps : List (List Str)} {z : Str} : z ∈ termsS ps ↔ ∃ p ∈ ps, z ∈ p.drop 1 := by
  simp [termsS]
theorem terms_term {ps : List (List Str)} (h : ∀ p ∈ ps, GoodP p) {z : Str} (hz : z ∈ termsS ps) : TermS z := by
  obtain ⟨p, hp, hz⟩ := mem_terms.mp hz
  exact (good_pb (h p hp)).2 z (List.mem_of_mem_drop hz)
theorem mem_vars {ps : List (List Str)} {z : Str} : z ∈ varsS ps ↔ z ∈ termsS ps ∧ varS z = true := by
  unfold varsS
  rw [(srtS_perm _).mem_iff, mem_once, List.mem_filter]
theorem vars_nodup (ps : List (List Str)) : (varsS ps).Nodup := (srtS_perm _).nodup_iff.mpr (once_nodup _)
/-- a map as data -/
def dicE (p : Str × Str) : Key × D := (.inr p.1, .str p.2)
def dicS (kv : List (Str × Str)) : D := .dic (kv.map dicE)
def getS (kv : List (Str × Str)) (t : Str) : Option Str := (kv.find? fun p => decide (p.1 = t)).map (·.2)
def fillT (kv : List (Str × Str)) (z : Str) : Str := (getS kv z).getD z
def fillP (kv : List (Str × Str)) : List Str → List Str
  | [] => []
  | t :: r => t :: r.map (fillT kv)
theorem val_dicS (t : Str) : ∀ kv : List (Str × Str), valD (kv.map dicE) (.inr t) = (getS kv t).map D.str
  | [] => rfl
  | p :: kv => by
    have ih := val_dicS t kv
    unfold valD getS at ih ⊢
    rw [List.map_cons, List.find?_cons, List.find?_cons]
    by_cases e : p.1 = t
    · have : decide ((dicE p).1 = (Sum.inr t : Key)) = true := by simp [dicE, e]
      rw [this, decide_eq_true e]
      rfl
    · have : decide ((dicE p).1 = (Sum.inr t : Key)) = false := by simp [dicE, e]
      rw [this, decide_eq_false e]
      exact ih
theorem get_fill (kv : List (Str × Str)) (t : Str) : (valD (kv.map dicE) (.inr t)).getD (.str t) = .str (fillT kv t) := by
  rw [val_dicS]
  unfold fillT
  cases getS kv t <;> rfl
def putS (kv : List (Str × Str)) (t z : Str) : List (Str × Str) := if (kv.any fun p => decide (p.1 = t)) = true then kv.map (fun p => if p.1 = t then (p.1, z) else p) else kv ++ [(t, z)]
theorem put_dicS (kv : List (Str × Str)) (t z : Str) : putD (kv.map dicE) (.inr t) (.str z) = (putS kv t z).map dicE := by
  unfold putD putS
  have e : ((kv.map dicE).any fun kv => decide (kv.1 = (Sum.inr t : Key))) = kv.any fun p => decide (p.1 = t) := by
    rw [List.any_map]
    congr 1
    funext p
    simp [dicE]
  rw [e]
  split
  · rw [List.map_map, List.map_map]
    refine List.map_congr_left fun p _ => ?_
    by_cases e : p.1 = t
    · simp [dicE, e]
    · simp [dicE, e]
  · simp [dicE]
theorem put_new {kv : List (Str × Str)} {t z : Str} (h : t ∉ kv.map Prod.fst) : putS kv t z = kv ++ [(t, z)] := by
  unfold putS
  rw [if_neg]
  intro e
  obtain ⟨p, hp, e⟩ := List.any_eq_true.mp e
  exact h (List.mem_map.mpr ⟨p, hp, by simpa using e⟩)
theorem keys_dicS (kv : List (Str × Str)) : (kv.map dicE).map (fun q => keyD q.1) = (kv.map Prod.fst).map D.str := by
  rw [List.map_map, List.map_map]
  rfl
def psTerms : PSp := A1 fun d n q _ => ∃ ps : List (List Str), itemsD d = some (ps.map tupD) ∧ LotOk ps ∧ q (.lst ((termsS ps).map .str)) n
def psVars : PSp := A1 fun d n q _ => ∃ ps : List (List Str), itemsD d = some (ps.map tupD) ∧ LotOk ps ∧ q (.lst ((varsS ps).map .str)) n
def psFilled : PSp := A2 fun a b n q _ => ∃ (p : List Str) (kv : List (Str × Str)), a = tupD p ∧ b = dicS kv ∧ 1 ≤ p.length ∧ p.length ≤ 4 ∧ q (tupD (fillP kv p)) n
def psFilledLot : PSp := A2 fun a b n q _ => ∃ (ps : List (List Str)) (kv : List (Str × Str)), itemsD a = some (ps.map tupD) ∧ b = dicS kv ∧ ps.length ≤ 1000 ∧ (∀ p ∈ ps, 1 ≤ p.length ∧ p.length ≤ 4) ∧ q (.lst ((ps.map (fillP kv)).map tupD)) n
theorem terms_go {ps : List (List Str)} {d : D} {n : Nat} {q : D → Nat → Prop} {x : PX} (hd : itemsD d = some (ps.map tupD)) (h : LotOk ps) (k : q (.lst ((termsS ps).map .str)) n) : psTerms [.val d] n q x := ⟨ps, hd, h, k⟩
theorem vars_go {ps : List (List Str)} {d : D} {n : Nat} {q : D → Nat → Prop} {x : PX} (hd : itemsD d = some (ps.map tupD)) (h : LotOk ps) (k : q (.lst ((varsS ps).map .str)) n) : psVars [.val d] n q x := ⟨ps, hd, h, k⟩
theorem filled_go {p : List Str} {kv : List (Str × Str)} {n : Nat} {q : D → Nat → Prop} {x : PX} (h1 : 1 ≤ p.length) (h2 : p.length ≤ 4) (k : q (tupD (fillP kv p)) n) : psFilled [.val (tupD p), .val (dicS kv)] n q x := ⟨p, kv, rfl, rfl, h1, h2, k⟩
theorem filledLot_go {ps : List (List Str)} {d : D} {kv : List (Str × Str)} {n : Nat} {q : D → Nat → Prop} {x : PX} (hd : itemsD d = some (ps.map tupD)) (hl : ps.length ≤ 1000) (h : ∀ p ∈ ps, 1 ≤ p.length ∧ p.length ≤ 4) (k : q (.lst ((ps.map (fillP kv)).map tupD)) n) : psFilledLot [.val d, .val (dicS kv)] n q x := ⟨ps, kv, hd, rfl, hl, h, k⟩
end G39

/-! loops over a list; new names -/
namespace G39
open PySem PySem.Spec PyProof.Rows L2 Evl
theorem take_split {α : Type} {l : List α} {i : Nat} {a : α} (h : l[i]? = some a) : l = l.take i ++ a :: l.drop (i + 1) ∧ l.take (i + 1) = l.take i ++ [a] := by
  have lt : i < l.length := by
    rcases Nat.lt_or_ge i l.length with z | z
    · exact z
    · rw [List.getElem?_eq_none z] at h
      cases h
  have e : l[i] = a := by
    rw [List.getElem?_eq_getElem lt] at h
    exact Option.some.inj h
  constructor
  · rw [← e, ← List.drop_eq_getElem_cons lt, List.take_append_drop]
  · rw [List.take_add_one, h]
    rfl
theorem loopP_list {α : Type} {v : α → D} {pg : PGx} {pb : PSt} {E : PEnds} (J : List α → List PV → Nat → Prop) {l : List α} {ρ : List PV} {n : Nat} (h0 : J [] ρ n)
    (step : ∀ a done rest ρ n k, l = done ++ a :: rest → J done ρ n → (∀ ρ' n', J (done ++ [a]) ρ' n' → k ρ' n') → pg (v a) ρ fun ρ' => pb { E with nx := k, ct := k, bk := E.nx } ρ' n)
    (fin : ∀ ρ n, J l ρ n → E.nx ρ n) : loopP pg pb E (l.map v) ρ n := by
  refine loopP_inv (fun i => J (l.take i)) (by simpa using h0) (fun i d ρ n k hd hj hk => ?_) (fun ρ n h => fin ρ n ?_)
  · rw [List.getElem?_map] at hd
    obtain ⟨a, ha, rfl⟩ := Option.map_eq_some_iff.mp hd
    obtain ⟨e1, e2⟩ := take_split ha
    exact step a _ _ ρ n k e1 hj fun ρ' n' h => hk ρ' n' (by rw [e2]; exact h)
  · rw [List.length_map, List.take_length] at h
    exact h
theorem colP_list {α : Type} {v : α → D} {f : D → Nat → (Option D → Nat → Prop) → Prop} (J : List α → List D → Nat → Prop) {l : List α} {n : Nat} {q : List D → Nat → Prop} (h0 : J [] [] n)
    (step : ∀ a done rest acc n k, l = done ++ a :: rest → J done acc n → (∀ o n', J (done ++ [a]) (acc ++ Option.toList o) n' → k o n') → f (v a) n k)
    (fin : ∀ acc n, J l acc n → q acc n) : colP f (l.map v) n q := by
  refine colP_inv (fun i => J (l.take i)) (by simpa using h0) (fun i d acc n k hd hj hk => ?_) (fun ρ n h => fin ρ n ?_)
  · rw [List.getElem?_map] at hd
    obtain ⟨a, ha, rfl⟩ := Option.map_eq_some_iff.mp hd
    obtain ⟨e1, e2⟩ := take_split ha
    exact step a _ _ acc n k e1 hj fun o n' h => hk o n' (by rw [e2]; exact h)
  · rw [List.length_map, List.take_length] at h
    exact h
theorem once_snoc {α : Type} [DecidableEq α] (l : List α) (z : α) : onceP (l ++ [z]) = if z ∈ onceP l then onceP l else onceP l ++ [z] := by
  unfold onceP
  rw [List.foldl_append]
  rfl
/-! new names -/
theorem ofString_inj {a b : String} (h : Str.ofString a = Str.ofString b) : a = b := by
  rw [Str.ofString_eq_toList, Str.ofString_eq_toList] at h
  injection h with h
  have h2 : a.toList.map Char.toNat = b.toList.map Char.toNat := by
    have := congrArg Array.toList h
    simpa using this
  have h3 : a.toList = b.toList := (List.map_inj_right fun x y e => Char.ext (UInt32.toNat_inj.mp e)).mp h2
  exact String.toList_inj.mp h3
theorem cps_append (a b : Str) : (a ++ b).cps.toList = a.cps.toList ++ b.cps.toList := by
  show (a.cps ++ b.cps).toList = _
  simp
theorem str_inj {a b : Str} (h : a.cps.toList = b.cps.toList) : a = b := by
  obtain ⟨a⟩ := a
  obtain ⟨b⟩ := b
  exact congrArg Str.mk (Array.toList_inj.mp h)
def newN (k : Nat) : Str := Str.ofString "new" ++ (toString (k : Int) : Str)
theorem newN_inj {a b : Nat} (h : newN a = newN b) : a = b := by
  unfold newN at h
  have h1 := congrArg (fun z : Str => z.cps.toList) h
  simp only [cps_append] at h1
  have h2 := List.append_cancel_left h1
  have h3 : Str.ofString (toString (a : Int)) = Str.ofString (toString (b : Int)) := str_inj h2
  have h4 : Int.repr (a : Int) = Int.repr (b : Int) := ofString_inj h3
  exact Int.ofNat_inj.mp (Int.repr_injective h4)
theorem newN_len {k : Nat} (h : k < 1000000) : (newN k).length ≤ 12 ∧ (toString (k : Int) : Str).length ≤ 9 := by
  have e : (toString (k : Int) : Str).length ≤ 7 := by
    show (Str.ofString (toString (k : Int))).cps.size ≤ 7
    rw [Str.ofString_eq_toList]
    have : (toString (k : Int)) = Nat.repr k := rfl
    rw [this]
    have h2 := (Nat.length_repr_le_iff (n := k) (k := 7) (by decide)).mpr (by omega)
    rw [Nat.repr_eq_ofList_toDigits] at h2 ⊢
    simpa using h2
  have e2 : (newN k).length = 3 + (toString (k : Int) : Str).length := by
    show (newN k).cps.size = 3 + (toString (k : Int) : Str).cps.size
    rw [← Array.length_toList, ← Array.length_toList]
    unfold newN
    rw [cps_append, List.length_append]
    rfl
  exact ⟨by omega, by omega⟩
def nextG (used : List Str) : Nat → Nat → Nat
  | 0, k => k
  | f + 1, k => if newN k ∈ used then nextG used f (k + 1) else k
def nextN (used : List Str) (k : Nat) : Nat := nextG used (used.length + 1) k
structure IsNext (used : List Str) (k m : Nat) : Prop where
  le : k ≤ m
  no : newN m ∉ used
  all : ∀ j, k ≤ j → j < m → newN j ∈ used
theorem news_nodup (k : Nat) : ∀ m, ((List.range' k m).map newN).Nodup := fun m => by
  exact List.Pairwise.map newN (fun a b h e => h (newN_inj e)) (List.nodup_range' (step := 1) (by decide))
theorem next_go (used : List Str) : ∀ (f k : Nat), (∃ m, m < k + f ∧ IsNext used k m) → IsNext used k (nextG used f k)
  | 0, k, ⟨m, h1, h2⟩ => by
    have := h2.le
    omega
  | f + 1, k, ⟨m, h1, h2⟩ => by
    unfold nextG
    split
    · rename_i hk
      have hne : k ≠ m := fun e => h2.no (e ▸ hk)
      have hle := h2.le
      have := next_go used f (k + 1) ⟨m, by omega, ⟨by omega, h2.no, fun j hj hm => h2.all j (by omega) hm⟩⟩
      refine ⟨by have := this.le; omega, this.no, fun j hj hm => ?_⟩
      rcases Nat.eq_or_lt_of_le hj with e | e
      · rw [← e]
        exact hk
      · exact this.all j e hm
    · rename_i hk
      exact ⟨Nat.le_refl _, hk, fun j hj hm => absurd hm (by omega)⟩
theorem next_ex (used : List Str) (k : Nat) : ∃ m, m < k + (used.length + 1) ∧ IsNext used k m := by
  have key : ∀ f k', (∀ j, k ≤ j → j < k' → newN j ∈ used) → k ≤ k' → k' + f = k + (used.length + 1) → ∃ m, m < k + (used.length + 1) ∧ IsNext used k m := by
    intro f
    induction f with
    | zero =>
      intro k' h hk e
      have hs : ∀ x ∈ (List.range' k (used.length + 1)).map newN, x ∈ used := fun x hx => by
        obtain ⟨j, hj, rfl⟩ := List.mem_map.mp hx
        rw [List.mem_range'_1] at hj
        exact h j hj.1 (by omega)
      have := nodup_len (news_nodup k (used.length + 1)) hs
      simp at this
      omega
    | succ f ih =>
      intro k' h hk e
      by_cases hn : newN k' ∈ used
      · refine ih (k' + 1) (fun j h1 h2 => ?_) (by omega) (by omega)
        rcases Nat.lt_or_ge j k' with z | z
        · exact h j h1 z
        · have : j = k' := by omega
          rw [this]
          exact hn
      · exact ⟨k', by omega, hk, hn, h⟩
  exact key (used.length + 1) k (fun j h1 h2 => absurd h2 (by omega)) (Nat.le_refl _) rfl
theorem next_is (used : List Str) (k : Nat) : IsNext used k (nextN used k) := next_go used _ k (next_ex used k)
theorem next_uniq {used used' : List Str} (h : ∀ z, z ∈ used ↔ z ∈ used') {k m m' : Nat} (h1 : IsNext used k m) (h2 : IsNext used' k m') : m = m' := by
  rcases Nat.lt_trichotomy m m' with z | z | z
  · exact absurd ((h _).mpr (h2.all m h1.le z)) h1.no
  · exact z
  · exact absurd ((h _).mp (h1.all m' h2.le z)) h2.no
theorem next_le (used : List Str) (k : Nat) : nextN used k ≤ k + used.length := by
  obtain ⟨m, h1, h2⟩ := next_ex used k
  have := next_uniq (fun z => Iff.rfl) h2 (next_is used k)
  omega
theorem next_congr {used used' : List Str} (h : ∀ z, z ∈ used ↔ z ∈ used') (k : Nat) : nextN used k = nextN used' k := next_uniq h (next_is used k) (next_is used' k)
/-- the new constants of variables -/
def givS (used : List Str) : List Str → Nat → List (Str × Str)
  | [], _ => []
  | v :: vs, k => (v, newN (nextN used (k + 1))) :: givS used vs (nextN used (k + 1))
theorem giv_congr {used used' : List Str} (h : ∀ z, z ∈ used ↔ z ∈ used') : ∀ (vs : List Str) (k : Nat), givS used vs k = givS used' vs k
  | [], _ => rfl
  | v :: vs, k => by
    unfold givS
    rw [next_congr h, giv_congr h vs]
def givN (used : List Str) : List Str → Nat → Nat
  | [], k => k
  | _ :: vs, k => givN used vs (nextN used (k + 1))
theorem giv_snoc (used : List Str) (v : Str) : ∀ (vs : List Str) (k : Nat), givS used (vs ++ [v]) k = givS used vs k ++ [(v, newN (nextN used (givN used vs k + 1)))] ∧ givN used (vs ++ [v]) k = nextN used (givN used vs k + 1)
  | [], k => ⟨rfl, rfl⟩
  | u :: vs, k => by
    obtain ⟨h1, h2⟩ := giv_snoc used v vs (nextN used (k + 1))
    exact ⟨congrArg (List.cons _) h1, h2⟩
theorem giv_keys (used : List Str) : ∀ (vs : List Str) (k : Nat), (givS used vs k).map Prod.fst = vs
  | [], _ => rfl
  | v :: vs, k => congrArg (List.cons v) (giv_keys used vs _)
theorem givN_le (used : List Str) : ∀ (vs : List Str) (k : Nat), givN used vs k ≤ k + vs.length * (used.length + 1)
  | [], k => by simp [givN]
  | v :: vs, k => by
    have h1 := givN_le used vs (nextN used (k + 1))
    have h2 := next_le used (k + 1)
    unfold givN
    rw [List.length_cons, Nat.succ_mul]
    omega
/-- the open sign -/
theorem open_iff {z : Str} (h : TermS z) : decide (cutS z none (some 1) = Str.ofString "?") = varS z := by
  cases hv : varS z with
  | true =>
    refine decide_eq_true (str_inj ?_)
    rw [cut_head]
    unfold varS at hv
    cases hz : z.cps.toList with
    | nil =>
      rw [hz] at hv
      cases hv
    | cons c r =>
      rw [hz] at hv
      simp only [varC, Bool.and_eq_true, decide_eq_true_eq] at hv
      rw [hv.1]
      rfl
  | false =>
    refine decide_eq_false fun e => ?_
    rcases h with h | h
    · rw [name_not_open e] at h
      cases h
    · rw [hv] at h
      cases h
end G39

/-! promises on lots; == of equal data -/
namespace G39
open PySem PySem.Spec PyProof.Rows L2 Evl
theorem dig_sgn : ∀ c : Nat, 48 ≤ c → c ≤ 57 → isSgn c = true := by
  intro c h1 h2
  have : c = 48 ∨ c = 49 ∨ c = 50 ∨ c = 51 ∨ c = 52 ∨ c = 53 ∨ c = 54 ∨ c = 55 ∨ c = 56 ∨ c = 57 := by omega
  rcases this with rfl | rfl | rfl | rfl | rfl | rfl | rfl | rfl | rfl | rfl <;> decide +kernel
theorem newN_name {k : Nat} (h : k < 1000000) : nameS (newN k) = true := by
  have e : (newN k).cps.toList = 110 :: 101 :: 119 :: (Str.ofString (toString (k : Int))).cps.toList := by
    unfold newN
    rw [cps_append]
    rfl
  have hl := (newN_len h).2
  have hl : (Str.ofString (toString (k : Int))).cps.toList.length ≤ 9 := by
    rw [Array.length_toList]
    exact hl
  have hd : ∀ c ∈ (Str.ofString (toString (k : Int))).cps.toList, isSgn c = true := fun c hc => by
    rw [Str.ofString_eq_toList] at hc
    have e3 : (toString (k : Int)) = Nat.repr k := rfl
    rw [e3] at hc
    simp only [List.mem_map] at hc
    obtain ⟨d, hd, rfl⟩ := hc
    rw [Nat.toList_repr] at hd
    have h3 := Nat.isDigit_of_mem_toDigits (by decide) (by decide) hd
    simp only [Char.isDigit, Bool.and_eq_true, decide_eq_true_eq] at h3
    exact dig_sgn _ h3.1 h3.2
  unfold nameS
  rw [e]
  unfold nameC
  simp only [Bool.and_eq_true, decide_eq_true_eq, List.all_cons, List.length_cons]
  refine ⟨by omega, by decide +kernel, by decide +kernel, by decide +kernel, by decide +kernel, List.all_eq_true.mpr hd⟩
def psLot : PSp := S3 fun a b c n q _ => ∃ (rs : List (Str × Nat)) (cs xs vs : List Str) (m : Nat), a = poolD rs cs xs ∧ b = .lst (vs.map .str) ∧ c = .int (m : Int) ∧ PoolW rs cs xs ∧ vs.length ≤ 1000 ∧ (∀ z ∈ vs, TermS z) ∧ m ≤ 40 ∧ n ≤ 500000 ∧
  ∀ (ps : List (List Str)) (n' : Nat), ps.length ≤ m → (∀ p ∈ ps, GoodP p ∧ ∀ z ∈ p.drop 1, z ∈ cs ∨ z ∈ vs) → n' ≤ n + 1 + 20 * m → q (.lst (ps.map tupD)) n'
theorem lot_go {rs : List (Str × Nat)} {cs xs vs : List Str} {m n : Nat} {q : D → Nat → Prop} {x : PX} (ok : PoolW rs cs xs) (hv : vs.length ≤ 1000) (ht : ∀ z ∈ vs, TermS z) (hm : m ≤ 40) (hn : n ≤ 500000)
    (k : ∀ (ps : List (List Str)) (n' : Nat), ps.length ≤ m → (∀ p ∈ ps, GoodP p ∧ ∀ z ∈ p.drop 1, z ∈ cs ∨ z ∈ vs) → n' ≤ n + 1 + 20 * m → q (.lst (ps.map tupD)) n') : psLot [.src, .val (poolD rs cs xs), .val (.lst (vs.map .str)), .val (.int (m : Int))] n q x := ⟨rs, cs, xs, vs, m, rfl, rfl, rfl, ok, hv, ht, hm, hn, k⟩
def psVarsL : PSp := A1 fun d n q _ => ∃ ps : List (List Str), d = .lst (ps.map tupD) ∧ LotOk ps ∧ q (.lst ((varsS ps).map .str)) n
theorem varsL_go {ps : List (List Str)} {n : Nat} {q : D → Nat → Prop} {x : PX} (h : LotOk ps) (k : q (.lst ((varsS ps).map .str)) n) : psVarsL [.val (.lst (ps.map tupD))] n q x := ⟨ps, rfl, h, k⟩
def psGiven : PSp := A2 fun a b n q _ => ∃ (ps : List (List Str)) (tk : List Str), a = .lst (ps.map tupD) ∧ b = .lst (tk.map .str) ∧ ps.length ≤ 20 ∧ (∀ p ∈ ps, GoodP p) ∧ tk.length ≤ 100 ∧ q (dicS (givS (termsS ps ++ tk) (varsS ps) 0)) n
theorem given_go {ps : List (List Str)} {tk : List Str} {n : Nat} {q : D → Nat → Prop} {x : PX} (h1 : ps.length ≤ 20) (h2 : ∀ p ∈ ps, GoodP p) (h3 : tk.length ≤ 100) (k : q (dicS (givS (termsS ps ++ tk) (varsS ps) 0)) n) : psGiven [.val (.lst (ps.map tupD)), .val (.lst (tk.map .str))] n q x := ⟨ps, tk, rfl, rfl, h1, h2, h3, k⟩
def psStoreOf (P : Program) (w : World) (C : Addr) : PSp := A2 fun a b n q _ => ∃ (ps : List (List Str)) (tk : List Str), itemsD a = some (ps.map tupD) ∧ itemsD b = some (tk.map .str) ∧ ps.length ≤ 20 ∧ (∀ p ∈ ps, GoodP p) ∧ tk.length ≤ 100 ∧
  q (.tup [storeD P w C (srtP (onceP (ps.map (fillP (givS (termsS ps ++ tk) (varsS ps) 0))))), dicS (givS (termsS ps ++ tk) (varsS ps) 0)]) n
theorem storeOf_go {P : Program} {w : World} {C : Addr} {ps : List (List Str)} {tk : List Str} {a b : D} {n : Nat} {q : D → Nat → Prop} {x : PX} (ha : itemsD a = some (ps.map tupD)) (hb : itemsD b = some (tk.map .str)) (h1 : ps.length ≤ 20) (h2 : ∀ p ∈ ps, GoodP p) (h3 : tk.length ≤ 100)
    (k : q (.tup [storeD P w C (srtP (onceP (ps.map (fillP (givS (termsS ps ++ tk) (varsS ps) 0))))), dicS (givS (termsS ps ++ tk) (varsS ps) 0)]) n) : psStoreOf P w C [.val a, .val b] n q x := ⟨ps, tk, ha, hb, h1, h2, h3, k⟩
/-- the places of new names are small -/
theorem giv_small {used vs : List Str} (h1 : used.length ≤ 400) (h2 : vs.length ≤ 400) : givN used vs 0 ≤ 160400 := by
  have := givN_le used vs 0
  have h3 : vs.length * (used.length + 1) ≤ 400 * 401 := Nat.mul_le_mul h2 (by omega)
  omega
theorem giv_names {used : List Str} : ∀ {vs : List Str} {k : Nat}, givN used vs k < 1000000 → ∀ p ∈ givS used vs k, nameS p.2 = true
  | [], k, _, p, hp => by cases hp
  | v :: vs, k, h, p, hp => by
    unfold givS at hp
    unfold givN at h
    have mono : ∀ (vs : List Str) (k : Nat), k ≤ givN used vs k := by
      intro vs
      induction vs with
      | nil => intro k; exact Nat.le_refl _
      | cons v vs ih =>
        intro k
        unfold givN
        have := (next_is used (k + 1)).le
        have := ih (nextN used (k + 1))
        omega
    rcases List.mem_cons.mp hp with rfl | hp
    · exact newN_name (Nat.lt_of_le_of_lt (mono vs _) h)
    · exact giv_names h p hp
theorem getS_mem {kv : List (Str × Str)} {t z : Str} (h : getS kv t = some z) : (t, z) ∈ kv := by
  unfold getS at h
  obtain ⟨p, hp, rfl⟩ := Option.map_eq_some_iff.mp h
  have h1 := List.mem_of_find?_eq_some hp
  have h2 := List.find?_some hp
  have : p.1 = t := by simpa using h2
  rw [← this]
  exact h1
theorem getS_some {kv : List (Str × Str)} {t : Str} (h : t ∈ kv.map Prod.fst) : ∃ z, getS kv t = some z := by
  unfold getS
  cases e : kv.find? fun p => decide (p.1 = t) with
  | some p => exact ⟨p.2, rfl⟩
  | none =>
    obtain ⟨p, hp, rfl⟩ := List.mem_map.mp h
    have := List.find?_eq_none.mp e p hp
    simp at this
theorem fill_fact {kv : List (Str × Str)} {p : List Str} (hp : GoodP p) (hn : ∀ q ∈ kv, nameS q.2 = true) (hk : ∀ z ∈ p.drop 1, varS z = true → z ∈ kv.map Prod.fst) : factX (tupD (fillP kv p)) = true := by
  obtain ⟨t, r, rfl, h1, h2, h3⟩ := good_parts hp
  refine fact_mk h2 (by rw [List.length_map]; exact h1) fun z hz => ?_
  obtain ⟨y, hy, rfl⟩ := List.mem_map.mp hz
  unfold fillT
  cases e : getS kv y with
  | some z => exact hn _ (getS_mem e)
  | none =>
    rcases h3 y hy with hv | hv
    · exact hv
    · obtain ⟨z, hz⟩ := getS_some (hk y (by simpa using hy) hv)
      rw [hz] at e
      cases e
/-- two maps that are one -/
theorem eqDic_same {kv : List (Str × Str)} (nd : (kv.map Prod.fst).Nodup) : eqDic (kv.map dicE) (kv.map dicE) = true := by
  have nd' : ((kv.map dicE).map Prod.fst).Nodup := by
    rw [List.map_map]
    have : (Prod.fst ∘ dicE) = (Sum.inr : Str → Key) ∘ Prod.fst := rfl
    rw [this, ← List.map_map]
    exact List.Pairwise.map _ (fun a b h e => h (Sum.inr.inj e)) nd
  unfold eqDic
  simp only [Bool.and_eq_true, List.all_eq_true, beq_self_eq_true, true_and]
  intro p hp
  rw [valD_mem nd' hp]
  obtain ⟨y, hy, rfl⟩ := List.mem_map.mp hp
  exact eqV_self (u := .str y.2) rfl
theorem cmp_dicS {cO : D → D → Bool → Prop} {n : Nat} {kv : List (Str × Str)} (nd : (kv.map Prod.fst).Nodup) : CmpD cO (n + 1) (dicS kv) (dicS kv) true := by
  have h := @CmpD.dic cO n (kv.map dicE) (kv.map dicE) ?_ ?_ ?_
  · rw [eqDic_same nd] at h
    exact h
  · intro p hp
    obtain ⟨y, hy, rfl⟩ := List.mem_map.mp hp
    rfl
  · intro p hp
    obtain ⟨y, hy, rfl⟩ := List.mem_map.mp hp
    rfl
  · rw [List.map_map]
    have : (Prod.fst ∘ dicE) = (Sum.inr : Str → Key) ∘ Prod.fst := rfl
    rw [this, ← List.map_map]
    exact List.Pairwise.map _ (fun a b h e => h (Sum.inr.inj e)) nd
theorem cmp_strs {cO : D → D → Bool → Prop} {n : Nat} {l m : List Str} (h1 : ∀ z ∈ l, SOk z) (h2 : ∀ z ∈ m, SOk z) : CmpD cO n (.lst (l.map .str)) (.lst (m.map .str)) (decide (l = m)) := by
  obtain ⟨p1, p2⟩ := pl_strs' h1
  obtain ⟨p3, p4⟩ := pl_strs' h2
  have pa : plD (.lst (l.map .str)) = true := by simpa [plD] using p1
  have pb : plD (.lst (m.map .str)) = true := by simpa [plD] using p3
  obtain ⟨d, e1, _⟩ := pl_py _ pa
  obtain ⟨e, e2, _⟩ := pl_py _ pb
  have := @CmpD.pl cO n _ _ d e e1 e2 (pl_shaped e1 pa (by simp [dpD, p2])) (pl_shaped e2 pb (by simp [dpD, p4]))
  rw [pl_eqv _ _ d e pa pb e1 e2] at this
  have hd : decide (D.lst (l.map .str) = D.lst (m.map .str)) = decide (l = m) := by
    refine decide_eq_decide.mpr ⟨fun h => ?_, fun h => by rw [h]⟩
    injection h with h
    exact (List.map_inj_right fun a b e => by injection e).mp h
  rw [hd] at this
  exact this
theorem eqX_go {cO : D → D → Bool → Prop} {neg : Bool} {a b : D} {r : Bool} {n : Nat} {q : D → Nat → Prop} {x : PX} (k : Nat) (hk : k ≤ 9) (h : CmpD cO k a b r) (hq : q (.bl (xor neg r)) n) : gEqX cO neg a b n q x := ⟨k, r, hk, h, hq⟩
end G39

/-! stores within data -/
namespace G39
open PySem PySem.Spec PyProof.Rows L2 Evl
theorem if_no {c : Bool} {A B : Prop} (h : c = false) (k : B) : if c = true then A else B := by
  rw [h, if_neg Bool.false_ne_true]
  exact k
theorem if_yes {c : Bool} {A B : Prop} (h : c = true) (k : A) : if c = true then A else B := by
  rw [h, if_pos rfl]
  exact k
theorem py_strs : ∀ p : List Str, toPys (p.map D.str) = some (p.map PyData.str)
  | [] => rfl
  | z :: p => by
    rw [List.map_cons]
    simp only [toPys, toPy, py_strs p]
    rfl
theorem py_tup (p : List Str) : toPy (tupD p) = some (.tuple (p.map PyData.str)) := by
  unfold tupD
  simp only [toPy, py_strs p]
  rfl
theorem py_tups : ∀ ps : List (List Str), toPys (ps.map tupD) = some (ps.map fun p => PyData.tuple (p.map PyData.str))
  | [] => rfl
  | p :: ps => by
    rw [List.map_cons]
    simp only [toPys, py_tup, py_tups ps]
    rfl
theorem py_inj {ps qs : List (List Str)} (h : (ps.map fun p => PyData.tuple (p.map PyData.str)) = qs.map fun p => PyData.tuple (p.map PyData.str)) : ps = qs := by
  refine (List.map_inj_right fun a b e => ?_).mp h
  injection e with e
  exact (List.map_inj_right fun a b e => by injection e).mp e
theorem store_same {K : PySem.W.Frag} {F : Hp} {P : Program} {w : World} {C : Addr} {v : V} {ps qs : List (List Str)} (ap : Apart K F) (h1 : Rp K F v (storeD P w C ps)) (h2 : Rp K F v (storeD P w C qs)) : ps = qs := by
  unfold storeD at h1 h2
  cases h1 with
  | obj h k t =>
    cases h2 with
    | obj h' k' t' =>
      rw [h] at h'
      cases h'
      rename_i fs
      clear k k' h
      generalize fs.map Prod.snd = us at t t'
      cases t with
      | cons r t =>
        cases t' with
        | cons r' t' =>
          have e1 : toPy (rowsD ps) = some (.tuple (ps.map fun p => PyData.tuple (p.map PyData.str))) := by
            unfold rowsD
            simp only [toPy, py_tups]
            rfl
          have e2 : toPy (rowsD qs) = some (.tuple (qs.map fun p => PyData.tuple (p.map PyData.str))) := by
            unfold rowsD
            simp only [toPy, py_tups]
            rfl
          have := Rp.one ap r r' e1 e2
          injection this with this
          exact py_inj this
/-- == of stores -/
def cOS (P : Program) (w : World) (C : Addr) : D → D → Bool → Prop := fun a b r => ∃ ps qs : List (List Str), a = storeD P w C ps ∧ b = storeD P w C qs ∧ (∀ p ∈ ps, factX (tupD p) = true) ∧ (∀ p ∈ qs, factX (tupD p) = true) ∧ r = decide (ps = qs)
theorem obEq_store {X : Cx} {k : Nat} {P : Program} {w : World} {C g : Addr} {nm : Str} (Ac : ClsA X.K X.mg nm C) (O : OwnEq X.K C g) (F : FnR X.prog X.w X.K X.mg X.base CX0 k g (lift X.K (psEqM P w C))) : ObEq X (k + 1) (cOS P w C) := by
  refine obEq_own Ac O F (fun d1 d2 r h => ?_) (fun F v d d' r ap h1 h2 h => ?_)
  · obtain ⟨ps, qs, rfl, rfl, hp, hq, rfl⟩ := h
    exact ⟨⟨_, rfl⟩, ⟨_, rfl⟩, ps, rfl, hp, .inr ⟨_, rfl⟩, .inl ⟨qs, rfl, hq, rfl⟩⟩
  · obtain ⟨ps, qs, rfl, rfl, hp, hq, rfl⟩ := h
    exact decide_eq_true (store_same ap h1 h2)
end G39

/-! kinds of ordered values: texts, tuples and lists of them; sorting of these -/
namespace G39
open PySem PySem.Spec PyProof.Rows L2
open PySem.SeqAt
/-- from the left -/
def ltL {κ : Type} [DecidableEq κ] (lt : κ → κ → Bool) : List κ → List κ → Bool
  | [], [] => false
  | [], _ :: _ => true
  | _ :: _, [] => false
  | a :: x, b :: y => if a = b then ltL lt x y else lt a b
theorem ltL_str : ∀ x y : List Str, ltL ltT x y = ltP x y
  | [], [] => rfl
  | [], _ :: _ => rfl
  | _ :: _, [] => rfl
  | a :: x, b :: y => by
    unfold ltL ltP
    rw [ltL_str x y]
/-- a total order -/
structure Tot' {κ : Type} (lt : κ → κ → Bool) : Prop where
  irr : ∀ a, lt a a = false
  asym : ∀ a b, lt a b = true → lt b a = false
  tri : ∀ a b, lt a b = false → lt b a = false → a = b
  trans : ∀ a b c, lt a b = true → lt b c = true → lt a c = true
theorem tot_T : Tot' ltT := ⟨ltT_irr, fun _ _ => ltT_asym, fun _ _ => ltT_tri, fun _ _ _ => ltT_trans⟩
theorem tot_L {κ : Type} [DecidableEq κ] {lt : κ → κ → Bool} (O : Tot' lt) : Tot' (ltL lt) := by
  refine ⟨fun x => ?_, fun x => ?_, fun x => ?_, fun x => ?_⟩
  · induction x with
    | nil => rfl
    | cons a x ih =>
      unfold ltL
      rw [if_pos rfl]
      exact ih
  · induction x with
    | nil =>
      intro y h
      cases y with
      | nil => cases h
      | cons b y => rfl
    | cons a x ih =>
      intro y h
      cases y with
      | nil => cases h
      | cons b y =>
        unfold ltL at h ⊢
        by_cases e : a = b
        · subst e
          rw [if_pos rfl] at h ⊢
          exact ih y h
        · rw [if_neg e] at h
          rw [if_neg (Ne.symm e)]
          exact O.asym _ _ h
  · induction x with
    | nil =>
      intro y h h'
      cases y with
      | nil => rfl
      | cons b y => cases h
    | cons a x ih =>
      intro y h h'
      cases y with
      | nil => cases h'
      | cons b y =>
        unfold ltL at h h'
        by_cases e : a = b
        · subst e
          rw [if_pos rfl] at h h'
          rw [ih y h h']
        · rw [if_neg e] at h
          rw [if_neg (Ne.symm e)] at h'
          exact absurd (O.tri _ _ h h') e
  · induction x with
    | nil =>
      intro y z h h'
      cases y with
      | nil => cases h
      | cons b y =>
        cases z with
        | nil => cases h'
        | cons c z => rfl
    | cons a x ih =>
      intro y z h h'
      cases y with
      | nil => cases h
      | cons b y =>
        cases z with
        | nil => cases h'
        | cons c z =>
          unfold ltL at h h' ⊢
          by_cases e : a = b
          · subst e
            rw [if_pos rfl] at h
            by_cases e' : a = c
            · subst e'
              rw [if_pos rfl] at h' ⊢
              exact ih y z h h'
            · rw [if_neg e'] at h' ⊢
              exact h'
          · rw [if_neg e] at h
            by_cases e' : b = c
            · subst e'
              rw [if_neg e]
              exact h
            · rw [if_neg e'] at h'
              have t := O.trans _ _ _ h h'
              by_cases e2 : a = c
              · subst e2
                rw [O.irr] at t
                cases t
              · rw [if_neg e2]
                exact t
theorem first_L {κ : Type} [DecidableEq κ] (lt : κ → κ → Bool) : ∀ (x y : List κ) (i : Nat) (e r : Nat → Bool), (∀ j (h1 : j < x.length) (h2 : j < y.length), e (i + j) = decide (x[j] = y[j]) ∧ (e (i + j) = false → r (i + j) = lt x[j] y[j])) → firstLt e r (decide (x.length < y.length)) (List.range' i (min x.length y.length)) = ltL lt x y
  | [], [], i, e, r, h => by simp [firstLt, ltL]
  | [], b :: y, i, e, r, h => by simp [firstLt, ltL]
  | a :: x, [], i, e, r, h => by simp [firstLt, ltL]
  | a :: x, b :: y, i, e, r, h => by
    have m : min (a :: x).length (b :: y).length = min x.length y.length + 1 := by
      simp only [List.length_cons]
      omega
    rw [m, List.range'_succ]
    obtain ⟨h1, h2⟩ := h 0 (by simp) (by simp)
    simp only [Nat.add_zero, List.getElem_cons_zero] at h1 h2
    have ih := first_L lt x y (i + 1) e r fun j k1 k2 => by
      have z := h (j + 1) (by simpa using k1) (by simpa using k2)
      rw [show i + (j + 1) = i + 1 + j by omega] at z
      simpa using z
    have d : decide ((a :: x).length < (b :: y).length) = decide (x.length < y.length) := by simp
    rw [d]
    unfold ltL
    by_cases c : a = b
    · rw [if_pos c, firstLt_yes (by rw [h1]; exact decide_eq_true c)]
      exact ih
    · have c1 : e i = false := by rw [h1]; exact decide_eq_false c
      rw [if_neg c, firstLt_no c1]
      exact h2 c1
/-- ordered values -/
structure CK (κ : Type) [DecidableEq κ] where
  is : Heap → κ → Value → Prop
  lt : κ → κ → Bool
  dep : Nat
  T : String
  ty : ∀ {s : Shared} {k : κ} {v : Value}, is s.heap k v → s.TypeIs v T
  mono : ∀ {h h' : Heap} {k : κ} {v : Value}, is h k v → (∀ b o, h.get? b = some o → h'.get? b = some o) → is h' k v
  look : ∀ {M : Model} {h : Heap} {k : κ} {v : Value}, is h k v → PySem.W.Looks M h (typeOf v) (.type T)
  inj : ∀ {h : Heap} {k k' : κ} {v : Value}, is h k v → is h k' v → k = k'
  eqAt : ∀ {A : Around} {s : Shared} {k k' : κ} {v u : Value}, A.units + dep < cLine → is s.heap k v → is s.heap k' u → EqAt A s v u (decide (k = k'))
  rcLt : ∀ {A : Around} {s : Shared} {k k' : κ} {v u : Value}, A.units + dep < cLine → is s.heap k v → is s.heap k' u → RcLt A s v u (lt k k')
  one : ∀ {P : Program} {w : World} {A : Around} {E : Value → Shared → Prop} {s : Shared} {k k' : κ} {v u : Value} {Q : Bool → Shared → Prop}, A.units + dep < cLine → is s.heap k v → is s.heap k' u → Q (lt k k') s → wpAny (model P w) A (oneLt' true v u) Q E s
def strC : CK Str where
  is _ k v := ∃ t, v = .str k t
  lt := ltT
  dep := 0
  T := "str"
  ty := by
    rintro s k v ⟨t, rfl⟩
    exact typeIs_str s k t
  mono h _ := h
  look := by
    rintro M h k v ⟨t, rfl⟩
    exact PySem.W.Looks.now
  inj := by
    rintro h k k' v ⟨t, rfl⟩ ⟨t', e⟩
    cases e
    rfl
  eqAt := by
    rintro A s k k' v u _ ⟨t, rfl⟩ ⟨t', rfl⟩
    have z := EqAt.str_str (A := A) (s := s) k t k' t'
    by_cases c : k = k'
    · rw [decide_eq_true c]
      rw [c] at z ⊢
      simpa using z
    · rw [decide_eq_false c]
      have e : (k == k') = false := by simpa using c
      rw [e] at z
      exact z
  rcLt := by
    rintro A s k k' v u _ ⟨t, rfl⟩ ⟨t', rfl⟩ P w E Q q
    exact (PyProof.Rows.lt_str q : wpAny (model P w) A (compareOp .Lt (.str k t) (.str k' t')) Q E s)
  one := by
    rintro P w A E s k k' v u Q _ ⟨t, rfl⟩ ⟨t', rfl⟩ q
    exact oneLt_str q
section
variable {κ : Type} [DecidableEq κ] (C : CK κ)
def SeqIs (T : String) (h : Heap) (ks : List κ) (v : Value) : Prop := ∃ a o items n, v = .ref a ∧ h.get? a = some o ∧ o.cls = .type T ∧ o.data = .seq items n ∧ All2 (C.is h) ks items.toList
variable {C}
theorem all2_one {h : Heap} : ∀ {x y : List κ} {vs : List Value}, All2 (C.is h) x vs → All2 (C.is h) y vs → x = y
  | _, _, _, .nil, .nil => rfl
  | _, _, _, .cons a b, .cons c d => by rw [C.inj a c, all2_one b d]
theorem SeqIs.one {T : String} {h : Heap} {x y : List κ} {v : Value} (hx : SeqIs C T h x v) (hy : SeqIs C T h y v) : x = y := by
  obtain ⟨a, o, items, n, rfl, h1, _, h2, h3⟩ := hx
  obtain ⟨_, o', items', n', e, h1', _, h2', h3'⟩ := hy
  cases e
  rw [h1] at h1'
  cases h1'
  rw [h2] at h2'
  cases h2'
  exact all2_one h3 h3'
theorem all2_get {α β : Type} {R : α → β → Prop} : ∀ {xs : List α} {ys : List β}, All2 R xs ys → ∀ (j : Nat) (h1 : j < xs.length) (h2 : j < ys.length), R xs[j] ys[j]
  | _, _, .nil, j, h1, _ => absurd h1 (by simp)
  | _, _, .cons h t, 0, _, _ => h
  | _, _, .cons h t, j + 1, h1, h2 => by simpa using all2_get t j (by simpa using h1) (by simpa using h2)
variable {A : Around} {s : Shared} {x y : List κ} {xs ys : Array Value}
theorem items_eq (hu : A.units + C.dep < cLine) (hx : All2 (C.is s.heap) x xs.toList) (hy : All2 (C.is s.heap) y ys.toList) :
    ∀ j (h1 : j < xs.size) (h2 : j < ys.size), EqAt A s xs[j] ys[j] (decide (x[j]? = y[j]?)) := fun j h1 h2 => by
  have l1 : x.length = xs.size := by rw [hx.len]; simp
  have l2 : y.length = ys.size := by rw [hy.len]; simp
  have z := C.eqAt hu (all2_get hx j (by omega) (by simpa using h1)) (all2_get hy j (by omega) (by simpa using h2))
  rw [Array.getElem_toList, Array.getElem_toList] at z
  have e : decide (x[j]? = y[j]?) = decide (x[j]'(by omega) = y[j]'(by omega)) := by
    rw [List.getElem?_eq_getElem (show j < x.length by omega), List.getElem?_eq_getElem (show j < y.length by omega)]
    simp
  rw [e]
  exact z
theorem eq_all (hx : All2 (C.is s.heap) x xs.toList) (hy : All2 (C.is s.heap) y ys.toList) : ((List.range (min xs.size ys.size)).all (fun j => decide (x[j]? = y[j]?)) && xs.size == ys.size) = decide (x = y) := by
  have l1 : x.length = xs.size := by rw [hx.len]; simp
  have l2 : y.length = ys.size := by rw [hy.len]; simp
  rw [← l1, ← l2]
  by_cases c : x = y
  · subst c
    simp
  · rw [decide_eq_false c, Bool.and_eq_false_iff]
    by_cases d : x.length = y.length
    · left
      cases h : (List.range (min x.length y.length)).all (fun j => decide (x[j]? = y[j]?)) with
      | false => rfl
      | true =>
        refine absurd (List.ext_getElem? fun j => ?_) c
        rcases Nat.lt_or_ge j x.length with z | z
        · have := List.all_eq_true.mp h j (List.mem_range.mpr (by omega))
          simpa using this
        · rw [List.getElem?_eq_none z, List.getElem?_eq_none (by omega)]
    · right
      simpa using d
theorem items_lt (hu : A.units + C.dep < cLine) (hx : All2 (C.is s.heap) x xs.toList) (hy : All2 (C.is s.heap) y ys.toList) :
    ∀ j (h1 : j < xs.size) (h2 : j < ys.size), RcLt A s xs[j] ys[j] (match x[j]?, y[j]? with | some a, some b => C.lt a b | _, _ => false) := fun j h1 h2 => by
  have l1 : x.length = xs.size := by rw [hx.len]; simp
  have l2 : y.length = ys.size := by rw [hy.len]; simp
  have z := C.rcLt hu (all2_get hx j (by omega) (by simpa using h1)) (all2_get hy j (by omega) (by simpa using h2))
  rw [Array.getElem_toList, Array.getElem_toList] at z
  rw [List.getElem?_eq_getElem (show j < x.length by omega), List.getElem?_eq_getElem (show j < y.length by omega)]
  exact z
theorem first_all (hx : All2 (C.is s.heap) x xs.toList) (hy : All2 (C.is s.heap) y ys.toList) : firstLt (fun j => decide (x[j]? = y[j]?)) (fun j => match x[j]?, y[j]? with | some a, some b => C.lt a b | _, _ => false) (decide (xs.size < ys.size)) (List.range (min xs.size ys.size)) = ltL C.lt x y := by
  have l1 : x.length = xs.size := by rw [hx.len]; simp
  have l2 : y.length = ys.size := by rw [hy.len]; simp
  rw [← l1, ← l2, List.range_eq_range']
  refine first_L C.lt x y 0 _ _ fun j k1 k2 => ?_
  simp only [Nat.zero_add, List.getElem?_eq_getElem k1, List.getElem?_eq_getElem k2, Option.some.injEq, true_and, implies_true, and_self]
theorem in1_un {d : Nat} (h : A.units + (d + 1) < cLine) : A.in1.units + d < cLine ∧ A.units < cLine := ⟨in1_units h, by omega⟩
end
def tupC {κ : Type} [DecidableEq κ] (C : CK κ) : CK (List κ) where
  is h k v := SeqIs C "tuple" h k v
  lt := ltL C.lt
  dep := C.dep + 1
  T := "tuple"
  ty := by
    rintro s k v ⟨a, o, items, n, rfl, h1, h2, _⟩
    exact ⟨o, h1, h2⟩
  mono := by
    rintro h h' k v ⟨a, o, items, n, rfl, h1, h2, h3, h4⟩ keep
    exact ⟨a, o, items, n, rfl, keep a o h1, h2, h3, h4.imp fun _ _ z => C.mono z keep⟩
  look := by
    rintro M h k v ⟨a, o, items, n, rfl, h1, h2, _⟩
    have z : PySem.W.Looks M h (typeOf (.ref a)) o.cls := (PySem.W.Looks.ld h1).andThen .now
    rw [h2] at z
    exact z
  inj := fun h1 h2 => h1.one h2
  eqAt := by
    intro A s k k' v u hu hk hk'
    have hk0 := hk
    have hk1 := hk'
    obtain ⟨a, o, xs, n, rfl, ho, hc, hd, hi⟩ := hk
    obtain ⟨b, o2, ys, n2, rfl, ho2, hc2, hd2, hi2⟩ := hk'
    obtain ⟨u1, u2⟩ := in1_un hu
    by_cases e : a = b
    · subst e
      rw [decide_eq_true (hk0.one hk1)]
      exact EqAt.same _
    · have r := RcAt.tuples (A := A) (s := s) ⟨o, ho, hc, n, hd⟩ ⟨o2, ho2, hc2, n2, hd2⟩ u2 (items_eq (C := C) u1 hi hi2)
      rw [eq_all (C := C) hi hi2] at r
      exact EqAt.of_refs e r
  rcLt := by
    rintro A s k k' v u hu ⟨a, o, xs, n, rfl, ho, hc, hd, hi⟩ ⟨b, o2, ys, n2, rfl, ho2, hc2, hd2, hi2⟩
    obtain ⟨u1, u2⟩ := in1_un hu
    have r := RcLt.tuples (A := A) (s := s) ⟨o, ho, hc, n, hd⟩ ⟨o2, ho2, hc2, n2, hd2⟩ u2 (items_eq (C := C) u1 hi hi2) (fun j h1 h2 _ => items_lt (C := C) u1 hi hi2 j h1 h2)
    rw [first_all (C := C) hi hi2] at r
    exact r
  one := by
    rintro P w A E s k k' v u Q hu ⟨a, o, xs, n, rfl, ho, hc, hd, hi⟩ ⟨b, o2, ys, n2, rfl, ho2, hc2, hd2, hi2⟩ q
    obtain ⟨u1, u2⟩ := in1_un hu
    obtain ⟨oc, od, dt, sl⟩ := o
    obtain ⟨oc2, od2, dt2, sl2⟩ := o2
    simp only at hc hd hc2 hd2
    subst hc hd hc2 hd2
    rw [oneLt'_eq]
    simp only [if_true]
    refine wpAny_bind (wpAny_cRoomFor_or (.inr u2) ?_)
    refine wpAny_bind (wpAny_callSpecialIfBound?_slot ⟨_, ho, rfl⟩ PySem.F.slot_tuple_lt ?_)
    refine call_meets PySem.F.slot_tuple_lt ⟨_, ho, rfl⟩ PySem.F.entry_tuple_lt (PySem.F.args_tuple_lt_2 _ _) (tuple_ltAt a b xs ys n n2 od od2 sl sl2 _ _) ⟨ho, ho2, items_eq (C := C) u1 hi hi2, fun j h1 h2 _ => items_lt (C := C) u1 hi hi2 j h1 h2, ?_⟩
    rw [first_all (C := C) hi hi2]
    exact wpAny_truthy_bool q
def lstC {κ : Type} [DecidableEq κ] (C : CK κ) : CK (List κ) where
  is h k v := SeqIs C "list" h k v
  lt := ltL C.lt
  dep := C.dep + 1
  T := "list"
  ty := by
    rintro s k v ⟨a, o, items, n, rfl, h1, h2, _⟩
    exact ⟨o, h1, h2⟩
  mono := by
    rintro h h' k v ⟨a, o, items, n, rfl, h1, h2, h3, h4⟩ keep
    exact ⟨a, o, items, n, rfl, keep a o h1, h2, h3, h4.imp fun _ _ z => C.mono z keep⟩
  look := by
    rintro M h k v ⟨a, o, items, n, rfl, h1, h2, _⟩
    have z : PySem.W.Looks M h (typeOf (.ref a)) o.cls := (PySem.W.Looks.ld h1).andThen .now
    rw [h2] at z
    exact z
  inj := fun h1 h2 => h1.one h2
  eqAt := by
    intro A s k k' v u hu hk hk'
    have hk0 := hk
    have hk1 := hk'
    obtain ⟨a, o, xs, n, rfl, ho, hc, hd, hi⟩ := hk
    obtain ⟨b, o2, ys, n2, rfl, ho2, hc2, hd2, hi2⟩ := hk'
    obtain ⟨u1, u2⟩ := in1_un hu
    by_cases e : a = b
    · subst e
      rw [decide_eq_true (hk0.one hk1)]
      exact EqAt.same _
    · refine EqAt.of_refs e ?_
      have z := eq_all (C := C) hi hi2
      by_cases c : xs.size = ys.size
      · have r := RcAt.lists (A := A) (s := s) ⟨o, ho, hc, n, hd⟩ ⟨o2, ho2, hc2, n2, hd2⟩ c u2 (items_eq (C := C) u1 hi hi2)
        have e2 : ((List.range xs.size).all fun j => decide (k[j]? = k'[j]?)) = decide (k = k') := by
          rw [← z, c]
          simp
        rw [e2] at r
        exact r
      · have e2 : decide (k = k') = false := by
          rw [← z]
          simp [c]
        rw [e2]
        exact RcAt.lists_lengths (A := A) (s := s) ⟨o, ho, hc, n, hd⟩ ⟨o2, ho2, hc2, n2, hd2⟩ (by simpa using c) u2
  rcLt := by
    rintro A s k k' v u hu ⟨a, o, xs, n, rfl, ho, hc, hd, hi⟩ ⟨b, o2, ys, n2, rfl, ho2, hc2, hd2, hi2⟩
    obtain ⟨u1, u2⟩ := in1_un hu
    have r := RcLt.lists (A := A) (s := s) ⟨o, ho, hc, n, hd⟩ ⟨o2, ho2, hc2, n2, hd2⟩ u2 (items_eq (C := C) u1 hi hi2) (fun j h1 h2 _ => items_lt (C := C) u1 hi hi2 j h1 h2)
    rw [first_all (C := C) hi hi2] at r
    exact r
  one := by
    rintro P w A E s k k' v u Q hu ⟨a, o, xs, n, rfl, ho, hc, hd, hi⟩ ⟨b, o2, ys, n2, rfl, ho2, hc2, hd2, hi2⟩ q
    obtain ⟨u1, u2⟩ := in1_un hu
    rw [oneLt'_eq]
    simp only [if_true]
    refine wpAny_bind (wpAny_cRoomFor_or (.inr u2) ?_)
    refine wpAny_bind (wpAny_callSpecialIfBound?_slot ⟨_, ho, hc⟩ PySem.F.slot_list_lt ?_)
    refine call_list_lt ⟨o, ho, hc, n, hd⟩ ⟨o2, ho2, hc2, n2, hd2⟩ (items_eq (C := C) u1 hi hi2) (fun j h1 h2 _ => items_lt (C := C) u1 hi hi2 j h1 h2) ?_
    rw [first_all (C := C) hi hi2]
    exact wpAny_truthy_bool q
/-! sorting of these -/
section
variable {P : Program} {w : World} {A : Around} {E : Value → Shared → Prop} {s : Shared} {κ : Type} [DecidableEq κ] {C : CK κ}
/-- the key of a value -/
noncomputable def keyC (C : CK κ) [Inhabited κ] (h : Heap) (v : Value) : κ := @dite _ (∃ k, C.is h k v) (Classical.propDecidable _) (fun e => e.choose) fun _ => default
theorem keyC_of [Inhabited κ] {h : Heap} {v : Value} {k : κ} (e : C.is h k v) : keyC C h v = k := by
  unfold keyC
  rw [dif_pos ⟨k, e⟩]
  exact C.inj (Exists.choose_spec (⟨k, e⟩ : ∃ k, C.is h k v)) e
theorem swo_C [Inhabited κ] (O : Tot' C.lt) (k : Value → κ) : SrtO.Swo fun v u => C.lt (k v) (k u) := by
  refine ⟨fun x y h => O.asym _ _ h, fun x y z h1 h2 => ?_⟩
  have h1 : C.lt (k y) (k x) = false := h1
  have h2 : C.lt (k z) (k y) = false := h2
  show C.lt (k z) (k x) = false
  cases e : C.lt (k z) (k x) with
  | false => rfl
  | true =>
    cases c : C.lt (k x) (k y) with
    | true =>
      have t := O.trans _ _ _ e c
      rw [h2] at t
      cases t
    | false =>
      rw [O.tri _ _ c h1] at e
      rw [h2] at e
      cases e
theorem one_no {k k' : κ} {v u : Value} {Q : Bool → Shared → Prop} (hu : A.units + C.dep < cLine) (h1 : C.is s.heap k v) (h2 : C.is s.heap k' u) (q : Q (C.lt k k') s) : wpAny (model P w) A (oneLt' false v u) Q E s := by
  rw [oneLt'_eq]
  simp only [Bool.false_eq_true, if_false]
  exact wpAny_bind (C.rcLt hu h1 h2 P w E _ (wpAny_truthy_bool q))
/-- lists -/
theorem sortable_one {a : Addr} {vs : List Value} {kf : Value → κ} (h2 : 2 ≤ vs.length) (hT1 : (Value.type C.T != Value.type "tuple") = true) (hT2 : (Value.type C.T == Value.type C.T) = true) (hu : A.units + C.dep < cLine)
    (stay : ∀ (h' : Heap), (∀ b o, b ≠ a → s.heap.get? b = some o → h'.get? b = some o) → ∀ v ∈ vs, C.is h' (kf v) v) : SrtO.SortableO P w A s a vs fun v u => C.lt (kf v) (kf u) := by
  intro h' keep
  have st := stay h' keep
  refine ⟨oneType', fun Q E hq => ?_, fun p q hm hm' => ?_⟩
  · exact PySem.W.kas_kind (T := .type C.T) h2 (fun v hv => C.look (st v hv)) hT1 hT2 hq
  · show wpAny (model P w) A (keyLt' oneType' p.1 q.1) (fun r s' => s' = _ ∧ r = C.lt (kf p.1) (kf q.1)) (fun _ _ => False) _
    rw [keyLt'_oneType]
    exact C.one hu (st _ hm) (st _ hm') ⟨rfl, rfl⟩
theorem lexC {Q : Bool → Shared → Prop} {b : Bool} (hu : A.units + C.dep < cLine) : ∀ {x y : List κ} {xs ys : List Value} {i : Nat} {fin : Bool}, All2 (C.is s.heap) x xs → All2 (C.is s.heap) y ys → fin = decide (x.length < y.length) → Q (ltL C.lt x y) s →
    PySem.W.KatLex P w A b fin Q (xs.zip ys) i s
  | _, _, _, _, i, fin, .nil, .nil, e, q => by
    refine PySem.W.kat_nil ?_
    rw [e]
    simpa [ltL] using q
  | _, _, _, _, i, fin, .nil, .cons _ _, e, q => by
    refine PySem.W.kat_nil ?_
    rw [e]
    simpa [ltL] using q
  | _, _, _, _, i, fin, .cons _ _, .nil, e, q => by
    refine PySem.W.kat_nil ?_
    rw [e]
    simpa [ltL] using q
  | a :: x, c :: y, _, _, i, fin, .cons ha hx, .cons hb hy, e, q => by
    refine PySem.W.kat_cons (C.eqAt hu ha hb P w _ _ ?_)
    unfold ltL at q
    by_cases d : a = c
    · rw [decide_eq_true d]
      rw [if_pos d] at q
      exact PySem.W.kat_yes (lexC hu hx hy (by rw [e]; simp) q)
    · rw [decide_eq_false d]
      rw [if_neg d] at q
      refine PySem.W.kat_no ?_
      cases h0 : (b && i == 0) with
      | true => exact C.one hu ha hb q
      | false => exact one_no hu ha hb q
/-- the first item of a tuple, or none -/
def FoR (C : CK κ) (h : Heap) (v : Value) (o : Option Value) : Prop := ∃ ks, (tupC C).is h ks v ∧ match ks with | [] => o = none | k :: _ => ∃ f, o = some f ∧ C.is h k f
theorem firsts_go {M : Model} : ∀ {vs : List Value}, (∀ v ∈ vs, ∃ k, (tupC C).is s.heap k v) → ∃ os, All2 (FoR C s.heap) vs os ∧ ∀ (Q : List (Option Value) → Shared → Prop), Q os s → wpAny M A (vs.mapM firstOfTuple') Q E s
  | [], _ => ⟨[], .nil, fun Q q => by rw [List.mapM_nil]; exact wpAny_pure q⟩
  | v :: vs, hv => by
    obtain ⟨os, h1, h2⟩ := firsts_go (M := M) (vs := vs) fun u hu => hv u (List.mem_cons_of_mem _ hu)
    obtain ⟨ks, hk⟩ := hv v (List.mem_cons_self ..)
    have hk0 := hk
    obtain ⟨a, o, xs, n, rfl, ho, hc, hd, hi⟩ := hk
    refine ⟨xs[0]? :: os, .cons ⟨ks, hk0, ?_⟩ h1, fun Q q => ?_⟩
    · cases ks with
      | nil =>
        have e : xs.toList = [] := by cases hi'' : xs.toList with | nil => rfl | cons _ _ => rw [hi''] at hi; cases hi
        show xs[0]? = none
        rw [← Array.getElem?_toList, e]
        rfl
      | cons k ks =>
        cases e : xs.toList with
        | nil => rw [e] at hi; cases hi
        | cons f r =>
          rw [e] at hi
          cases hi with
          | cons hf _ =>
            exact ⟨f, by rw [← Array.getElem?_toList, e]; rfl, hf⟩
    · rw [List.mapM_cons]
      refine wpAny_bind ?_
      rw [PySem.W.kas_first_eq]
      refine wpAny_bind (PySem.W.Looks.here ((tupC C).look hk0) ?_)
      rw [if_neg (by first | decide | simp [tupC])]
      refine wpAny_bind (listItems_at ho hd (wpAny_pure ?_))
      exact wpAny_bind (h2 _ (wpAny_pure q))
theorem all2_mem {α β : Type} {R : α → β → Prop} : ∀ {xs : List α} {ys : List β}, All2 R xs ys → ∀ y ∈ ys, ∃ x ∈ xs, R x y
  | _, _, .nil, y, h => by cases h
  | _, _, .cons r t, y, h => by
    rcases List.mem_cons.mp h with rfl | h
    · exact ⟨_, List.mem_cons_self .., r⟩
    · obtain ⟨x, hx, hr⟩ := all2_mem t y h
      exact ⟨x, List.mem_cons_of_mem _ hx, hr⟩
theorem kind_tup {M : Model} {vs : List Value} (h2 : 2 ≤ vs.length) (hT2 : (Value.type C.T == Value.type C.T) = true) (hp : ∀ v ∈ vs, ∃ k, (tupC C).is s.heap k v) :
    ∃ κ, (κ = general' ∨ κ = oneType' ∨ ∃ b, κ = tuples' b) ∧ ∀ (Q : SortKind → Shared → Prop), Q κ s → wpAny M A (keyKind' vs.toArray) Q E s := by
  obtain ⟨os, ho, hw⟩ := firsts_go (A := A) (E := E) (M := M) (vs := vs) hp
  have len := ho.len
  by_cases c : (os.toArray.all fun x => x.isSome) = true
  · refine ⟨tuples' (Value.type C.T != Value.type "tuple"), .inr (.inr ⟨_, rfl⟩), fun Q q => ?_⟩
    rw [kat_kind_eq, List.mapM_toArray, map_eq_pure_bind]
    refine wpAny_bind (wpAny_bind (hw _ (wpAny_pure ?_)))
    rw [if_pos c]
    refine wpAny_bind (wpAny_rule ?_)
    obtain ⟨fs, ef, hf, lf⟩ : ∃ fs : List Value, (os.toArray.filterMap id) = fs.toArray ∧ (∀ f ∈ fs, ∃ k, C.is s.heap k f) ∧ 0 < fs.length := by
      refine ⟨os.filterMap id, by simp, fun f hf => ?_, ?_⟩
      · obtain ⟨o, ho', e⟩ := List.mem_filterMap.mp hf
        obtain ⟨v, hv, ks, hk, hr⟩ := all2_mem ho o ho'
        have e : o = some f := e
        subst e
        cases ks with
        | nil => cases hr
        | cons k ks =>
          obtain ⟨f', e', hf'⟩ := hr
          cases e'
          exact ⟨k, hf'⟩
      · cases os with
        | nil =>
          rw [List.length_nil] at len
          omega
        | cons o os =>
          have : o.isSome = true := by simp at c; exact c.1
          cases o with
          | none => cases this
          | some f => simp
    rw [ef, oneTypeOnly'_eq, List.mapM_toArray, map_eq_pure_bind]
    refine wpAny_bind (wpAny_bind (wpAny_bind (PySem.W.kas_mapM (r := Value.type C.T) _ (fun v hv Q' hq => by obtain ⟨k, hk⟩ := hf v hv; exact (C.look hk).here hq) (wpAny_pure ?_))))
    have hall : ((fs.map fun _ => Value.type C.T).toArray.all fun x => x == Value.type C.T) = true := by
      simp only [List.all_toArray, List.all_map, List.all_eq_true]
      intro _ _
      exact hT2
    have h0 : (fs.map fun _ => Value.type C.T).toArray[0]? = some (Value.type C.T) := by
      cases fs with
      | nil => cases lf
      | cons f fs => simp
    rw [h0]
    simp only [hall, if_true]
    exact wpAny_pure (wpAny_pure q)
  · by_cases c2 : (os.toArray[0]?.bind id).isSome = true
    · refine ⟨general', .inl rfl, fun Q q => ?_⟩
      rw [kat_kind_eq, List.mapM_toArray, map_eq_pure_bind]
      refine wpAny_bind (wpAny_bind (hw _ (wpAny_pure ?_)))
      rw [if_neg c, if_pos c2]
      exact wpAny_pure q
    · refine ⟨oneType', .inr (.inl rfl), fun Q q => ?_⟩
      rw [kat_kind_eq, List.mapM_toArray, map_eq_pure_bind]
      refine wpAny_bind (wpAny_bind (hw _ (wpAny_pure ?_)))
      rw [if_neg c, if_neg c2]
      rw [oneTypeOnly'_eq, List.mapM_toArray, map_eq_pure_bind]
      refine wpAny_bind (wpAny_bind (wpAny_bind (PySem.W.kas_mapM (r := Value.type "tuple") _ (fun v hv Q' hq => by obtain ⟨k, hk⟩ := hp v hv; exact ((tupC C).look hk).here hq) (wpAny_pure ?_))))
      have hall : ((vs.map fun _ => Value.type "tuple").toArray.all fun x => x == Value.type "tuple") = true := by
        simp only [List.all_toArray, List.all_map, List.all_eq_true]
        intro _ _
        rfl
      have h0 : (vs.map fun _ => Value.type "tuple").toArray[0]? = some (Value.type "tuple") := by
        cases vs with
        | nil => simp at h2
        | cons f fs => simp
      rw [h0]
      simp only [hall, if_true]
      exact wpAny_pure (wpAny_pure q)
/-- tuples -/
theorem sortable_tup {a : Addr} {vs : List Value} {kf : Value → List κ} (h2 : 2 ≤ vs.length) (hT2 : (Value.type C.T == Value.type C.T) = true) (hu : A.units + (C.dep + 1) < cLine)
    (stay : ∀ (h' : Heap), (∀ b o, b ≠ a → s.heap.get? b = some o → h'.get? b = some o) → ∀ v ∈ vs, (tupC C).is h' (kf v) v) : SrtO.SortableO P w A s a vs fun v u => ltL C.lt (kf v) (kf u) := by
  intro h' keep
  have st := stay h' keep
  obtain ⟨κ', hk, hw⟩ := kind_tup (C := C) (M := model P w) (A := A) (s := { s with heap := h' }) (E := fun _ _ => False) h2 hT2 fun v hv => ⟨_, st v hv⟩
  refine ⟨κ', fun Q E hq => wpAny_mono (hw Q hq) (fun _ _ z => z) fun _ _ z => z.elim, fun p q hm hm' => ?_⟩
  show wpAny (model P w) A (keyLt' κ' p.1 q.1) (fun r s' => s' = _ ∧ r = ltL C.lt (kf p.1) (kf q.1)) (fun _ _ => False) _
  have r1 := st _ hm
  have r2 := st _ hm'
  generalize kf p.1 = kx at r1 ⊢
  generalize kf q.1 = ky at r2 ⊢
  rcases hk with rfl | rfl | ⟨b, rfl⟩
  · exact one_no (C := tupC C) hu r1 r2 ⟨rfl, rfl⟩
  · rw [keyLt'_oneType]
    exact (tupC C).one hu r1 r2 ⟨rfl, rfl⟩
  · obtain ⟨a1, o1, xs, n1, e1, ho1, _, hd1, hi1⟩ := r1
    obtain ⟨a2, o2, ys, n2, e2, ho2, _, hd2, hi2⟩ := r2
    rw [e1, e2]
    refine PySem.W.kat_lt ho1 hd1 ho2 hd2 (lexC (C := C) (by omega) hi1 hi2 ?_ ⟨rfl, rfl⟩)
    rw [← Array.length_toList, ← Array.length_toList, ← hi1.len, ← hi2.len]
end
/-- sorted, as a function -/
def srtK {κ : Type} (lt : κ → κ → Bool) (l : List κ) : List κ := l.mergeSort fun a b => !lt b a
theorem le_trans' {κ : Type} {lt : κ → κ → Bool} (O : Tot' lt) : ∀ a b c : κ, (!lt b a) = true → (!lt c b) = true → (!lt c a) = true := fun a b c h1 h2 => by
  have h1 : lt b a = false := by simpa using h1
  have h2 : lt c b = false := by simpa using h2
  cases e : lt c a with
  | false => rfl
  | true =>
    cases d : lt a b with
    | true =>
      have := O.trans _ _ _ e d
      rw [h2] at this
      cases this
    | false =>
      rw [O.tri _ _ d h1] at e
      rw [h2] at e
      cases e
theorem srtK_perm {κ : Type} (lt : κ → κ → Bool) (l : List κ) : (srtK lt l).Perm l := List.mergeSort_perm _ _
theorem srtK_pw {κ : Type} {lt : κ → κ → Bool} (O : Tot' lt) (l : List κ) : (srtK lt l).Pairwise (fun a b => (!lt b a) = true) :=
  List.pairwise_mergeSort (le_trans' O) (fun a b => by
    cases e : lt b a with
    | false => simp
    | true => simp [O.asym _ _ e]) l
theorem srtK_eq {κ : Type} {lt : κ → κ → Bool} (O : Tot' lt) {ys xs : List κ} (h : ys.Perm xs) (hs : ys.Pairwise (fun a b => (!lt b a) = true)) : ys = srtK lt xs :=
  (h.trans (srtK_perm lt xs).symm).eq_of_pairwise (fun a b _ _ h1 h2 => O.tri _ _ (by simpa using h2) (by simpa using h1)) hs (srtK_pw O xs)
end G39

/-! sorted of lists of ordered data -/
namespace G39
open PySem PySem.Spec PyProof.Rows L2 Evl
/-- ordered data -/
structure DK (κ : Type) [DecidableEq κ] where
  C : CK κ
  enc : κ → D
  br : ∀ {X : Cx} {pins : List (Addr × Obj)} {σ : L2.St} {H F : Hp} {s : Shared} {v : V} {u : Value} {k : κ}, Inv X pins σ H s → Sub F H → Rp X.K F v (enc k) → RelV v u → C.is s.heap k u
  tot : Tot' C.lt
  T2 : (Value.type C.T == Value.type C.T) = true
def strK : DK Str where
  C := strC
  enc := .str
  br := by
    intro X pins σ H F s v u k I sb r rl
    cases r
    obtain ⟨t, rfl⟩ := rl
    exact ⟨t, rfl⟩
  tot := tot_T
  T2 := by decide
section
variable {κ : Type} [DecidableEq κ] {d : DK κ} {X : Cx} {pins : List (Addr × Obj)} {σ : L2.St} {H F : Hp} {s : Shared}
theorem all2_br (I : Inv X pins σ H s) (sb : Sub F H) : ∀ {xs : List V} {ks : List κ} {us : List Value}, Rps X.K F xs (ks.map d.enc) → Vals xs us → All2 (d.C.is s.heap) ks us
  | _, [], _, r, v => by
    cases r
    cases v
    exact .nil
  | _, k :: ks, _, r, v => by
    rw [List.map_cons] at r
    cases r with
    | cons r t =>
      cases v with
      | cons a b => exact .cons (d.br I sb r a) (all2_br I sb t b)
end
def tupK {κ : Type} [DecidableEq κ] (d : DK κ) : DK (List κ) where
  C := tupC d.C
  enc k := .tup (k.map d.enc)
  br := by
    intro X pins σ H F s v u k I sb r rl
    obtain ⟨a, xs, rfl, h, rs⟩ := Bw.tup (so := none) (H := H) (.inl r) sb
    cases rl
    obtain ⟨its, rv, ⟨o, ho, hc, n, hd⟩, _⟩ := I.tuple h
    exact ⟨a, o, _, n, rfl, ho, hc, hd, by rw [List.toList_toArray]; exact all2_br I sb rs rv⟩
  tot := tot_L d.tot
  T2 := by show (Value.type "tuple" == Value.type "tuple") = true; decide
def lstK {κ : Type} [DecidableEq κ] (d : DK κ) : DK (List κ) where
  C := lstC d.C
  enc k := .lst (k.map d.enc)
  br := by
    intro X pins σ H F s v u k I sb r rl
    obtain ⟨a, xs, rfl, h, rs⟩ := Bw.lst (so := none) (H := H) (.inl r) sb
    cases rl
    obtain ⟨its, rv, pl, hz⟩ := I.list (sq_of h)
    obtain ⟨o, ho, hc, n, hd⟩ := pl.isList
    exact ⟨a, o, _, n, rfl, ho, hc, hd, by rw [List.toList_toArray]; exact all2_br I sb rs rv⟩
  tot := tot_L d.tot
  T2 := by show (Value.type "list" == Value.type "list") = true; decide
/-- values behind a change of order -/
theorem vals_perm {us out : List Value} (p : out.Perm us) : ∀ {xs : List V}, Vals xs us → ∃ ys, ys.Perm xs ∧ Vals ys out := by
  induction p with
  | nil => intro xs v; exact ⟨xs, .refl _, v⟩
  | @cons x l1 l2 p ih =>
    intro xs v
    cases v with
    | cons a b =>
      obtain ⟨ys, h1, h2⟩ := ih b
      exact ⟨_ :: ys, h1.cons _, .cons a h2⟩
  | swap x y l =>
    intro xs v
    cases v with
    | cons a b =>
      cases b with
      | cons c e => exact ⟨_, .swap .., .cons c (.cons a e)⟩
  | trans p q ih1 ih2 =>
    intro xs v
    obtain ⟨ys, h1, h2⟩ := ih2 v
    obtain ⟨zs, h3, h4⟩ := ih1 h2
    exact ⟨zs, h3.trans h1, h4⟩
section
variable {κ : Type} [DecidableEq κ] [Inhabited κ] {d : DK κ}
theorem key_all {h : Heap} : ∀ {ks : List κ} {us : List Value}, All2 (d.C.is h) ks us → us.map (keyC d.C h) = ks
  | _, _, .nil => rfl
  | _, _, .cons a b => by rw [List.map_cons, keyC_of a, key_all b]
theorem rps_key {X : Cx} {pins : List (Addr × Obj)} {σ : L2.St} {H F : Hp} {s : Shared} (I : Inv X pins σ H s) (sb : Sub F H) {xs : List V} {ks : List κ} (r : Rps X.K F xs (ks.map d.enc)) :
    ∀ {ys : List V} {out : List Value}, (∀ y ∈ ys, y ∈ xs) → Vals ys out → Rps X.K F ys ((out.map (keyC d.C s.heap)).map d.enc)
  | _, _, _, .nil => .nil
  | y :: ys, _, hm, .cons a b => by
    have hy := hm y (List.mem_cons_self ..)
    obtain ⟨i, hi⟩ := List.mem_iff_getElem?.mp hy
    obtain ⟨dd, h1, h2⟩ := r.get hi
    rw [List.getElem?_map] at h1
    obtain ⟨k, hk, rfl⟩ := Option.map_eq_some_iff.mp h1
    rw [List.map_cons, List.map_cons, keyC_of (d.br I sb h2 a)]
    exact .cons h2 (rps_key I sb r (fun z hz => hm z (List.mem_cons_of_mem _ hz)) b)
/-- sorted(list) -/
def rSortK (K : PySem.W.Frag) (d : DK κ) : List V → Hp → VK → Prop := fun vs H Q => ∃ (a : Addr) (xs : List V) (F : Hp) (ks : List κ), vs = [V.ref a] ∧ SqL K H a xs ∧ Sub F H ∧ Rps K F xs (ks.map d.enc) ∧
  ∀ ys p, Rps K F ys ((srtK d.C.lt ks).map d.enc) → H p = none → Q (.ref p) (upd H p (.lst ys))
variable {X : Cx}
theorem cr_sortAny (hS : ∀ {P : Program} {w : World} {A : Around} {s : Shared} {a : Addr} {vs : List Value} {kf : Value → κ}, 2 ≤ vs.length → A.units + d.C.dep < cLine →
      (∀ (h' : Heap), (∀ b o, b ≠ a → s.heap.get? b = some o → h'.get? b = some o) → ∀ v ∈ vs, d.C.is h' (kf v) v) → SrtO.SortableO P w A s a vs fun v u => d.C.lt (kf v) (kf u))
    (hu : X.A.units + (d.C.dep + 4) < cLine) : CallR X (.builtin "sorted") (rSortK X.K d) := by
  intro pins s σ H vs us Q I r h
  obtain ⟨a, xs, F, ks, rfl, hl, sb, rx, q⟩ := h
  rw [Vals.ref1 r]
  obtain ⟨its, rv, pl, hz⟩ := I.list hl
  have al := all2_br (d := d) I sb rx rv
  have iu : ∀ v ∈ its, d.C.is s.heap (keyC d.C s.heap v) v := fun v hv => by
    obtain ⟨i, hi, e⟩ := List.mem_iff_getElem.mp hv
    have z := all2_get al i (by rw [al.len]; exact hi) hi
    rw [e] at z
    rw [keyC_of z]
    exact z
  refine SrtO.sorted_ord (ltv := fun v u => d.C.lt (keyC d.C s.heap v) (keyC d.C s.heap u)) (swo_C d.tot _) pl.isList (by rw [← rv.length]; exact hz) (fun h2 h1 b hb keep => ?_) fun out hs hb => ?_
  · refine hS h2 ?_ fun h' kp v hv => d.C.mono (iu v hv) fun c o e => kp c o (keep c o e).1 (keep c o e).2
    have e1 : X.A.in1.in1.units ≤ X.A.units + 2 := by first | exact Nat.le_refl _ | simp [Around.in1]
    omega
  · obtain ⟨ys, p1, v1⟩ := vals_perm hb.perm rv
    have key := rps_key (d := d) I sb rx (fun y hy => p1.mem_iff.mp hy) v1
    have ek : out.map (keyC d.C s.heap) = srtK d.C.lt ks := by
      refine srtK_eq d.tot ?_ ?_
      · rw [← key_all al]
        exact hb.perm.map _
      · refine List.pairwise_map.mpr (hs.imp fun {x y} z => ?_)
        have z : d.C.lt (keyC d.C s.heap y) (keyC d.C s.heap x) = false := z
        rw [z]
        rfl
    rw [ek] at key
    obtain ⟨ep, he'⟩ := PyProof.Rows.sortedAll_at s.heap its out.toArray
    have hlen : ys.length ≤ sizeLine := by rw [p1.length_eq]; exact hz
    have hn : H (s.heap.objs.size + 1) = none := I.hok.fresh (Nat.le_succ _)
    exact ⟨.ref _, upd H (s.heap.objs.size + 1) (.lst ys), I.laid (t' := s.toks) (fun _ _ => PyProof.Rows.sortedAll_old) (Nat.le_succ _) ⟨hlen, out, ep, v1, he'⟩, rfl, q ys _ key hn⟩
end
section
variable {κ : Type} [DecidableEq κ] [Inhabited κ] {d : DK κ} {X : Cx} {K : PySem.W.Frag}
instance : Inhabited (List κ) := ⟨[]⟩
theorem cr_sortLK (hK : X.K = K) (hu : X.A.units + (d.C.dep + 5) < cLine) : CallR X (.builtin "sorted") (rSortK K (lstK d)) := by
  subst hK
  exact cr_sortAny (d := lstK d) (fun h2 hu st => sortable_one (C := lstC d.C) h2 (by show (Value.type "list" != Value.type "tuple") = true; decide) (by show (Value.type "list" == Value.type "list") = true; decide) hu st) (by show X.A.units + (d.C.dep + 1 + 4) < cLine; omega)
theorem cr_sortTK (hK : X.K = K) (hu : X.A.units + (d.C.dep + 5) < cLine) : CallR X (.builtin "sorted") (rSortK K (tupK d)) := by
  subst hK
  exact cr_sortAny (d := tupK d) (fun h2 hu st => sortable_tup (C := d.C) h2 d.T2 hu st) (by show X.A.units + (d.C.dep + 1 + 4) < cLine; omega)
def gSortK (d : DK κ) : D → PM D := fun a n q _ => ∃ ks : List κ, a = .lst (ks.map d.enc) ∧ q (.lst ((srtK d.C.lt ks).map d.enc)) n
theorem scf_sortK : SCF K (rSortK K d) (gSortK d) := fun so F H n vx a q x Q s c b p k => by
  obtain ⟨ks, rfl, p⟩ := p
  obtain ⟨a, vs, ev, ha, r⟩ := b.lst s
  exact ⟨a, vs, F, ks, by rw [ev], sq_of ha, s, r, fun ys pp r' hn => KF.here k s c (.lst r') p pp hn⟩
end
end G39

/-! sets of ordered data that are hashed -/
namespace G39
open PySem PySem.Spec PyProof.Rows L2 Evl
/-- a hashed kind of the same values -/
structure Iso {P : Program} {w : World} {κ : Type} [DecidableEq κ] (H0 : HK P w κ) (C : CK κ) : Prop where
  to : ∀ {h : Heap} {k : κ} {v : Value}, C.is h k v → H0.is h k v
  of : ∀ {h : Heap} {k : κ} {v : Value}, H0.is h k v → C.is h k v
theorem iso_str {P : Program} {w : World} : Iso (strHK P w) strC := ⟨fun h => h, fun h => h⟩
theorem iso_tup {P : Program} {w : World} {κ : Type} [DecidableEq κ] {H0 : HK P w κ} {C : CK κ} (i : Iso H0 C) : Iso (tupHK H0) (tupC C) :=
  ⟨fun ⟨a, o, items, n, e, h1, h2, h3, h4⟩ => ⟨a, o, items, n, e, h1, h2, h3, h4.imp fun _ _ z => i.to z⟩, fun ⟨a, o, items, n, e, h1, h2, h3, h4⟩ => ⟨a, o, items, n, e, h1, h2, h3, h4.imp fun _ _ z => i.of z⟩⟩
section
variable {P : Program} {w : World} {κ : Type} [DecidableEq κ]
def valK (L : List (Addr × κ)) : List (Value × κ) := L.map fun p => (Value.ref p.1, p.2)
/-- the set, but for its elements' own objects -/
def SetK0 (H0 : HK P w κ) (h : Heap) (a : Addr) (L : List (Addr × κ)) : Prop := ∃ es ep t, (∃ o, h.get? a = some o ∧ o.ExactSet ∧ o.data = .set es ep t) ∧ es.toList = rowsG H0 (valK L) ∧ TabOk t ((valK L).map fun p => H0.hash p.2) ∧ ((valK L).map (·.2)).Nodup ∧
  (w.params.followText "set-order" = true ∨ t.led = true) ∧ (valK L).length * 5 < t.mask * 3 ∧ (valK L).length < 77
def SetKO (H0 : HK P w κ) (a : Addr) (L : List (Addr × κ)) : HO := .ext fun h => SetK0 H0 h a L
variable {H0 : HK P w κ}
theorem SetG.k0 {h : Heap} {a : Addr} {L : List (Addr × κ)} {es : Array (Int × Value)} {ep : Nat} {t : SetTable} (R : SetG H0 h a (valK L) es ep t) : SetK0 H0 h a L := ⟨es, ep, t, R.ob, R.rows, R.tab, R.nd, R.led, R.room, R.few⟩
theorem SetK0.full {h : Heap} {a : Addr} {L : List (Addr × κ)} (R : SetK0 H0 h a L) (el : ∀ p ∈ L, H0.is h p.2 (.ref p.1)) : ∃ es ep t, SetG H0 h a (valK L) es ep t := by
  obtain ⟨es, ep, t, r1, r2, r3, r4, r5, r6, r7⟩ := R
  refine ⟨es, ep, t, r1, r2, r3, r4, fun p hp => ?_, r5, r6, r7⟩
  obtain ⟨q, hq, rfl⟩ := List.mem_map.mp hp
  exact ⟨el q hq, q.1, rfl⟩
theorem setKO_new {H : Hp} {h : Heap} {a : Addr} {L : List (Addr × κ)} (R : SetK0 H0 h a L) : ObjOk P w H h a (SetKO H0 a L) := by
  refine ⟨R, ?_, fun h1 h2 r k => ?_⟩
  · obtain ⟨_, _, _, ⟨o, ho, _⟩, _⟩ := R
    exact ⟨o, ho⟩
  · obtain ⟨es, ep, t, ⟨o, ho, r1⟩, r2⟩ := r
    exact ⟨es, ep, t, ⟨o, k o ho, r1⟩, r2⟩
theorem valK_of : ∀ {M : List (Value × κ)}, (∀ p ∈ M, IsRef p.1) → ∃ L, M = valK L
  | [], _ => ⟨[], rfl⟩
  | (v, k) :: M, h => by
    obtain ⟨L, rfl⟩ := valK_of fun p hp => h p (List.mem_cons_of_mem _ hp)
    obtain ⟨a, e⟩ := h _ (List.mem_cons_self ..)
    have e : v = .ref a := e
    subst e
    exact ⟨(a, k) :: L, rfl⟩
theorem valK_keys (L : List (Addr × κ)) : (valK L).map (·.2) = L.map (·.2) := by
  unfold valK
  rw [List.map_map]
  rfl
theorem valK_inj : ∀ {L M : List (Addr × κ)}, valK L = valK M → L = M
  | [], [], _ => rfl
  | [], _ :: _, h => by cases h
  | _ :: _, [], h => by cases h
  | p :: L, q :: M, h => by
    unfold valK at h
    rw [List.map_cons, List.map_cons] at h
    injection h with h1 h2
    injection h1 with h3 h4
    injection h3 with h3
    rw [show p = q from Prod.ext h3 h4, valK_inj (L := L) (M := M) h2]
theorem valK_perm {L M : List (Addr × κ)} (h : (valK L).Perm (valK M)) : L.Perm M := by
  have f : ∀ N : List (Addr × κ), (valK N).filterMap (fun p => match p.1 with | .ref a => some (a, p.2) | _ => none) = N := fun N => by
    unfold valK
    rw [List.filterMap_map]
    have : (fun p : Addr × κ => (fun p : Value × κ => match p.1 with | .ref a => some (a, p.2) | _ => none) (Value.ref p.1, p.2)) = some := by
      funext p
      rfl
    show List.filterMap (fun p : Addr × κ => (fun p : Value × κ => match p.1 with | .ref a => some (a, p.2) | _ => none) (Value.ref p.1, p.2)) N = N
    rw [this, List.filterMap_some]
  rw [← f L, ← f M]
  exact h.filterMap _
theorem setK0_fresh {h : Heap} (H0 : HK P w κ) : SetK0 H0 (h.push { cls := .type "set", dict := none, data := .set #[] 0 (.fresh 0 0 (!w.params.followText "set-order")) }) h.objs.size [] :=
  SetG.k0 (L := []) (newG (Heap.get?_push_size _ rfl))
end
section
variable {κ : Type} [DecidableEq κ] [Inhabited κ] {d : DK κ} {X : Cx} {K : PySem.W.Frag} {P : Program} {w : World}
/-- one more element -/
def addK (K : PySem.W.Frag) (d : DK κ) (H0 : HK P w κ) : V → Hp → Addr → (Hp → Prop) → Prop := fun y H D Nx => ∃ (b : Addr) (k : κ) (L : List (Addr × κ)) (F : Hp), y = .ref b ∧ Sub F H ∧ Rp K F (.ref b) (d.enc k) ∧ (∀ p ∈ L, Rp K F (.ref p.1) (d.enc p.2)) ∧ H D = some (SetKO H0 D L) ∧ L.length + 1 < 77 ∧
  ∀ L', (k ∈ L.map (·.2) → L' = L) → (k ∉ L.map (·.2) → L'.Perm ((b, k) :: L)) → Nx (upd H D (SetKO H0 D L'))
theorem bagK {H0 : HK P w κ} (hP : X.prog = P) (hw : X.w = w) (hK : X.K = K) (i : Iso H0 d.C) (h8 : H0.dep ≤ 8) (hu : X.A.units + 20 < cLine) : Bag X (fun D => SetKO H0 D []) (addK K d H0) := by
  subst hP hw hK
  refine ⟨fun h H => setKO_new (setK0_fresh H0), ?_⟩
  rintro ⟨⟩ e1 e2 e3 e4 pins s σ H D y u Nx Q E I r ad hq
  simp only at e1 e2 e3 e4
  subst e1 e2 e3 e4
  obtain ⟨b, k, L, F, rfl, sb, rb, rl, hD, hl, nx⟩ := ad
  cases r
  have R0 : SetK0 H0 s.heap D L := (I.hok D _ hD).1
  have hb : H0.is s.heap k (.ref b) := i.to (d.br I sb rb rfl)
  obtain ⟨es, ep, t, R⟩ := R0.full fun p hp => i.to (d.br I sb (rl p hp) rfl)
  obtain ⟨o, ho, hex, hd⟩ := R.ob
  have un : ∀ {A : Around}, A.units ≤ X.A.units + 2 → A.units + H0.dep < cLine := fun {A} h => by omega
  refine wpAny_call_entry PySem.F.slot_set_add ⟨o, ho, hex.1⟩ PySem.F.entry_set_add ?_ (PySem.F.args_set_add_2 _ _)
  unfold Builtin.«set.add» Builtin.Frozenset.oneOther
  simp only [List.isEmpty_nil, bind_assoc]
  unfold Builtin.Frozenset.addrOf setAdd
  refine wpAny_bind (wpAny_pure ?_)
  try dsimp only
  refine wpAny_bind (wpAny_pure ?_)
  try dsimp only
  refine wpAny_bind ?_
  refine wpAny_holding ?_
  have iu : X.A.in1.units ≤ X.A.units + 2 := by first | exact Nat.le_add_right _ 1 | (simp [Around.in1])
  refine wpAny_bind (H0.pyHash (un iu) hb fun tk htk => ?_)
  refine addG (s := { s with toks := tk }) (R := R) h8 hb ⟨b, rfl⟩ (un iu) (by unfold valK; rw [List.length_map]; exact hl) fun bb h' M es' ep' t' sbu R' k1 k2 => ?_
  show wpAny _ _ (ret Value.none) _ _ _
  obtain ⟨L', rfl⟩ := valK_of fun p hp => (R'.el p hp).2
  have hv : ∃ v, h'.get? D = some v := by
    obtain ⟨o', ho', _⟩ := R'.ob
    exact ⟨o', ho'⟩
  rw [valK_keys] at k1 k2
  refine wpAny_pure ⟨_, rfl, hq _ _ (I.write (e := D) (t' := tk) (by rw [hD]; trivial) (.inl rfl) (fun b u hb hu => (sbu.2 b hb).trans hu) hv (setKO_new R'.k0)) (nx L' (fun z => valK_inj (k1 z)) fun z => valK_perm (k2 z))⟩
/-- sorted(set) -/
def rSortSK (K : PySem.W.Frag) (d : DK κ) (H0 : HK P w κ) : List V → Hp → VK → Prop := fun vs H Q => ∃ (a : Addr) (L : List (Addr × κ)) (F : Hp), vs = [V.ref a] ∧ H a = some (SetKO H0 a L) ∧ Sub F H ∧ (∀ p ∈ L, Rp K F (.ref p.1) (d.enc p.2)) ∧
  ∀ ys p, Rps K F ys ((srtK d.C.lt (L.map (·.2))).map d.enc) → H p = none → Q (.ref p) (upd H p (.lst ys))
theorem rps_refs {F : Hp} : ∀ {L : List (Addr × κ)}, (∀ p ∈ L, Rp K F (.ref p.1) (d.enc p.2)) → Rps K F (L.map fun q => V.ref q.1) ((L.map (·.2)).map d.enc)
  | [], _ => .nil
  | p :: L, h => .cons (h p (List.mem_cons_self ..)) (rps_refs fun q hq => h q (List.mem_cons_of_mem _ hq))
theorem vals_refK : ∀ (L : List (Addr × κ)), Vals (L.map fun q => V.ref q.1) (L.map fun q => Value.ref q.1)
  | [] => .nil
  | q :: L => .cons rfl (vals_refK L)
theorem cr_sortSK {H0 : HK P w κ} (hP : X.prog = P) (hw : X.w = w) (hK : X.K = K) (i : Iso H0 d.C) (hc : X.calm = true)
    (hS : ∀ {P : Program} {w : World} {A : Around} {s : Shared} {a : Addr} {vs : List Value} {kf : Value → κ}, 2 ≤ vs.length → A.units + d.C.dep < cLine →
      (∀ (h' : Heap), (∀ b o, b ≠ a → s.heap.get? b = some o → h'.get? b = some o) → ∀ v ∈ vs, d.C.is h' (kf v) v) → SrtO.SortableO P w A s a vs fun v u => d.C.lt (kf v) (kf u))
    (hu : X.A.units + (d.C.dep + 4) < cLine) : CallR X (.builtin "sorted") (rSortSK K d H0) := by
  subst hP hw hK
  intro pins s σ H vs us Q I r h
  obtain ⟨a, L, F, rfl, ha, sb, rl, q⟩ := h
  have R0 : SetK0 H0 s.heap a L := (I.hok a _ ha).1
  obtain ⟨es, ep, t, R⟩ := R0.full fun p hp => i.to (d.br I sb (rl p hp) rfl)
  rw [Vals.ref1 r]
  obtain ⟨o, ho, hex, hd⟩ := R.ob
  have hfew : L.length < 77 := by
    have z := R.few
    unfold valK at z
    rw [List.length_map] at z
    exact z
  have hsz : es.size < 77 := by
    rw [R.size]
    exact R.few
  refine Calls.call_function_entry kind_sorted plain_sorted entry_sorted (args_sorted1 _) ?_
  unfold Builtin.«sorted»
  refine wpAny_bind (m := checkCount "sorted" 1 1 _) (wpAny_pure (wpAny_bind (collect_set (A := X.A.in1) (I.ok.hd hc) ⟨o, ho, hex.1, hd⟩ R.fits (by unfold scanBound; omega) R.tab.ris R.led fun s1 vs k1 hz g1 o1 pm => ?_)))
  have hes : es.toList.map (·.2) = L.map fun q => Value.ref q.1 := by
    rw [R.rows]
    unfold rowsG valK
    rw [List.map_map, List.map_map]
    rfl
  rw [hes] at pm
  have hvl : vs.length < 77 := by
    rw [pm.length_eq, List.length_map]
    exact hfew
  have rx : Rps X.K F (L.map fun q => V.ref q.1) ((L.map (·.2)).map d.enc) := rps_refs rl
  have al : All2 (d.C.is s.heap) (L.map (·.2)) (L.map fun q => Value.ref q.1) := all2_br (d := d) I sb rx (vals_refK L)
  have iu : ∀ v ∈ vs, d.C.is s.heap (keyC d.C s.heap v) v := fun v hv => by
    obtain ⟨j, hj, e⟩ := List.mem_iff_getElem.mp (pm.mem_iff.mp hv)
    have z := all2_get al j (by rw [al.len]; exact hj) hj
    rw [e] at z
    rw [keyC_of z]
    exact z
  obtain ⟨zs, p0, v0⟩ := vals_perm pm (vals_refK L)
  refine wpAny_bind (wpAny_newList ?_ (by rw [sizeLine_eq]; omega))
  have hoL : (s1.heap.push (seqObj "list" vs.toArray 0)).get? s1.heap.objs.size = some (seqObj "list" vs.toArray 0) := Heap.get?_push_size _ rfl
  refine wpAny_bind (wpAny_holding (wpAny_call_entry slot_list_sort ⟨_, hoL, rfl⟩ entry_list_sort (SrtO.list_sort_ord (s := { s1 with heap := s1.heap.push (seqObj "list" vs.toArray 0) }) (ltv := fun v u => d.C.lt (keyC d.C s.heap v) (keyC d.C s.heap u)) (swo_C d.tot _) hoL (by rw [sizeLine_eq]; omega) (fun h2 => ?_) fun out hs hb => ⟨_, rfl, ?_⟩) (args_list_sort _)))
  · refine hS h2 ?_ fun h' kp v hv => d.C.mono (iu v hv) fun c oc e => kp c oc ?_ (Heap.get?_push_of_some _ (k1 c oc e))
    · have e1 : X.A.in1.in1.units ≤ X.A.units + 2 := by first | exact Nat.le_refl _ | simp [Around.in1]
      omega
    · exact Nat.ne_of_lt (Heap.lt_size (k1 c oc e))
  obtain ⟨c, hcc⟩ := sortedHeap_at (vs := vs) (out := out.toArray) hoL
  obtain ⟨ys, p1, v1⟩ := vals_perm hb.perm v0
  have key := rps_key (d := d) I sb rx (fun y hy => p0.mem_iff.mp (p1.mem_iff.mp hy)) v1
  have ek : out.map (keyC d.C s.heap) = srtK d.C.lt (L.map (·.2)) := by
    refine srtK_eq d.tot ?_ ?_
    · rw [← key_all al]
      exact (hb.perm.trans pm).map _
    · refine List.pairwise_map.mpr (hs.imp fun {x y} z => ?_)
      have z : d.C.lt (keyC d.C s.heap y) (keyC d.C s.heap x) = false := z
      rw [z]
      rfl
  rw [ek] at key
  have hn : H s1.heap.objs.size = none := I.hok.fresh hz
  have hlen : ys.length ≤ sizeLine := by
    rw [p1.length_eq, p0.length_eq, List.length_map, sizeLine_eq]
    omega
  have kk : ∀ b u, s.heap.get? b = some u → (sortedHeap (s1.heap.push (seqObj "list" vs.toArray 0)) s1.heap.objs.size vs out.toArray).get? b = some u := fun b u e => by
    have z := k1 b u e
    have hlt := Heap.lt_size z
    rw [sortedHeap_old (Nat.ne_of_lt hlt) (by rw [size_push']; exact Nat.lt_succ_of_lt hlt)]
    exact Heap.get?_push_of_some _ z
  have J : Inv X pins σ (upd H s1.heap.objs.size (.lst ys)) { s with heap := sortedHeap (s1.heap.push (seqObj "list" vs.toArray 0)) s1.heap.objs.size vs out.toArray, gens := s1.gens, drawn := s1.drawn, toks := s1.toks } :=
    I.call (ch := []) (Un.laid kk hz hn) (I.hok.laid kk hz ⟨hlen, out, c, v1, hcc⟩) (by rw [g1]; exact I.bare) (fun _ z => nomatch z)
  refine wpAny_pure ⟨_, rfl, ?_⟩
  have e : ({ s1 with heap := sortedHeap (s1.heap.push (seqObj "list" vs.toArray 0)) s1.heap.objs.size vs out.toArray } : Shared) = { s with heap := sortedHeap (s1.heap.push (seqObj "list" vs.toArray 0)) s1.heap.objs.size vs out.toArray, gens := s1.gens, drawn := s1.drawn, toks := s1.toks } := by
    cases s1
    cases s
    cases o1
    rfl
  show EP X pins σ Q _ ({ s1 with heap := sortedHeap (s1.heap.push (seqObj "list" vs.toArray 0)) s1.heap.objs.size vs out.toArray } : Shared)
  rw [e]
  exact ⟨.ref s1.heap.objs.size, _, J, rfl, q ys _ key hn⟩
end
end G39

/-! sorted({..}) of hashed data -/
namespace G39
open PySem PySem.Spec PyProof.Rows L2 Evl
section
variable {κ : Type} [DecidableEq κ] [Inhabited κ] {d : DK κ} {K : PySem.W.Frag} {W : WX'} {P : Program} {w : World} {te : TE} {pe : PEx}
def colG (d : DK κ) (f : D → Nat → (Option D → Nat → Prop) → Prop) : List D → List κ → Nat → (List κ → Nat → Prop) → Prop
  | [], acc, n, q => q acc n
  | e :: ds, acc, n, q => f e n fun o n1 => match o with
    | none => colG d f ds acc n1 q
    | some z => ∃ k, z = d.enc k ∧ (onceP (acc ++ [k])).length < 76 ∧ colG d f ds (acc ++ [k]) n1 q
def pSortSK (d : DK κ) (pi : PIx) (pg : PGx) (pt : PTx) (pe : PEx) (vs : List Nat) : PEx := fun ρ n q x => pi ρ n (fun ds n1 => ds.length ≤ 40000 ∧ colG d (elP pg pt pe (wipeP ρ vs)) ds [] n1 fun ks n2 => q (.lst ((srtK d.C.lt (onceP ks)).map d.enc)) n2) x
theorem once_add {acc : List κ} {k : κ} {b : Addr} {L L' : List (Addr × κ)} (pm : (L.map (·.2)).Perm (onceP acc)) (h1 : k ∈ L.map (·.2) → L' = L) (h2 : k ∉ L.map (·.2) → L'.Perm ((b, k) :: L)) : (L'.map (·.2)).Perm (onceP (acc ++ [k])) := by
  have e : onceP (acc ++ [k]) = if k ∈ onceP acc then onceP acc else onceP acc ++ [k] := by
    unfold onceP
    rw [List.foldl_append]
    rfl
  rw [e]
  by_cases c : k ∈ onceP acc
  · rw [if_pos c, h1 (pm.mem_iff.mpr c)]
    exact pm
  · rw [if_neg c]
    have z := (h2 fun z => c (pm.mem_iff.mp z)).map (·.2)
    exact z.trans ((pm.cons k).trans (List.perm_append_comm (l₁ := [k])))
theorem sf_sortSK {H0 : HK P w κ} (hr : ∀ {F : Hp} {v : V} {k : κ}, Rp K F v (d.enc k) → ∃ b, v = .ref b) {wi : TI} {pi : PIx} {js vs : List Nat} {g : L2.TG} {pg : PGx} {tt : TT} {pt : PTx} (hi : SimI K W wi pi) (hg : SimG K js g pg) (hj : ∀ j ∈ js, j ∈ vs) (ht : SimT K WF tt pt) (he : SimE K WF te pe) :
    SimF K W (tCB (rSortSK K d H0) (tCons (tSg (fun D => SetKO H0 D []) (addK K d H0) wi g tt te vs) tNil)) (pSortSK d pi pg pt pe vs) := fun so F H σ ρ n q x Q e p xo k => hi so F H σ ρ n _ x _ e p xo fun J ds G N1 H1 n1 s1 c1 w1 gk p1 Dl hD => by
  have nD := s1.sub.nil hD
  have sD := c1.ne hD
  refine ⟨fun i m Hc => m = ds.length - i ∧ i ≤ ds.length ∧ ∃ N n' L acc, Step so N1 H1 N Hc ∧ SrcN so Hc n' ∧ N Dl = none ∧ Hc Dl = some (SetKO H0 Dl L) ∧ (L.map (·.2)).Perm (onceP acc) ∧ (∀ p ∈ L, Rp K N (.ref p.1) (d.enc p.2)) ∧ (onceP acc).length < 76 ∧ colG d (elP pg pt pe (wipeP ρ vs)) (ds.drop i) acc n' fun ks n2 => q (.lst ((srtK d.C.lt (onceP ks)).map d.enc)) n2,
    ⟨ds.length, by simp, Nat.zero_le _, N1, n1, [], [], (Step.refl s1.sub).beside' hD nD, c1.beside sD, nD, upd_same, .refl _, (fun _ z => by cases z), by simp [onceP], p1.2⟩, ?_⟩
  rintro i m Hc ⟨rfl, hle, N, n', L, acc, h1, h2, h3, h4, h5, hL, h76, h6⟩
  by_cases hlt : i < ds.length
  · refine .inr ⟨w1.goes i Hc hlt (gk Hc h1.keep), fun H' => ∃ N n' L acc, Step so N1 H1 N H' ∧ SrcN so H' n' ∧ N Dl = none ∧ H' Dl = some (SetKO H0 Dl L) ∧ (L.map (·.2)).Perm (onceP acc) ∧ (∀ p ∈ L, Rp K N (.ref p.1) (d.enc p.2)) ∧ (onceP acc).length < 76 ∧ colG d (elP pg pt pe (wipeP ρ vs)) (ds.drop (i + 1)) acc n' fun ks n2 => q (.lst ((srtK d.C.lt (onceP ks)).map d.enc)) n2,
      fun H' z => ⟨ds.length - (i + 1), by omega, rfl, hlt, z⟩, fun x H2 y => ?_⟩
    obtain ⟨e0, hd, ed⟩ := drop_at hlt
    rw [ed] at h6
    obtain ⟨N2, s2', r2⟩ := w1.yields i Hc x H2 N e0 hd (gk Hc h1.keep) h1.ex h1.sub y
    have s2 : Step so N Hc N2 H2 := s2'.any
    have c2 : SrcN so H2 n' := s2'.srcN h2
    have t2 := h1.trans s2 c1 h2
    have d2 : H2 Dl = some (SetKO H0 Dl L) := s2.keep Dl _ sD h4
    have n2 : N2 Dl = none := by rw [s2.new Dl (by rw [h4]; exact fun q => by cases q)]; exact h3
    have e2 := (e.step (s1.trans t2 e.src c1) c2).wipe vs
    refine hg so N2 H2 x e0 _ _ n' _ _ e2 r2 h6 fun σ2 ρ2 e3 o3 p3 => ⟨wipe_off o3 hj, ht so N2 H2 σ2 ρ2 n' _ noX _ e3 p3 xo_no fun b N3 H3 n3 s3 c3 p4 => ?_⟩
    have t3 := t2.trans s3 c1 c2
    have d3 : H3 Dl = some (SetKO H0 Dl L) := s3.keep Dl _ sD d2
    have n3' : N3 Dl = none := by rw [s3.new Dl (by rw [d2]; exact fun q => by cases q)]; exact n2
    cases b with
    | true =>
      rw [if_pos rfl] at p4 ⊢
      refine he so N3 H3 σ2 ρ2 n3 _ noX _ (e3.step s3 c3) p4 xo_no fun v dv N4 H4 n4 s4 c4 r4 p5 => ?_
      have t4 := t3.trans s4 c1 c3
      have d4 : H4 Dl = some (SetKO H0 Dl L) := s4.keep Dl _ sD d3
      have n4' : N4 Dl = none := by rw [s4.new Dl (by rw [d3]; exact fun q => by cases q)]; exact n3'
      obtain ⟨kk, rfl, hfew, p5⟩ := p5
      obtain ⟨b, rfl⟩ := hr r4
      have hL4 : ∀ p ∈ L, Rp K N4 (.ref p.1) (d.enc p.2) := fun p hp => (hL p hp).mono (s2.ex.trans (s3.ex.trans s4.ex))
      have lenL : L.length = (onceP acc).length := by rw [← List.length_map (f := (·.2)), h5.length_eq]
      refine ⟨b, kk, L, N4, rfl, t4.sub, r4, hL4, d4, by omega, fun L' q1 q2 => ⟨N4, n4, L', acc ++ [kk], t4.beside' hD n4', c4.beside sD, n4', upd_same, once_add h5 q1 q2, fun p hp => ?_, hfew, p5⟩⟩
      by_cases c : kk ∈ L.map (·.2)
      · rw [q1 c] at hp
        exact hL4 p hp
      · rcases List.mem_cons.mp ((q2 c).mem_iff.mp hp) with rfl | hp
        · exact r4
        · exact hL4 p hp
    | false =>
      rw [if_neg Bool.false_ne_true] at p4 ⊢
      exact ⟨N3, n3, L, acc, t3, c3, n3', d3, h5, fun p hp => (hL p hp).mono (s2.ex.trans s3.ex), h76, p4⟩
  · have ei : i = ds.length := by omega
    subst ei
    rw [List.drop_of_length_le (Nat.le_refl _)] at h6
    have h6 : q (.lst ((srtK d.C.lt (onceP acc)).map d.enc)) n' := h6
    refine .inl ⟨w1.stops Hc (gk Hc h1.keep), Dl, L, N, rfl, h4, h1.sub, hL, fun ys pp rr hn => ?_⟩
    have es : srtK d.C.lt (L.map (·.2)) = srtK d.C.lt (onceP acc) := srtK_eq d.tot ((srtK_perm _ _).trans h5) (srtK_pw d.tot _)
    rw [es] at rr
    exact KF.here (KF.step k (s1.trans h1 e.src c1) e.src h2) h1.sub h2 (.lst rr) h6 pp hn
/-- .. whose items are computed without draws -/
theorem colG_of {α : Type} {n : Nat} {f : D → Nat → (Option D → Nat → Prop) → Prop} {v : α → D} {g : α → κ} : ∀ {l : List α} {acc : List κ} {q : List κ → Nat → Prop}, (∀ a ∈ l, ∀ k : Option D → Nat → Prop, k (some (d.enc (g a))) n → f (v a) n k) → (onceP (acc ++ l.map g)).length < 76 → q (acc ++ l.map g) n → colG d f (l.map v) acc n q
  | [], acc, q, _, _, hq => by simpa [colG] using hq
  | a :: l, acc, q, h, h76, hq => by
    rw [List.map_cons]
    unfold colG
    refine h a (List.mem_cons_self ..) _ ⟨g a, rfl, ?_, ?_⟩
    · refine Nat.lt_of_le_of_lt (nodup_sub (once_nodup _) fun z hz => ?_) h76
      have := mem_once.mp hz
      refine mem_once.mpr ?_
      rcases List.mem_append.mp this with z | z
      · exact List.mem_append_left _ z
      · rw [List.mem_singleton.mp z]
        simp
    · have e : acc ++ (a :: l).map g = (acc ++ [g a]) ++ l.map g := by simp
      rw [e] at h76 hq
      exact colG_of (l := l) (fun b hb => h b (List.mem_cons_of_mem _ hb)) h76 hq
end
/-- tuples of tuples of texts -/
abbrev ppK : DK (List (List Str)) := tupK (tupK strK)
/-- lists of them -/
abbrev lpK : DK (List (List Str)) := lstK (tupK strK)
abbrev ppH (P : Program) (w : World) : HK P w (List (List Str)) := tupHK (tupHK (strHK P w))
theorem pp_ref {K : PySem.W.Frag} {F : Hp} {v : V} {k : List (List Str)} (h : Rp K F v (ppK.enc k)) : ∃ b, v = .ref b := by
  obtain ⟨a, xs, e, _⟩ := Bw.tup (so := none) (H := F) (.inl h) (fun _ _ z => .inl z)
  exact ⟨a, e⟩
section
variable {X : Cx} {K : PySem.W.Frag} {P : Program} {w : World}
theorem bagPP (hP : X.prog = P) (hw : X.w = w) (hK : X.K = K) (hu : X.A.units + 20 < cLine) : Bag X (fun D => SetKO (ppH P w) D []) (addK K ppK (ppH P w)) :=
  bagK hP hw hK (iso_tup (iso_tup iso_str)) (show 2 ≤ 8 by decide) hu
theorem cr_sortPP (hP : X.prog = P) (hw : X.w = w) (hK : X.K = K) (hc : X.calm = true) (hu : X.A.units + 20 < cLine) : CallR X (.builtin "sorted") (rSortSK K ppK (ppH P w)) :=
  cr_sortSK hP hw hK (iso_tup (iso_tup iso_str)) hc (fun h2 hu st => sortable_tup (C := tupC strC) h2 (tupK strK).T2 hu st) (show X.A.units + (2 + 4) < cLine by omega)
theorem cr_sortLP' (hK : X.K = K) (hu : X.A.units + 20 < cLine) : CallR X (.builtin "sorted") (rSortK K lpK) := cr_sortLK (d := tupK strK) hK (show X.A.units + (1 + 5) < cLine by omega)
theorem units20 {k : Nat} {A : Around} (r : Room k A) : A.units + 20 < cLine := by
  have := r.un
  omega
end
end G39

/-! sets whose elements are told by H; tuples without a dict of their own; dict(tuple) -/
namespace G39
open PySem PySem.Spec PyProof.Rows L2 Evl
section
variable {κ : Type} [DecidableEq κ] [Inhabited κ] {C : CK κ} {X : Cx} {K : PySem.W.Frag} {P : Program} {w : World}
/-- what H tells of an element -/
structure ElB (K : PySem.W.Frag) (C : CK κ) (El : Hp → Addr → κ → Prop) : Prop where
  br : ∀ {X : Cx} {pins : List (Addr × Obj)} {σ : L2.St} {H : Hp} {s : Shared} {b : Addr} {k : κ}, Inv X pins σ H s → X.K = K → El H b k → C.is s.heap k (.ref b)
/-- one more element -/
def addE (El : Hp → Addr → κ → Prop) (H0 : HK P w κ) : V → Hp → Addr → (Hp → Prop) → Prop := fun y H D Nx => ∃ (b : Addr) (k : κ) (L : List (Addr × κ)), y = .ref b ∧ El H b k ∧ (∀ p ∈ L, El H p.1 p.2) ∧ H D = some (SetKO H0 D L) ∧ L.length + 1 < 77 ∧
  ∀ L', (k ∈ L.map (·.2) → L' = L) → (k ∉ L.map (·.2) → L'.Perm ((b, k) :: L)) → Nx (upd H D (SetKO H0 D L'))
theorem bagE {El : Hp → Addr → κ → Prop} (B : ElB K C El) {H0 : HK P w κ} (hP : X.prog = P) (hw : X.w = w) (hK : X.K = K) (i : Iso H0 C) (h8 : H0.dep ≤ 8) (hu : X.A.units + 20 < cLine) : Bag X (fun D => SetKO H0 D []) (addE El H0) := by
  subst hP hw hK
  refine ⟨fun h H => setKO_new (setK0_fresh H0), ?_⟩
  rintro ⟨⟩ e1 e2 e3 e4 pins s σ H D y u Nx Q E I r ad hq
  simp only at e1 e2 e3 e4
  subst e1 e2 e3 e4
  obtain ⟨b, k, L, rfl, rb, rl, hD, hl, nx⟩ := ad
  cases r
  have R0 : SetK0 H0 s.heap D L := (I.hok D _ hD).1
  have hb : H0.is s.heap k (.ref b) := i.to (B.br I rfl rb)
  obtain ⟨es, ep, t, R⟩ := R0.full fun p hp => i.to (B.br I rfl (rl p hp))
  obtain ⟨o, ho, hex, hd⟩ := R.ob
  have un : ∀ {A : Around}, A.units ≤ X.A.units + 2 → A.units + H0.dep < cLine := fun {A} h => by omega
  refine wpAny_call_entry PySem.F.slot_set_add ⟨o, ho, hex.1⟩ PySem.F.entry_set_add ?_ (PySem.F.args_set_add_2 _ _)
  unfold Builtin.«set.add» Builtin.Frozenset.oneOther
  simp only [List.isEmpty_nil, bind_assoc]
  unfold Builtin.Frozenset.addrOf setAdd
  refine wpAny_bind (wpAny_pure ?_)
  try dsimp only
  refine wpAny_bind (wpAny_pure ?_)
  try dsimp only
  refine wpAny_bind ?_
  refine wpAny_holding ?_
  have iu : X.A.in1.units ≤ X.A.units + 2 := by first | exact Nat.le_add_right _ 1 | (simp [Around.in1])
  refine wpAny_bind (H0.pyHash (un iu) hb fun tk htk => ?_)
  refine addG (s := { s with toks := tk }) (R := R) h8 hb ⟨b, rfl⟩ (un iu) (by unfold valK; rw [List.length_map]; exact hl) fun bb h' M es' ep' t' sbu R' k1 k2 => ?_
  show wpAny _ _ (ret Value.none) _ _ _
  obtain ⟨L', rfl⟩ := valK_of fun p hp => (R'.el p hp).2
  have hv : ∃ v, h'.get? D = some v := by
    obtain ⟨o', ho', _⟩ := R'.ob
    exact ⟨o', ho'⟩
  rw [valK_keys] at k1 k2
  refine wpAny_pure ⟨_, rfl, hq _ _ (I.write (e := D) (t' := tk) (by rw [hD]; trivial) (.inl rfl) (fun b u hb hu => (sbu.2 b hb).trans hu) hv (setKO_new R'.k0)) (nx L' (fun z => valK_inj (k1 z)) fun z => valK_perm (k2 z))⟩
/-- sorted(set) -/
def rSortSE (C : CK κ) (El : Hp → Addr → κ → Prop) (H0 : HK P w κ) : List V → Hp → VK → Prop := fun vs H Q => ∃ (a : Addr) (L : List (Addr × κ)), vs = [V.ref a] ∧ H a = some (SetKO H0 a L) ∧ (∀ p ∈ L, El H p.1 p.2) ∧
  ∀ (L' : List (Addr × κ)) p, (∀ q ∈ L', q ∈ L) → L'.map (·.2) = srtK C.lt (L.map (·.2)) → H p = none → Q (.ref p) (upd H p (.lst (L'.map fun q => V.ref q.1)))
theorem pick_refs {L : List (Addr × κ)} : ∀ {vs : List Value}, (∀ v ∈ vs, ∃ q ∈ L, v = Value.ref q.1) → ∃ L1 : List (Addr × κ), vs = L1.map (fun q => Value.ref q.1) ∧ ∀ q ∈ L1, q ∈ L
  | [], _ => ⟨[], rfl, fun q hq => by cases hq⟩
  | v :: vs, hv => by
    obtain ⟨L1, e1, hs⟩ := pick_refs fun u hu => hv u (List.mem_cons_of_mem _ hu)
    obtain ⟨q, hq, e⟩ := hv v (List.mem_cons_self ..)
    refine ⟨q :: L1, by rw [List.map_cons, e, e1], fun r hr => ?_⟩
    rcases List.mem_cons.mp hr with z | z
    · rw [z]
      exact hq
    · exact hs r z
theorem cr_sortSE {El : Hp → Addr → κ → Prop} (B : ElB K C El) (O : Tot' C.lt) {H0 : HK P w κ} (hP : X.prog = P) (hw : X.w = w) (hK : X.K = K) (i : Iso H0 C) (hc : X.calm = true)
    (hS : ∀ {P : Program} {w : World} {A : Around} {s : Shared} {a : Addr} {vs : List Value} {kf : Value → κ}, 2 ≤ vs.length → A.units + C.dep < cLine →
      (∀ (h' : Heap), (∀ b o, b ≠ a → s.heap.get? b = some o → h'.get? b = some o) → ∀ v ∈ vs, C.is h' (kf v) v) → SrtO.SortableO P w A s a vs fun v u => C.lt (kf v) (kf u))
    (hu : X.A.units + (C.dep + 4) < cLine) : CallR X (.builtin "sorted") (rSortSE C El H0) := by
  subst hP hw hK
  intro pins s σ H vs us Q I r h
  obtain ⟨a, L, rfl, ha, rl, q⟩ := h
  have R0 : SetK0 H0 s.heap a L := (I.hok a _ ha).1
  obtain ⟨es, ep, t, R⟩ := R0.full fun p hp => i.to (B.br I rfl (rl p hp))
  rw [Vals.ref1 r]
  obtain ⟨o, ho, hex, hd⟩ := R.ob
  have hfew : L.length < 77 := by
    have z := R.few
    unfold valK at z
    rw [List.length_map] at z
    exact z
  have hsz : es.size < 77 := by
    rw [R.size]
    exact R.few
  refine Calls.call_function_entry kind_sorted plain_sorted entry_sorted (args_sorted1 _) ?_
  unfold Builtin.«sorted»
  refine wpAny_bind (m := checkCount "sorted" 1 1 _) (wpAny_pure (wpAny_bind (collect_set (A := X.A.in1) (I.ok.hd hc) ⟨o, ho, hex.1, hd⟩ R.fits (by unfold scanBound; omega) R.tab.ris R.led fun s1 vs k1 hz g1 o1 pm => ?_)))
  have hes : es.toList.map (·.2) = L.map fun q => Value.ref q.1 := by
    rw [R.rows]
    unfold rowsG valK
    rw [List.map_map, List.map_map]
    rfl
  rw [hes] at pm
  have hvl : vs.length < 77 := by
    rw [pm.length_eq, List.length_map]
    exact hfew
  have il : ∀ p ∈ L, C.is s.heap p.2 (.ref p.1) := fun p hp => B.br I rfl (rl p hp)
  have iu : ∀ v ∈ vs, C.is s.heap (keyC C s.heap v) v := fun v hv => by
    obtain ⟨p, hp, e⟩ := List.mem_map.mp (pm.mem_iff.mp hv)
    rw [← e, keyC_of (il p hp)]
    exact il p hp
  refine wpAny_bind (wpAny_newList ?_ (by rw [sizeLine_eq]; omega))
  have hoL : (s1.heap.push (seqObj "list" vs.toArray 0)).get? s1.heap.objs.size = some (seqObj "list" vs.toArray 0) := Heap.get?_push_size _ rfl
  refine wpAny_bind (wpAny_holding (wpAny_call_entry slot_list_sort ⟨_, hoL, rfl⟩ entry_list_sort (SrtO.list_sort_ord (s := { s1 with heap := s1.heap.push (seqObj "list" vs.toArray 0) }) (ltv := fun v u => C.lt (keyC C s.heap v) (keyC C s.heap u)) (swo_C O _) hoL (by rw [sizeLine_eq]; omega) (fun h2 => ?_) fun out hs hb => ⟨_, rfl, ?_⟩) (args_list_sort _)))
  · refine hS h2 ?_ fun h' kp v hv => C.mono (iu v hv) fun c oc e => kp c oc ?_ (Heap.get?_push_of_some _ (k1 c oc e))
    · have e1 : X.A.in1.in1.units ≤ X.A.units + 2 := by first | exact Nat.le_refl _ | simp [Around.in1]
      omega
    · exact Nat.ne_of_lt (Heap.lt_size (k1 c oc e))
  obtain ⟨c, hcc⟩ := sortedHeap_at (vs := vs) (out := out.toArray) hoL
  obtain ⟨L1, e1, hs1⟩ := pick_refs (L := L) (vs := out) fun v hv => by
    obtain ⟨p, hp, e⟩ := List.mem_map.mp (pm.mem_iff.mp (hb.perm.mem_iff.mp hv))
    exact ⟨p, hp, e.symm⟩
  have kl : ∀ M : List (Addr × κ), (∀ q ∈ M, q ∈ L) → (M.map fun q => Value.ref q.1).map (keyC C s.heap) = M.map (·.2) := fun M hM => by
    rw [List.map_map]
    exact List.map_congr_left fun q hq => keyC_of (il q (hM q hq))
  have ek : L1.map (·.2) = srtK C.lt (L.map (·.2)) := by
    refine srtK_eq O ?_ ?_
    · rw [← kl L1 hs1, ← kl L fun _ h => h, ← e1]
      exact (hb.perm.trans pm).map _
    · rw [← kl L1 hs1, ← e1]
      refine List.pairwise_map.mpr (hs.imp fun {x y} z => ?_)
      have z : C.lt (keyC C s.heap y) (keyC C s.heap x) = false := z
      rw [z]
      rfl
  have v1 : Vals (L1.map fun q => V.ref q.1) out := by
    rw [e1]
    exact vals_refK L1
  have hn : H s1.heap.objs.size = none := I.hok.fresh hz
  have hlen : (L1.map fun q => V.ref q.1).length ≤ sizeLine := by
    have z := congrArg List.length e1
    rw [List.length_map, (hb.perm.trans pm).length_eq, List.length_map] at z
    rw [List.length_map, ← z, sizeLine_eq]
    omega
  have kk : ∀ b u, s.heap.get? b = some u → (sortedHeap (s1.heap.push (seqObj "list" vs.toArray 0)) s1.heap.objs.size vs out.toArray).get? b = some u := fun b u e => by
    have z := k1 b u e
    have hlt := Heap.lt_size z
    rw [sortedHeap_old (Nat.ne_of_lt hlt) (by rw [size_push']; exact Nat.lt_succ_of_lt hlt)]
    exact Heap.get?_push_of_some _ z
  have J : Inv X pins σ (upd H s1.heap.objs.size (.lst (L1.map fun q => V.ref q.1))) { s with heap := sortedHeap (s1.heap.push (seqObj "list" vs.toArray 0)) s1.heap.objs.size vs out.toArray, gens := s1.gens, drawn := s1.drawn, toks := s1.toks } :=
    I.call (ch := []) (Un.laid kk hz hn) (I.hok.laid kk hz ⟨hlen, out, c, v1, hcc⟩) (by rw [g1]; exact I.bare) (fun _ z => nomatch z)
  refine wpAny_pure ⟨_, rfl, ?_⟩
  have e : ({ s1 with heap := sortedHeap (s1.heap.push (seqObj "list" vs.toArray 0)) s1.heap.objs.size vs out.toArray } : Shared) = { s with heap := sortedHeap (s1.heap.push (seqObj "list" vs.toArray 0)) s1.heap.objs.size vs out.toArray, gens := s1.gens, drawn := s1.drawn, toks := s1.toks } := by
    cases s1
    cases s
    cases o1
    rfl
  show EP X pins σ Q _ ({ s1 with heap := sortedHeap (s1.heap.push (seqObj "list" vs.toArray 0)) s1.heap.objs.size vs out.toArray } : Shared)
  rw [e]
  exact ⟨.ref s1.heap.objs.size, _, J, rfl, q L1 _ hs1 ek hn⟩
end
end G39

/-! tuples without a dict of their own; dict(tuple) -/
namespace G39
open PySem PySem.Spec PyProof.Rows L2 Evl
/-- a tuple, to the last part of its object -/
def TupE (a : Addr) (its : List Value) : HO := .ext fun h => ∃ n, h.get? a = some { cls := .type "tuple", dict := none, data := .seq its.toArray n, slots := #[] }
theorem tupE_ok {P : Program} {w : World} {H : Hp} {h : Heap} {a : Addr} {its : List Value} {n : Nat} (e : h.get? a = some { cls := .type "tuple", dict := none, data := .seq its.toArray n, slots := #[] }) : ObjOk P w H h a (TupE a its) :=
  ⟨⟨n, e⟩, ⟨_, e⟩, fun h1 h2 ⟨m, z⟩ k => ⟨m, k _ z⟩⟩
/-- a tuple of tuples of texts -/
def ElP (K : PySem.W.Frag) (H : Hp) (b : Addr) (k : List (List Str)) : Prop := ∃ cs : List Addr, H b = some (TupE b (cs.map Value.ref)) ∧ All2 (fun c (z : List Str) => SqT K H c (z.map V.str)) cs k
theorem all2_inv {X : Cx} {pins : List (Addr × Obj)} {σ : L2.St} {H : Hp} {s : Shared} (I : Inv X pins σ H s) : ∀ {cs : List Addr} {k : List (List Str)}, All2 (fun c (z : List Str) => SqT X.K H c (z.map V.str)) cs k → All2 ((tupC strC).is s.heap) k (cs.map Value.ref)
  | _, _, .nil => .nil
  | _, _, .cons a b => .cons ((iso_tup (P := X.prog) (w := X.w) iso_str).of (inv_is I a)) (all2_inv I b)
theorem elP_B {K : PySem.W.Frag} : ElB K (tupC (tupC strC)) (ElP K) := ⟨fun {X pins σ H s b k} I hK h => by
  subst hK
  obtain ⟨cs, hb, al⟩ := h
  obtain ⟨n, e⟩ := (I.hok b _ hb).1
  exact ⟨b, _, _, n, rfl, e, rfl, rfl, by rw [List.toList_toArray]; exact all2_inv I al⟩⟩
section
variable {X : Cx} {K : PySem.W.Frag}
/-- tuple(list of refs) -/
def rTupE (K : PySem.W.Frag) : List V → Hp → VK → Prop := fun xs H Q => ∃ (p : Addr) (cs : List Addr), xs = [.ref p] ∧ SqL K H p (cs.map V.ref) ∧ ∀ l, H l = none → Q (.ref l) (upd H l (TupE l (cs.map Value.ref)))
theorem call_tupE (hK : X.K = K) : CallR X (.type "tuple") (rTupE K) := by
  subst hK
  intro pins s σ H xs us Q I r h
  obtain ⟨p, cs, rfl, hq, q⟩ := h
  obtain ⟨u, rfl, rx⟩ := vals1 r
  cases rx
  obtain ⟨its, r', pl, hz⟩ := I.list hq
  have ei := refs_at r'
  subst ei
  have hlen := r'.length
  refine call_tuple_list pl.isList (fun h' kp => ?_) (by simp only [List.size_toArray] <;> omega)
  have I1 : Inv X pins σ H { s with heap := h' } := I.kept (t' := s.toks) kp
  have I2 : Inv X pins σ (upd H h'.objs.size (TupE h'.objs.size (cs.map Value.ref))) { s with heap := h'.push { cls := .type "tuple", data := .seq (cs.map Value.ref).toArray } } :=
    I1.laid (t' := s.toks) (fun b o e => Heap.get?_push_of_some _ e) (Nat.le_refl _) (tupE_ok (n := 0) (Heap.get?_push_size _ rfl))
  exact ⟨.ref h'.objs.size, _, I2, rfl, q _ (I1.hok.fresh (Nat.le_refl _))⟩
theorem pairsE {pins : List (Addr × Obj)} {σ : L2.St} {H : Hp} {s : Shared} (I : Inv X pins σ H s) : ∀ {ps : List Addr} {kvs : List (Key × V)}, Paired (fun p kv => SqT X.K H p [kV kv.1, kv.2]) ps kvs →
    ∃ (vs : List (Value × Value)) (prs : List (Key × Value)), KV kvs prs ∧ vs.length = ps.length ∧ prs.length = ps.length ∧ ∀ (j : Nat) (k v : Value), vs[j]? = some (k, v) → (∃ b, ps[j]? = some b ∧ s.heap.IsTuple b #[k, v]) ∧ ∃ key, prs[j]? = some (key, v) ∧ (mixKind X.prog X.w).is key k = true
  | _, _, .nil => ⟨[], [], .nil, rfl, rfl, fun j k v e => by simp at e⟩
  | _, _, .cons (a := p) (b := kv) h t => by
    obtain ⟨vs, prs, r, h1, h2, hp⟩ := pairsE I t
    obtain ⟨its, rv, ht, _⟩ := I.tuple h
    obtain ⟨u, y, ei, ru, ry⟩ := vals2 rv
    subst ei
    refine ⟨(u, y) :: vs, (kv.1, y) :: prs, .cons ⟨rfl, ry⟩ r, by rw [List.length_cons, List.length_cons, h1], by rw [List.length_cons, List.length_cons, h2], fun j k v e => ?_⟩
    cases j with
    | zero =>
      have e' : (u, y) = (k, v) := Option.some.inj e
      cases e'
      exact ⟨⟨p, rfl, ht⟩, kv.1, rfl, kV_is ru⟩
    | succ j =>
      obtain ⟨⟨b, e1, e2⟩, key, e3, e4⟩ := hp j k v (by simpa using e)
      exact ⟨⟨b, by simpa using e1, e2⟩, key, by simpa using e3, e4⟩
/-- dict(tuple of pairs) -/
def rDictE (K : PySem.W.Frag) : List V → Hp → VK → Prop := fun xs H Q => ∃ (b : Addr) (ps : List Addr) (kvs : List (Key × V)), xs = [.ref b] ∧ H b = some (TupE b (ps.map Value.ref)) ∧ Paired (fun p kv => SqT K H p [kV kv.1, kv.2]) ps kvs ∧ ps.length ≤ 100000 ∧ ∀ p, H p = none → Q (.ref p) (upd H p (.dK (mergeK [] kvs)))
theorem call_dictE (hK : X.K = K) (hcalm : X.calm = true) : CallR X (.type "dict") (rDictE K) := by
  subst hK
  intro pins s σ H xs us Q I r h
  obtain ⟨b, ps, kvs, rfl, hb, hp, hz, q⟩ := h
  obtain ⟨u, rfl, rx⟩ := vals1 r
  cases rx
  obtain ⟨n, eb⟩ := (I.hok b _ hb).1
  obtain ⟨vs, prs, rel, l1, l2, hpr⟩ := pairsE I hp
  have hzl : vs.length ≤ sizeLine := by rw [l1, sizeLine_eq]; omega
  refine PySem.call_dict_pairs (knd := mixKind X.prog X.w) (kvs := prs) (PairArg.tuple b (ps.map Value.ref).toArray (fun j => ps.getD j 0) vs) (I.ok.hd hcalm) ⟨⟨_, n, eb, rfl, rfl, rfl⟩, ?_, ?_⟩ ⟨by omega, ?_⟩ hzl fun h' tk hd' k => ?_
  · simp [l1]
  · intro j k v e
    obtain ⟨⟨c, e1, e2⟩, _⟩ := hpr j k v e
    have e3 : ps.getD j 0 = c := by simp [List.getD_eq_getElem?_getD, e1]
    refine ⟨?_, ?_⟩
    · simp [e1]
    · show PairAt s.heap (ps.getD j 0) k v
      rw [e3]
      exact .inl e2
  · intro j k v e
    exact (hpr j k v e).2
  · have hm : (s.heap.objs.size == sysModules) = false := beq_eq_false_iff_ne.mpr (Nat.ne_of_gt I.big)
    have hlen : (mergeK [] kvs).length ≤ sizeLine := by
      refine Nat.le_trans (length_mergeK kvs []) ?_
      rw [List.length_nil, Nat.zero_add, rel.length, l2, sizeLine_eq]
      omega
    exact ⟨.ref s.heap.objs.size, upd H s.heap.objs.size (.dK (mergeK [] kvs)), I.laid (t' := tk) (fun c o e => k c o (by simp) e) (Nat.le_refl _) (show ObjOk X.prog X.w _ _ _ (.dK (mergeK [] kvs)) from ⟨hlen, hm, merged [] prs, KV.merge rel .nil, hd'⟩), rfl, q _ (I.hok.fresh (Nat.le_refl _))⟩
end
end G39

/-! [dict(key) for key in sorted({tuple(pairs) for ..})]: a new list of new dicts -/
namespace G39
open PySem PySem.Spec PyProof.Rows L2 Evl
abbrev PPs := List (List Str)
theorem refs_of {K : PySem.W.Frag} {F : Hp} : ∀ {xs : List V} {k : PPs}, Rps K F xs (k.map tupD) → ∃ cs : List Addr, xs = cs.map V.ref
  | _, [], r => by
    cases r
    exact ⟨[], rfl⟩
  | _, z :: k, r => by
    rw [List.map_cons] at r
    cases r with
    | cons r t =>
      obtain ⟨cs, rfl⟩ := refs_of t
      obtain ⟨a, xs, e, _⟩ := Bw.tup (so := none) (H := F) (.inl r) (fun _ _ z => .inl z)
      exact ⟨a :: cs, by rw [e]; rfl⟩
theorem all2_rps {K : PySem.W.Frag} {F H : Hp} (sb : Sub F H) : ∀ {cs : List Addr} {k : PPs}, Rps K F (cs.map V.ref) (k.map tupD) → All2 (fun c (z : List Str) => SqT K H c (z.map V.str)) cs k
  | [], [], _ => .nil
  | [], _ :: _, r => by cases r
  | _ :: _, [], r => by cases r
  | c :: cs, z :: k, r => by
    rw [List.map_cons, List.map_cons] at r
    cases r with
    | cons r t =>
      obtain ⟨a, xs, e, h, rs⟩ := Bw.tup (so := none) (H := H) (.inl r) sb
      cases e
      have : xs = z.map V.str := rs.fl (flDs_strs z)
      rw [this] at h
      exact .cons h (all2_rps sb t)
/-- an element, its items held by N -/
def ElN (K : PySem.W.Frag) (so : Option Addr) (N H : Hp) (p : Addr × PPs) : Prop := ∃ cs : List Addr, H p.1 = some (TupE p.1 (cs.map Value.ref)) ∧ so ≠ some p.1 ∧ Rps K N (cs.map V.ref) (p.2.map tupD)
theorem ElN.step {K : PySem.W.Frag} {so : Option Addr} {N H N' H' : Hp} {p : Addr × PPs} (h : ElN K so N H p) (s : Step so N H N' H') : ElN K so N' H' p := by
  obtain ⟨cs, h1, h2, h3⟩ := h
  exact ⟨cs, s.keep _ _ h2 h1, h2, h3.mono s.ex⟩
theorem ElN.upd {K : PySem.W.Frag} {so : Option Addr} {N H : Hp} {p : Addr × PPs} (h : ElN K so N H p) {a : Addr} {u : HO} (ha : p.1 ≠ a) : ElN K so N (upd H a u) p := by
  obtain ⟨cs, h1, h2, h3⟩ := h
  exact ⟨cs, by rw [upd_ne ha]; exact h1, h2, h3⟩
theorem ElN.el {K : PySem.W.Frag} {so : Option Addr} {N H : Hp} {p : Addr × PPs} (h : ElN K so N H p) (sb : Sub N H) : ElP K H p.1 p.2 := by
  obtain ⟨cs, h1, h2, h3⟩ := h
  exact ⟨cs, h1, all2_rps sb h3⟩
theorem ElN.at {K : PySem.W.Frag} {so : Option Addr} {N H : Hp} {p : Addr × PPs} (h : ElN K so N H p) : H p.1 ≠ none := by
  obtain ⟨cs, h1, _⟩ := h
  rw [h1]
  simp
section
variable {K : PySem.W.Frag} {W : WX'} {P : Program} {w : World} {te : TE} {pe : PEx}
def colE (f : D → Nat → (Option D → Nat → Prop) → Prop) : List D → List PPs → Nat → (List PPs → Nat → Prop) → Prop
  | [], acc, n, q => q acc n
  | e :: ds, acc, n, q => f e n fun o n1 => match o with
    | none => colE f ds acc n1 q
    | some z => ∃ k : PPs, z = .lst (k.map tupD) ∧ (onceP (acc ++ [k])).length < 76 ∧ colE f ds (acc ++ [k]) n1 q
theorem colE_of {α : Type} {n : Nat} {f : D → Nat → (Option D → Nat → Prop) → Prop} {v : α → D} {g : α → PPs} : ∀ {l : List α} {acc : List PPs} {q : List PPs → Nat → Prop}, (∀ a ∈ l, ∀ k : Option D → Nat → Prop, k (some (.lst ((g a).map tupD))) n → f (v a) n k) → (onceP (acc ++ l.map g)).length < 76 → q (acc ++ l.map g) n → colE f (l.map v) acc n q
  | [], acc, q, _, _, hq => by simpa [colE] using hq
  | a :: l, acc, q, h, h76, hq => by
    rw [List.map_cons]
    unfold colE
    refine h a (List.mem_cons_self ..) _ ⟨g a, rfl, ?_, ?_⟩
    · refine Nat.lt_of_le_of_lt (nodup_sub (once_nodup _) fun z hz => ?_) h76
      have := mem_once.mp hz
      refine mem_once.mpr ?_
      rcases List.mem_append.mp this with z | z
      · exact List.mem_append_left _ z
      · rw [List.mem_singleton.mp z]
        simp
    · have e : acc ++ (a :: l).map g = (acc ++ [g a]) ++ l.map g := by simp
      rw [e] at h76 hq
      exact colE_of (l := l) (fun b hb => h b (List.mem_cons_of_mem _ hb)) h76 hq
def ltQ : PPs → PPs → Bool := ltL (ltL ltT)
theorem tot_Q : Tot' ltQ := tot_L (tot_L tot_T)
/-- sorted({tuple(e) for ..}) -/
theorem su_sortE {wi : TI} {pi : PIx} {js vs : List Nat} {g : L2.TG} {pg : PGx} {tt : TT} {pt : PTx} (hi : SimI K W wi pi) (hg : SimG K js g pg) (hj : ∀ j ∈ js, j ∈ vs) (ht : SimT K WF tt pt) (he : SimE K WF te pe)
    (so : Option Addr) (F H : Hp) (σ : L2.St) (ρ : List PV) (n : Nat) (q : List PPs → Nat → Prop) (x : PX) (Q : VK) (e : En K so F H σ ρ n)
    (p : pi ρ n (fun ds n1 => ds.length ≤ 40000 ∧ colE (elP pg pt pe (wipeP ρ vs)) ds [] n1 fun ks n2 => q (srtK ltQ (onceP ks)) n2) x) (xo : XOk K W so F H σ x)
    (k : ∀ (L : List (Addr × PPs)) (pp : Addr) (N H' : Hp) (n' : Nat), Step so F H N H' → SrcN so H' n' → H pp = none → N pp = none → so ≠ some pp → H' pp = some (.lst (L.map fun z => V.ref z.1)) → (∀ z ∈ L, ElN K so N H' z) → q (L.map (·.2)) n' → Q (.ref pp) H') :
    tCB (rSortSE (tupC (tupC strC)) (ElP K) (ppH P w)) (tCons (tSg (fun D => SetKO (ppH P w) D []) (addE (ElP K) (ppH P w)) wi g tt (tCB (rTupE K) (tCons te tNil)) vs) tNil) σ H Q :=
  hi so F H σ ρ n _ x _ e p xo fun J ds G N1 H1 n1 s1 c1 w1 gk p1 Dl hD => by
  have nD := s1.sub.nil hD
  have sD := c1.ne hD
  refine ⟨fun i m Hc => m = ds.length - i ∧ i ≤ ds.length ∧ ∃ N n' L acc, Step so N1 H1 N Hc ∧ SrcN so Hc n' ∧ N Dl = none ∧ Hc Dl = some (SetKO (ppH P w) Dl L) ∧ (L.map (·.2)).Perm (onceP acc) ∧ (∀ p ∈ L, ElN K so N Hc p ∧ p.1 ≠ Dl) ∧ (onceP acc).length < 76 ∧ colE (elP pg pt pe (wipeP ρ vs)) (ds.drop i) acc n' fun ks n2 => q (srtK ltQ (onceP ks)) n2,
    ⟨ds.length, by simp, Nat.zero_le _, N1, n1, [], [], (Step.refl s1.sub).beside' hD nD, c1.beside sD, nD, upd_same, .refl _, (fun _ z => by cases z), by simp [onceP], p1.2⟩, ?_⟩
  rintro i m Hc ⟨rfl, hle, N, n', L, acc, h1, h2, h3, h4, h5, hL, h76, h6⟩
  by_cases hlt : i < ds.length
  · refine .inr ⟨w1.goes i Hc hlt (gk Hc h1.keep), fun H' => ∃ N n' L acc, Step so N1 H1 N H' ∧ SrcN so H' n' ∧ N Dl = none ∧ H' Dl = some (SetKO (ppH P w) Dl L) ∧ (L.map (·.2)).Perm (onceP acc) ∧ (∀ p ∈ L, ElN K so N H' p ∧ p.1 ≠ Dl) ∧ (onceP acc).length < 76 ∧ colE (elP pg pt pe (wipeP ρ vs)) (ds.drop (i + 1)) acc n' fun ks n2 => q (srtK ltQ (onceP ks)) n2,
      fun H' z => ⟨ds.length - (i + 1), by omega, rfl, hlt, z⟩, fun x H2 y => ?_⟩
    obtain ⟨e0, hd, ed⟩ := drop_at hlt
    rw [ed] at h6
    obtain ⟨N2, s2', r2⟩ := w1.yields i Hc x H2 N e0 hd (gk Hc h1.keep) h1.ex h1.sub y
    have s2 : Step so N Hc N2 H2 := s2'.any
    have c2 : SrcN so H2 n' := s2'.srcN h2
    have t2 := h1.trans s2 c1 h2
    have d2 : H2 Dl = some (SetKO (ppH P w) Dl L) := s2.keep Dl _ sD h4
    have n2 : N2 Dl = none := by rw [s2.new Dl (by rw [h4]; exact fun q => by cases q)]; exact h3
    have e2 := (e.step (s1.trans t2 e.src c1) c2).wipe vs
    refine hg so N2 H2 x e0 _ _ n' _ _ e2 r2 h6 fun σ2 ρ2 e3 o3 p3 => ⟨wipe_off o3 hj, ht so N2 H2 σ2 ρ2 n' _ noX _ e3 p3 xo_no fun b N3 H3 n3 s3 c3 p4 => ?_⟩
    have t3 := t2.trans s3 c1 c2
    have d3 : H3 Dl = some (SetKO (ppH P w) Dl L) := s3.keep Dl _ sD d2
    have n3' : N3 Dl = none := by rw [s3.new Dl (by rw [d2]; exact fun q => by cases q)]; exact n2
    cases b with
    | true =>
      rw [if_pos rfl] at p4 ⊢
      refine he so N3 H3 σ2 ρ2 n3 _ noX _ (e3.step s3 c3) p4 xo_no fun v dv N4 H4 n4 s4 c4 r4 p5 => ?_
      have t4 := t3.trans s4 c1 c3
      have d4 : H4 Dl = some (SetKO (ppH P w) Dl L) := s4.keep Dl _ sD d3
      have n4' : N4 Dl = none := by rw [s4.new Dl (by rw [d3]; exact fun q => by cases q)]; exact n3'
      obtain ⟨kk, rfl, hfew, p5⟩ := p5
      obtain ⟨pl, xs, ev, hl4, rx⟩ := Bw.lst (so := so) (H := H4) (.inl r4) s4.sub
      obtain ⟨cs, rfl⟩ := refs_of rx
      refine ⟨pl, cs, by rw [ev], sq_of hl4, fun b hb => ?_⟩
      have Nb := s4.sub.nil hb
      have sb4 := c4.ne hb
      have bD : Dl ≠ b := fun z => by rw [← z, d4] at hb; cases hb
      have t5 : Step so N1 H1 N4 (upd H4 b (TupE b (cs.map Value.ref))) := t4.beside' (by
        cases hz : H1 b with
        | none => rfl
        | some o => exact absurd (t4.keep b o sb4 hz) (by rw [hb]; simp)) Nb
      have hL4 : ∀ p ∈ L, ElN K so N4 (upd H4 b (TupE b (cs.map Value.ref))) p ∧ p.1 ≠ Dl := fun p hp => by
        have z := (((hL p hp).1.step s2).step s3).step s4
        exact ⟨z.upd fun e => z.at (by rw [e]; exact hb), (hL p hp).2⟩
      have hE : ElN K so N4 (upd H4 b (TupE b (cs.map Value.ref))) (b, kk) := ⟨cs, upd_same, sb4, rx⟩
      have lenL : L.length = (onceP acc).length := by rw [← List.length_map (f := (·.2)), h5.length_eq]
      have d5 : upd H4 b (TupE b (cs.map Value.ref)) Dl = some (SetKO (ppH P w) Dl L) := by rw [upd_ne bD]; exact d4
      refine ⟨b, kk, L, rfl, hE.el t5.sub, fun p hp => (hL4 p hp).1.el t5.sub, d5, by omega, fun L' q1 q2 => ⟨N4, n4, L', acc ++ [kk], t5.beside' hD n4', (c4.beside sb4).beside sD, n4', upd_same, once_add h5 q1 q2, fun p hp => ?_, hfew, p5⟩⟩
      have hp' : ElN K so N4 (upd H4 b (TupE b (cs.map Value.ref))) p ∧ p.1 ≠ Dl := by
        by_cases c : kk ∈ L.map (·.2)
        · rw [q1 c] at hp
          exact hL4 p hp
        · rcases List.mem_cons.mp ((q2 c).mem_iff.mp hp) with rfl | hp
          · exact ⟨hE, Ne.symm bD⟩
          · exact hL4 p hp
      exact ⟨hp'.1.upd hp'.2, hp'.2⟩
    | false =>
      rw [if_neg Bool.false_ne_true] at p4 ⊢
      exact ⟨N3, n3, L, acc, t3, c3, n3', d3, h5, fun p hp => ⟨((hL p hp).1.step s2).step s3, (hL p hp).2⟩, h76, p4⟩
  · have ei : i = ds.length := by omega
    subst ei
    rw [List.drop_of_length_le (Nat.le_refl _)] at h6
    have h6 : q (srtK ltQ (onceP acc)) n' := h6
    refine .inl ⟨w1.stops Hc (gk Hc h1.keep), Dl, L, rfl, h4, fun p hp => (hL p hp).1.el h1.sub, fun L' pp hm hk hn => ?_⟩
    have es : srtK ltQ (L.map (·.2)) = srtK ltQ (onceP acc) := srtK_eq tot_Q ((srtK_perm _ _).trans h5) (srtK_pw tot_Q _)
    have hk : L'.map (·.2) = srtK ltQ (L.map (·.2)) := hk
    have Np := h1.sub.nil hn
    have sp := h2.ne hn
    have t1 := s1.trans h1 e.src c1
    refine k L' pp N _ n' (t1.beside' ?_ Np) (h2.beside sp) ?_ Np sp upd_same (fun z hz => ?_) (by rw [hk, es]; exact h6)
    · cases hz : H pp with
      | none => rfl
      | some o => exact absurd (t1.keep pp o sp hz) (by rw [hn]; simp)
    · cases hz : H pp with
      | none => rfl
      | some o => exact absurd (t1.keep pp o sp hz) (by rw [hn]; simp)
    · have z1 := (hL z (hm z hz)).1
      exact z1.upd fun e => z1.at (by rw [e]; exact hn)
end
end G39

/-! a new list of new dicts -/
namespace G39
open PySem PySem.Spec PyProof.Rows L2 Evl
def prKV : List Str → Key × V
  | [a, b] => (.inr a, .str b)
  | _ => (.inl 0, .non)
def prKD : List Str → Key × D
  | [a, b] => (.inr a, .str b)
  | _ => (.inl 0, .non)
def kvOf (z : PPs) : List (Key × V) := mergeK [] (z.map prKV)
def kdOf (z : PPs) : List (Key × D) := mergeD [] (z.map prKD)
section
variable {K : PySem.W.Frag}
theorem prs_rel {N : Hp} : ∀ (z : PPs), (z.map prKV).map Prod.fst = (z.map prKD).map Prod.fst ∧ Rps K N ((z.map prKV).map Prod.snd) ((z.map prKD).map Prod.snd)
  | [] => ⟨rfl, .nil⟩
  | y :: z => by
    obtain ⟨h1, h2⟩ := prs_rel z
    rw [List.map_cons, List.map_cons, List.map_cons, List.map_cons, List.map_cons, List.map_cons]
    have hy : (prKV y).1 = (prKD y).1 ∧ Rp K N (prKV y).2 (prKD y).2 := by
      unfold prKV prKD
      split
      · exact ⟨rfl, .str _⟩
      · exact ⟨rfl, .non⟩
    exact ⟨by rw [h1, hy.1], .cons hy.2 h2⟩
theorem ro_kv {N : Hp} (z : PPs) : Ro K N (.dK (kvOf z)) (.dic (kdOf z)) := by
  obtain ⟨h1, h2⟩ := prs_rel (K := K) (N := N) z
  obtain ⟨g1, g2⟩ := Rps.merge (kvs0 := []) (l := []) h1 h2 rfl .nil
  exact .dic g1 g2
theorem paired_of {H : Hp} : ∀ {cs : List Addr} {z : PPs}, All2 (fun c (y : List Str) => SqT K H c (y.map V.str)) cs z → (∀ y ∈ z, y.length = 2) → Paired (fun p kv => SqT K H p [kV kv.1, kv.2]) cs (z.map prKV)
  | _, _, .nil, _ => .nil
  | _, y :: z, .cons a b, h => by
    have hy := h y (List.mem_cons_self ..)
    match y, hy with
    | [u, v], _ => exact .cons a (paired_of b fun q hq => h q (List.mem_cons_of_mem _ hq))
theorem all2_snoc {α β : Type} {R : α → β → Prop} : ∀ {xs : List α} {ys : List β} {x : α} {y : β}, All2 R xs ys → R x y → All2 R (xs ++ [x]) (ys ++ [y])
  | _, _, _, _, .nil, r => .cons r .nil
  | _, _, _, _, .cons a b, r => .cons a (all2_snoc b r)
/-- [dict(key) for key in keys] -/
theorem su_dicts {so : Option Addr} {N H : Hp} {pp : Addr} {L : List (Addr × PPs)} {i j : Nat} {σ : L2.St} {Q : VK} (hσ : σ[i]? = some (some (.ref pp))) (hij : j ≠ i) (hj : j < σ.length) (hpp : H pp = some (.lst (L.map fun z => V.ref z.1))) (sb : Sub N H)
    (hL : ∀ z ∈ L, ElN K so N H z) (h2 : ∀ z ∈ L, ∀ y ∈ z.2, y.length = 2) (hlen : L.length ≤ 10000) (h3 : ∀ z ∈ L, z.2.length ≤ 10000)
    (k : ∀ (ps : List Addr) (Dl : Addr) (H' : Hp), (∀ a o, H a = some o → H' a = some o) → H Dl = none → (∀ x ∈ ps, H x = none) → (Dl :: ps).Nodup → H' Dl = some (.lst (ps.map V.ref)) → All2 (fun x z => H' x = some (.dK (kvOf z))) ps (L.map (·.2)) → Q (.ref Dl) H') :
    tLc (iList K (tVar i)) (gName j) tYes (tCB (rDictE K) (tCons (tVar j) tNil)) [j] σ H Q := by
  refine ⟨.ref pp, hσ, pp, rfl, ⟨_, sq_of hpp⟩, fun Dl hD => ?_⟩
  refine ⟨fun m' m Hc => m = L.length - m' ∧ m' ≤ L.length ∧ ∃ ps : List Addr, ps.length = m' ∧ (∀ a o, H a = some o → Hc a = some o) ∧ (∀ x ∈ ps, H x = none) ∧ (Dl :: ps).Nodup ∧ Hc Dl = some (.lst (ps.map V.ref)) ∧ All2 (fun x z => Hc x = some (.dK (kvOf z))) ps ((L.map (·.2)).take m'),
    ⟨L.length, by simp, Nat.zero_le _, [], rfl, fun a o h => by rw [upd_ne (fun z => by rw [z, hD] at h; cases h)]; exact h, (fun _ z => by cases z), by simp, upd_same, .nil⟩, ?_⟩
  rintro m' m Hc ⟨rfl, hle, ps, hl, kp, hn, nd, hd, al⟩
  have hpc : Hc pp = some (.lst (L.map fun z => V.ref z.1)) := kp _ _ hpp
  by_cases hlt : m' < L.length
  · refine .inr ⟨⟨_, _, sq_of hpc, by rw [List.getElem?_map, List.getElem?_eq_getElem hlt]; rfl⟩, fun H' => ∃ ps : List Addr, ps.length = m' + 1 ∧ (∀ a o, H a = some o → H' a = some o) ∧ (∀ x ∈ ps, H x = none) ∧ (Dl :: ps).Nodup ∧ H' Dl = some (.lst (ps.map V.ref)) ∧ All2 (fun x z => H' x = some (.dK (kvOf z))) ps ((L.map (·.2)).take (m' + 1)),
      fun H' z => ⟨L.length - (m' + 1), by omega, rfl, hlt, z⟩, ?_⟩
    rintro x H2 ⟨rfl, hy⟩
    have hx := hy _ (sq_of hpc)
    rw [List.getElem?_map, List.getElem?_eq_getElem hlt] at hx
    cases hx
    have zm : L[m'] ∈ L := List.getElem_mem _
    obtain ⟨cs, g1, g2, g3⟩ := hL _ zm
    have sbc : Sub N H2 := fun a u e => by
      rcases sb a u e with z | ⟨z, o, z2⟩
      · exact .inl (kp _ _ z)
      · exact .inr ⟨z, o, kp _ _ z2⟩
    have wl : (wipe σ [j]).length = σ.length := wipe_length σ [j]
    refine ⟨?_, ?_⟩
    · simp [wipe, List.set_set]
    · show tCB (rDictE K) (tCons (tVar j) tNil) _ H2 _
      refine ⟨_, by rw [List.getElem?_set_self (by rw [wl]; exact hj)], ?_⟩
      refine ⟨L[m'].1, cs, L[m'].2.map prKV, rfl, kp _ _ g1, paired_of (all2_rps sbc g3) (h2 _ zm), ?_, fun q hq => ?_⟩
      · have e1 := g3.len
        rw [List.length_map, List.length_map] at e1
        have := h3 _ zm
        omega
      · have qD : Dl ≠ q := fun z => by rw [← z, hd] at hq; cases hq
        have hqH : H q = none := by
          cases e : H q with
          | none => rfl
          | some o => rw [kp _ _ e] at hq; cases hq
        have qp : q ∉ ps := fun z => by
          obtain ⟨y, _, hy⟩ : ∃ y ∈ (L.map (·.2)).take m', H2 q = some (.dK (kvOf y)) := by
            have : ∀ {xs : List Addr} {ys : List PPs}, All2 (fun x z => H2 x = some (.dK (kvOf z))) xs ys → ∀ x ∈ xs, ∃ y ∈ ys, H2 x = some (.dK (kvOf y)) := by
              intro xs ys h
              induction h with
              | nil => intro x hx; cases hx
              | cons r t ih =>
                intro x hx
                rcases List.mem_cons.mp hx with rfl | hx
                · exact ⟨_, List.mem_cons_self .., r⟩
                · obtain ⟨y, h1, h2⟩ := ih x hx
                  exact ⟨y, List.mem_cons_of_mem _ h1, h2⟩
            exact this al q z
          rw [hq] at hy
          cases hy
        refine ⟨ps.map V.ref, by rw [upd_ne qD]; exact hd, by rw [List.length_map, hl, sizeLine_eq]; omega, ps ++ [q], by simp [hl], fun a o h => ?_, fun x hx => ?_, ?_, ?_, ?_⟩
        · have aD : a ≠ Dl := fun z => by rw [z, hD] at h; cases h
          have aq : a ≠ q := fun z => by rw [z, hqH] at h; cases h
          rw [upd_ne aD, upd_ne aq]
          exact kp _ _ h
        · rcases List.mem_append.mp hx with hx | hx
          · exact hn x hx
          · rw [List.mem_singleton.mp hx]
            exact hqH
        · have nd' := List.nodup_cons.mp nd
          refine List.nodup_cons.mpr ⟨fun z => ?_, List.nodup_append.mpr ⟨nd'.2, by simp, fun a ha b hb e => ?_⟩⟩
          · rcases List.mem_append.mp z with z | z
            · exact nd'.1 z
            · exact qD (List.mem_singleton.mp z)
          · rw [List.mem_singleton.mp hb] at e
            exact qp (e ▸ ha)
        · rw [upd_same, List.map_append]
          rfl
        · have e1 : (L.map (·.2)).take (m' + 1) = (L.map (·.2)).take m' ++ [L[m'].2] := by
            rw [List.take_add_one, List.getElem?_map, List.getElem?_eq_getElem hlt]
            rfl
          rw [e1]
          refine all2_snoc ?_ ?_
          · have nd' := List.nodup_cons.mp nd
            have : ∀ {xs : List Addr} {ys : List PPs}, (∀ x ∈ xs, x ∈ ps) → All2 (fun x z => H2 x = some (.dK (kvOf z))) xs ys → All2 (fun x z => upd (upd H2 q (.dK (mergeK [] (L[m'].2.map prKV)))) Dl (.lst (ps.map V.ref ++ [V.ref q])) x = some (.dK (kvOf z))) xs ys := by
              intro xs ys hm h
              induction h with
              | nil => exact .nil
              | @cons a b as bs r t ih =>
                have am := hm a (List.mem_cons_self ..)
                refine .cons ?_ (ih fun x hx => hm x (List.mem_cons_of_mem _ hx))
                rw [upd_ne (fun z : a = Dl => nd'.1 (z ▸ am)), upd_ne (fun z : a = q => qp (z ▸ am))]
                exact r
            exact this (fun _ h => h) al
          · rw [upd_ne (Ne.symm qD), upd_same]
            rfl
  · have em : m' = L.length := by omega
    subst em
    have e2 : (L.map (·.2)).take L.length = L.map (·.2) := List.take_of_length_le (by simp)
    rw [e2] at al
    exact .inl ⟨⟨_, sq_of hpc, by simp⟩, k ps Dl Hc kp hD hn nd hd al⟩
end
end G39

/-! promises of new objects; what is told and then changed -/
namespace G39
open PySem PySem.Spec PyProof.Rows L2 Evl
/-- a new list of new dicts -/
def KFF (K : PySem.W.Frag) (so : Option Addr) (F H : Hp) (q : D → Nat → Prop) (Q : VK) : Prop := ∀ (Dl : Addr) (ps : List Addr) (kvs : List (List (Key × V))) (ds : List D) (N H' : Hp) (n' : Nat), Step so F H N H' → SrcN so H' n' → H Dl = none → N Dl = none → so ≠ some Dl →
  (∀ x ∈ ps, H x = none ∧ N x = none ∧ so ≠ some x) → (Dl :: ps).Nodup → H' Dl = some (.lst (ps.map V.ref)) → All2 (fun x kv => H' x = some (.dK kv)) ps kvs → All2 (fun kv d => Ro K N (.dK kv) d) kvs ds → q (.lst ds) n' → Q (.ref Dl) H'
section
variable {K : PySem.W.Frag} {W : WX'} {so : Option Addr} {F H N H' : Hp} {q : D → Nat → Prop} {Q : VK}
theorem KE.f (k : KE K so F H q Q) : KF K so F H q Q := fun a u d N H' n' s k' h0 hn h1 hs r z => by
  have e1 : Ex N (upd N a u) := Ex.new hn
  refine k (.ref a) d (upd N a u) H' n' ⟨fun b o hb => ?_, s.ex.trans e1, s.keep, fun b hb => ?_⟩ k' (r.rp e1 upd_same) z
  · by_cases q : b = a
    · subst q
      rw [upd_same] at hb
      exact .inl (by rw [← hb]; exact h1)
    · rw [upd_ne q] at hb
      exact s.sub b o hb
  · rw [upd_ne fun z => hb (by rw [z]; exact h0)]
    exact s.new b hb
/-- N and what H holds at these -/
def also (N H : Hp) (ps : List Addr) : Hp := fun a => if a ∈ ps then H a else N a
theorem also_in {ps : List Addr} {a : Addr} (h : a ∈ ps) : also N H ps a = H a := if_pos h
theorem also_out {ps : List Addr} {a : Addr} (h : a ∉ ps) : also N H ps a = N a := if_neg h
theorem also_ex {ps : List Addr} (h : ∀ x ∈ ps, N x = none) : Ex N (also N H ps) := fun a o e => by
  rw [also_out fun z => by rw [h a z] at e; cases e]
  exact e
theorem rps_dicts {ps : List Addr} {M : Hp} (e : Ex N M) : ∀ {xs : List Addr} {kvs : List (List (Key × V))} {ds : List D}, All2 (fun x kv => M x = some (.dK kv)) xs kvs → All2 (fun kv d => Ro K N (.dK kv) d) kvs ds → Rps K M (xs.map V.ref) ds
  | _, _, _, .nil, .nil => .nil
  | _, _, _, .cons a b, .cons c d => .cons (c.rp e a) (rps_dicts (ps := ps) e b d)
theorem also_step {ps : List Addr} {n' : Nat} (s : Step so F H N H') (h : ∀ x ∈ ps, H x = none ∧ N x = none) : Step so F H (also N H' ps) H' :=
  ⟨fun a o e => by
    by_cases c : a ∈ ps
    · rw [also_in c] at e
      exact .inl e
    · rw [also_out c] at e
      exact s.sub a o e, s.ex.trans (also_ex fun x hx => (h x hx).2), s.keep, fun a ha => by
    rw [also_out fun c => ha (h a c).1]
    exact s.new a ha⟩
theorem all2_map {α β : Type} {R S : α → β → Prop} : ∀ {xs : List α} {ys : List β}, All2 R xs ys → (∀ x ∈ xs, ∀ y, R x y → S x y) → All2 S xs ys
  | _, _, .nil, _ => .nil
  | _, _, .cons a b, h => .cons (h _ (List.mem_cons_self ..) _ a) (all2_map b fun x hx => h x (List.mem_cons_of_mem _ hx))
theorem KE.ff (k : KE K so F H q Q) : KFF K so F H q Q := fun Dl ps kvs ds N H' n' s c hD nD sD hp nd hd a1 a2 z => by
  have hall : ∀ x ∈ Dl :: ps, H x = none ∧ N x = none := fun x hx => by
    rcases List.mem_cons.mp hx with rfl | hx
    · exact ⟨hD, nD⟩
    · exact ⟨(hp x hx).1, (hp x hx).2.1⟩
  have e1 : Ex N (also N H' (Dl :: ps)) := also_ex fun x hx => (hall x hx).2
  refine k (.ref Dl) (.lst ds) (also N H' (Dl :: ps)) H' n' (also_step (n' := n') s hall) c (.lst (by rw [also_in (List.mem_cons_self ..)]; exact hd) (rps_dicts (ps := ps) e1 ?_ a2)) z
  exact all2_map a1 fun x hx kv e => by rw [also_in (List.mem_cons_of_mem _ hx)]; exact e
/-- promises of a new object, of a new list of new dicts -/
def liftF (K : PySem.W.Frag) (psp : PSp) : Sp := fun vs H Q E => ∃ so F ps n q, Sub F H ∧ SrcN so H n ∧ (∀ sa, so = some sa → F sa = none) ∧ Ags K so F H vs ps ∧ psp ps n q noX ∧ KF K so F H q Q
def liftFF (K : PySem.W.Frag) (psp : PSp) : Sp := fun vs H Q E => ∃ so F ps n q, Sub F H ∧ SrcN so H n ∧ (∀ sa, so = some sa → F sa = none) ∧ Ags K so F H vs ps ∧ psp ps n q noX ∧ KFF K so F H q Q
/-- no exceptions are asked for -/
def NoXc (psp : PSp) : Prop := ∀ args n q x x', psp args n q x → psp args n q x'
theorem lift_F {psp : PSp} (hx : NoXc psp) {vs : List V} {E : XK} (h : lift K psp vs H Q E) : liftF K psp vs H Q E := by
  obtain ⟨so, F, ps, n, q, x, h1, h2, h3, h4, h5, h6, _⟩ := h
  exact ⟨so, F, ps, n, q, h1, h2, h3, h4, hx _ _ _ _ _ h5, KE.f h6⟩
theorem lift_FF {psp : PSp} (hx : NoXc psp) {vs : List V} {E : XK} (h : lift K psp vs H Q E) : liftFF K psp vs H Q E := by
  obtain ⟨so, F, ps, n, q, x, h1, h2, h3, h4, h5, h6, _⟩ := h
  exact ⟨so, F, ps, n, q, h1, h2, h3, h4, hx _ _ _ _ _ h5, KE.ff h6⟩
theorem liftF_len {psp : PSp} {k : Nat} (h : ∀ args n q x, psp args n q x → args.length = k) : ∀ vs H Q E, liftF K psp vs H Q E → vs.length = k := fun vs H Q E ⟨so, F, ps, n, q, _, _, _, ag, p, _⟩ => by
  rw [ag.len]
  exact h ps n q noX p
theorem liftFF_len {psp : PSp} {k : Nat} (h : ∀ args n q x, psp args n q x → args.length = k) : ∀ vs H Q E, liftFF K psp vs H Q E → vs.length = k := fun vs H Q E ⟨so, F, ps, n, q, _, _, _, ag, p, _⟩ => by
  rw [ag.len]
  exact h ps n q noX p
variable {ta : TA} {pa : PAx} {te : TE} {pe : PEx}
theorem sf_callF {psp : PSp} (h : SimA K W ta pa) : SimF K W (tCall (liftF K psp) [] E0 ta) (pCall0 psp pa) := fun so F H σ ρ n q x Q e p xo k =>
  h so F H σ ρ n _ x _ e p xo fun vs ps N H1 n1 s1 c1 a1 p1 => by
    show liftF K psp (vs ++ []) H1 Q E0
    rw [List.append_nil]
    exact ⟨so, N, ps, n1, q, s1.sub, c1, (e.step s1 c1).nsr, a1, p1, KF.step k s1 e.src c1⟩
/-- a new list of new dicts -/
def SimFF (K : PySem.W.Frag) (W : WX') (te : TE) (pe : PEx) : Prop := ∀ so F H σ ρ n q x (Q : VK), En K so F H σ ρ n → pe ρ n q x → XOk K W so F H σ x → KFF K so F H q Q → te σ H Q
theorem live_of {n : Nat} (s : Step so F H N H') (c : SrcN so H' n) {a : Addr} (h : H' a = none) : H a = none := by
  cases e : H a with
  | none => rfl
  | some o =>
    by_cases z : so = some a
    · obtain ⟨_, _, _, h1, _⟩ := c a z
      rw [h1] at h
      cases h
    · rw [s.keep a o z e] at h
      cases h
theorem KFF.step {n n1 : Nat} (k : KFF K so F H q Q) (s : Step so F H N H') (c : SrcN so H n) (c1 : SrcN so H' n1) : KFF K so N H' q Q := fun Dl ps kvs ds M H2 n' s2 c2 hD nD sD hp nd hd a1 a2 z =>
  k Dl ps kvs ds M H2 n' (s.trans s2 c c1) c2 (live_of s c1 hD) nD sD (fun x hx => ⟨live_of s c1 (hp x hx).1, (hp x hx).2⟩) nd hd a1 a2 z
theorem sff_call {psp : PSp} (h : SimA K W ta pa) : SimFF K W (tCall (liftFF K psp) [] E0 ta) (pCall0 psp pa) := fun so F H σ ρ n q x Q e p xo k =>
  h so F H σ ρ n _ x _ e p xo fun vs ps N H1 n1 s1 c1 a1 p1 => by
    show liftFF K psp (vs ++ []) H1 Q E0
    rw [List.append_nil]
    exact ⟨so, N, ps, n1, q, s1.sub, c1, (e.step s1 c1).nsr, a1, p1, KFF.step k s1 e.src c1⟩
theorem SimFF.e (h : SimFF K W te pe) : SimE K W te pe := fun so F H σ ρ n q x Q e p xo k => h so F H σ ρ n q x Q e p xo (KE.ff k)
end
end G39

/-! {**a, **b} -/
namespace G39
open PySem PySem.Spec PyProof.Rows L2 Evl
section
variable {prog : Program} {w : World} {K : Type} [DecidableEq K] {knd : KeyKind prog w K} {A : Around} {E : Value → Shared → Prop} {s : Shared}
theorem wpAny_dictPut_pairs {d : Addr} {kvs : List (K × Value)} {k : K} {key v : Value} {Q : Unit → Shared → Prop} (hkey : knd.is k key = true) (hm : s.heap.DictOf knd d kvs)
    (hQ : ∀ h', h'.DictOf knd d (stored kvs k v) → Heap.SameBut d s.heap h' → Q () { s with heap := h' })
    (hsz : kvs.length ≤ sizeLine) :
    wpAny (model prog w) A (dictPut d (knd.hash k) key v) Q E s := by
  obtain ⟨o, es, ep, ho, hc, hd, hk, hp, hn⟩ := hm
  have hes : es.size ≤ sizeLine := by
    have e1 := hp.length
    have e2 : es.toList.length = es.size := by simp
    omega
  unfold dictPut
  refine wpAny_bind (wpAny_dictFind_of hkey ho hd hk ?_)
  have hidx : (es.findIdx? fun e => knd.is k e.key) = kvs.findIdx? fun kv => decide (kv.1 = k) := by
    rw [← hp.findIdx k]; obtain ⟨l⟩ := es; simp
  cases hi : es.findIdx? fun e => knd.is k e.key with
  | some i =>
    refine wpAny_updateDict ho hd (hQ _ ⟨_, _, ep, Heap.get?_update_self _ ho (Obj.isFreed_of_dict (Obj.data_mapDict hd _)),
      hc.mapDict _, Obj.data_mapDict hd _, hk.modify _ _, ?_, ?_⟩ (Heap.SameBut.update ..))
    · rw [stored, if_pos (any_of_findIdx_some (hidx ▸ hi))]
      have hl : (es.toList.findIdx? fun e => knd.is k e.key) = some i := by rw [← hi]; obtain ⟨l⟩ := es; simp
      have := hp.modify hn hl v
      obtain ⟨l⟩ := es
      simpa using this
    · rw [stored, if_pos (any_of_findIdx_some (hidx ▸ hi)), keys_map_store]; exact hn
  | none =>
    have hnot : k ∉ kvs.map (·.1) := not_mem_of_findIdx_none (hidx ▸ hi)
    have hany : ¬ (kvs.any fun kv => decide (kv.1 = k)) = true := by
      rw [List.any_eq_true]; rintro ⟨kv, hkv, he⟩
      exact hnot (List.mem_map.mpr ⟨kv, hkv, of_decide_eq_true he⟩)
    refine wpAny_updateDictKeys (hz := hes) ho hd (hQ _ ⟨_, _, ep + 1, Heap.get?_update_self _ ho (Obj.isFreed_of_dict (Obj.data_mapDictKeys hd _)),
      hc.mapDictKeys _, Obj.data_mapDictKeys hd _, hk.push hkey _, ?_, ?_⟩ (Heap.SameBut.update ..))
    · rw [stored, if_neg hany]
      have := hp.append hkey (knd.hash k) v
      obtain ⟨l⟩ := es
      simpa using this
    · rw [stored, if_neg hany, List.map_append, List.nodup_append]
      refine ⟨hn, by simp, ?_⟩
      intro a ha b hb
      simp only [List.map_cons, List.map_nil, List.mem_singleton] at hb
      subst hb
      exact fun e => hnot (e ▸ ha)
theorem wpAny_mergeMapping {d o : Addr} {kvs more : List (K × Value)} {Q : Unit → Shared → Prop} (hdo : d ≠ o) (hoS : (o == sysModules) = false)
    (hd : s.heap.DictOf knd d kvs) (ho : s.heap.DictOf knd o more)
    (hQ : ∀ h', h'.DictOf knd d (merged kvs more) → h'.DictOf knd o more → Heap.SameBut d s.heap h' → Q () { s with heap := h' })
    (hsz : kvs.length + more.length ≤ sizeLine) :
    wpAny (model prog w) A (mergeMapping d (.ref o) false) Q E s := by
  obtain ⟨od, esd, epd, hod, hcd, hdd, hkd, hpd, hnd⟩ := id hd
  obtain ⟨oo, eso, epo, hoo, hco, hdo', hko, hpo, hno⟩ := id ho
  have hlen : more.length = eso.size := by rw [← hpo.length]; simp
  unfold mergeMapping
  have loop : wpAny (model prog w) A (do
      let l ← dictEntries o
      let epoch ← dictEpoch o
      forIn (List.range l.size) PUnit.unit fun i (_ : PUnit) => (do
          let l' ← dictEntries o
          match l'[i]? with
            | some e => do
              holding [e.key, e.val] (dictPut d e.hash e.key e.val)
              let ep' ← dictEpoch o
              if (ep' != epoch) = true then do
                  (unsupported "dict.changed-during-merge" : Sem PUnit)
                  pure (ForInStep.yield PUnit.unit)
                else pure (ForInStep.yield PUnit.unit)
            | _ => do
              (unsupported "dict.changed-during-merge" : Sem PUnit)
              pure (ForInStep.yield PUnit.unit) : Sem (ForInStep PUnit))
      pure ()) Q E s := by
    refine wpAny_bind (wpAny_dictEntries hoo hdo' ?_)
    refine wpAny_bind (wpAny_dictEpoch hoo hdo' ?_)
    refine wpAny_bind ?_
    rw [List.range_eq_range']
    refine wpAny_forIn_list _
      (fun rest _ s' => ∃ h' i, s' = { s with heap := h' } ∧ rest = List.range' i (eso.size - i) ∧ i ≤ eso.size ∧ h'.DictOf knd d (merged kvs (more.take i)) ∧ h'.get? o = some oo ∧ Heap.SameBut d s.heap h')
      _ ?_ ?_ _ _ ⟨s.heap, 0, rfl, by simp, Nat.zero_le _, by simpa [merged] using hd, hoo, Heap.SameBut.refl _ _⟩
    · rintro x rest b s' ⟨h', i, rfl, hr, hi, hd', hoo', hs'⟩
      have hlt : i < eso.size := by
        rcases Nat.lt_or_ge i eso.size with h | h
        · exact h
        · rw [Nat.sub_eq_zero_of_le h] at hr; simp at hr
      obtain ⟨rfl, hrest⟩ : x = i ∧ rest = List.range' (i + 1) (eso.size - (i + 1)) := by
        have e : eso.size - i = (eso.size - (i + 1)) + 1 := by omega
        rw [e, List.range'_succ] at hr
        injection hr with h1 h2
        exact ⟨h1, h2⟩
      refine wpAny_bind (wpAny_dictEntries hoo' hdo' ?_)
      rw [Array.getElem?_eq_getElem hlt]
      obtain ⟨kv, hkv⟩ : ∃ kv, more[x]? = some kv := ⟨more[x]'(by rw [hlen]; exact hlt), List.getElem?_eq_getElem _⟩
      obtain ⟨k, v⟩ := kv
      obtain ⟨hkey, hval⟩ := hpo.get? (e := eso[x]) (by simp [hlt]) hkv
      obtain ⟨k', hkey', hhash⟩ := hko eso[x] (Array.getElem_mem hlt)
      obtain rfl : k' = k := knd.inj _ _ _ hkey' hkey
      show wpAny _ _ (holding [eso[x].key, eso[x].val] (dictPut d eso[x].hash eso[x].key eso[x].val) >>= _) _ _ _
      rw [hhash, hval]
      have hmx : (merged kvs (more.take x)).length ≤ sizeLine := by
        have e1 := merged_length_le kvs (more.take x)
        have e2 : (more.take x).length ≤ more.length := by rw [List.length_take]; omega
        omega
      refine wpAny_bind (wpAny_holding (wpAny_dictPut_pairs (hsz := hmx) hkey hd' fun h'' hd'' hs'' => ?_))
      have hoo'' : h''.get? o = some oo := (hs''.2 o (Ne.symm hdo)).trans hoo'
      refine wpAny_bind (wpAny_dictEpoch hoo'' hdo' ?_)
      rw [if_neg (by simp)]
      exact wpAny_pure ⟨h'', x + 1, rfl, hrest, hlt, by rw [merged_take_succ kvs more x (k', v) hkv]; exact hd'', hoo'', hs'.trans hs''⟩
    · rintro b s' ⟨h', i, rfl, hr, hi, hd', hoo', hs'⟩
      have hin : i = eso.size := by
        rcases Nat.lt_or_ge i eso.size with h | h
        · have e : eso.size - i = (eso.size - (i + 1)) + 1 := by omega
          rw [e, List.range'_succ] at hr; exact nomatch hr
        · exact Nat.le_antisymm hi h
      refine wpAny_pure (hQ h' ?_ ⟨oo, eso, epo, hoo', hco, hdo', hko, hpo, hno⟩ hs')
      rw [hin, ← hlen, List.take_length] at hd'; exact hd'
  refine wpAny_bind (wpAny_isInstance ho.typeIs isSubtype_dict_dict ?_)
  dsimp only
  rw [if_pos rfl]
  refine wpAny_bind (wpAny_specialOf ho.typeIs F.slot_dict_iter.lookup (wpAny_bind (wpAny_pure ?_)))
  simp only [beq_self_eq_true]
  rw [if_neg (by rw [hoS]; exact Bool.false_ne_true)]
  refine wpAny_bind (wpAny_dictEntries hod hdd ?_)
  split
  · refine wpAny_bind (wpAny_dictEntries hoo hdo' ?_)
    have hq : (forIn eso PUnit.unit fun (e : DictEntry) (_ : PUnit) => (match e.key with
        | Value.ref a => do
          let q ← specialOf e.key (Str.ofString "__eq__")
          if (q != some (Value.builtin "object.__eq__")) = true then
              if (Array.filter (fun x => x.hash == e.hash) eso).size > 1 then do
                (unsupported "dict.merge-into-an-empty-dict:keys-of-equal-hash" : Sem PUnit)
                pure (ForInStep.yield PUnit.unit)
              else pure (ForInStep.yield PUnit.unit)
            else pure (ForInStep.yield PUnit.unit)
        | x => pure (ForInStep.yield PUnit.unit) : Sem (ForInStep PUnit))) = pure PUnit.unit := by
      rw [← Array.forIn_toList]
      refine forIn_yield_id _ fun e he c => ?_
      obtain ⟨k, hkey, _⟩ := hko e (Array.mem_toList_iff.mp he)
      have := knd.byValue k _ hkey
      split
      · rename_i a ea
        rw [ea] at this
        cases this
      · rfl
    refine wpAny_bind (wpAny_of_eq hq ?_)
    exact loop
  · exact loop
end
/-- {**a, **b}; the new dict stands while they are made -/
def tMerge (ta tb : TE) : TE := fun σ H Q => ∀ p, H p = none → ta σ (upd H p (.dK [])) fun x H1 => ∃ (a : Addr) (kvs : List (Key × V)), x = .ref a ∧ p ≠ a ∧ H1 p = some (.dK []) ∧ Rd H1 a (.dK kvs) ∧ kvs.length ≤ 40000 ∧
  tb σ (upd H1 p (.dK (mergeK [] kvs))) fun y H2 => ∃ (b : Addr) (kws : List (Key × V)), y = .ref b ∧ p ≠ b ∧ H2 p = some (.dK (mergeK [] kvs)) ∧ Rd H2 b (.dK kws) ∧ kws.length ≤ 40000 ∧ Q (.ref p) (upd H2 p (.dK (mergeK (mergeK [] kvs) kws)))
section
variable {X : Cx} {pins : List (Addr × Obj)} {σ : L2.St} {H : Hp} {s : Shared} {E : Value → Shared → Prop}
theorem merge_inv {p a : Addr} {kvs more : List (Key × V)} {Q : Unit → Shared → Prop} (I : Inv X pins σ H s) (hp : H p = some (.dK kvs)) (ha : Rd H a (.dK more)) (hne : p ≠ a) (h1 : kvs.length ≤ 40000) (h2 : more.length ≤ 40000)
    (h : ∀ s', Inv X pins σ (upd H p (.dK (mergeK kvs more))) s' → Q () s') : wpAny (model X.prog X.w) X.A (mergeMapping p (.ref a) false) Q E s := by
  obtain ⟨_, hd, vs, rel, dd⟩ := dk_of I.hok hp
  obtain ⟨_, hd2, vs2, rel2, dd2⟩ := dk_rd I.hok ha
  have l1 := rel.length
  have l2 := rel2.length
  refine wpAny_mergeMapping (knd := mixKind X.prog X.w) hne hd2 dd dd2 (fun h' dd' _ hs => h _ ?_) (by rw [sizeLine_eq]; omega)
  have he : ∃ q, h'.get? p = some q := let ⟨q, _, _, hq, _⟩ := dd'; ⟨q, hq⟩
  have hz : (mergeK kvs more).length ≤ sizeLine := by
    have := length_mergeK more kvs
    rw [sizeLine_eq]
    omega
  exact d_write (t' := s.toks) I (by rw [hp]; exact True.intro) hs he (dk_new hz hd (rel2.merge rel) dd')
theorem disp_two (va vb : Sem Value) : dictDisplay [(none, va), (none, vb)] = (do
    let d ← alloc { cls := .type "dict", data := .dict #[] }
    let m ← holding [.ref d] va
    (((holding [.ref d, m] (mergeMapping d m false)).onRaise fun x => do let _ ← holding [.ref d, m, x] (runValue (.builtin "proto.let_go" {}))).tryCatch fun e => do
        if ← isInstance e (.type "AttributeError") then
          rule "dict.display.not-a-mapping"; raiseError "TypeError" s!"'{← typeNameOf m}' object is not a mapping"
        throw e).onRaise fun x => do let _ ← holding [.ref d, x] (runValue (.builtin "proto.let_go" {}))
    let m2 ← holding [.ref d] vb
    (((holding [.ref d, m2] (mergeMapping d m2 false)).onRaise fun x => do let _ ← holding [.ref d, m2, x] (runValue (.builtin "proto.let_go" {}))).tryCatch fun e => do
        if ← isInstance e (.type "AttributeError") then
          rule "dict.display.not-a-mapping"; raiseError "TypeError" s!"'{← typeNameOf m2}' object is not a mapping"
        throw e).onRaise fun x => do let _ ← holding [.ref d, x] (runValue (.builtin "proto.let_go" {}))
    pure (.ref d)) := by
  unfold dictDisplay
  simp only [List.forIn_cons, List.forIn_nil, List.isEmpty_nil, if_true, pure_bind, bind_assoc]
theorem pe_merge {ea eb : Expr} {ta tb : TE} {pos : Pos} (ha : PE X ea ta) (hb : PE X eb tb) : PE X (.Dict [none, none] [ea, eb] pos) (tMerge ta tb) := by
  refine ⟨fun pins s σ H Q I q => ?_⟩
  have hn := I.hok.fresh (Nat.le_refl s.heap.objs.size)
  have I1 := I.laid (a := s.heap.objs.size) (o := .dK []) (h' := s.heap.push { cls := .type "dict", data := .dict #[] }) (t' := s.toks) (fun _ _ q => Heap.get?_push_of_some _ q) (Nat.le_refl _) (dk_empty s.heap I.big)
  rw [arm_eval_Dict]
  refine wpAny_bind (wpAny_standAt ?_)
  show wpAny _ _ (dictDisplay [(none, do let x ← eval ea X.env; standAt pos; pure x), (none, do let x ← eval eb X.env; standAt pos; pure x)]) _ _ _
  rw [disp_two]
  refine wpAny_bind (wpAny_alloc ?_)
  refine wpAny_bind (wpAny_holding (wpAny_bind (thn (ha.run pins _ σ _ _ I1 (q _ hn)) fun u s2 ⟨x, H1, I2, rx, a, kvs, ex, hne, hp, hr, hl, q1⟩ => wpAny_bind (wpAny_standAt (wpAny_pure ?_)))))
  subst ex
  cases rx
  refine wpAny_bind (wpAny_onRaise (wpAny_tryCatch (wpAny_onRaise (wpAny_holding (merge_inv I2 hp hr hne (Nat.zero_le _) hl fun s3 I3 => ?_)))))
  refine wpAny_bind (wpAny_holding (wpAny_bind (thn (hb.run pins _ σ _ _ I3 q1) fun u s4 ⟨y, H2, I4, ry, b, kws, ey, hne2, hp2, hr2, hl2, q2⟩ => wpAny_bind (wpAny_standAt (wpAny_pure ?_)))))
  subst ey
  cases ry
  have hl1 : (mergeK [] kvs).length ≤ 40000 := Nat.le_trans (length_mergeK kvs []) (by rw [List.length_nil, Nat.zero_add]; exact hl)
  refine wpAny_bind (wpAny_onRaise (wpAny_tryCatch (wpAny_onRaise (wpAny_holding (merge_inv I4 hp2 hr2 hne2 hl1 hl2 fun s5 I5 => ?_)))))
  exact wpAny_pure ⟨.ref s.heap.objs.size, _, I5, rfl, q2⟩
end
end G39

/-! defs that tell new objects; what is told and then changed -/
namespace G39
open PySem PySem.Spec PyProof.Rows L2 Evl
section
variable {K : PySem.W.Frag} {W : WX'} {so : Option Addr} {F H N H' : Hp} {q : D → Nat → Prop} {Q : VK} {te : TE} {pe : PEx}
theorem en_start {Ns : List Str} {vs : List V} {as : List PV} {n m : Nat} (s : Sub F H) (c : SrcN so H n) (ns : ∀ sa, so = some sa → F sa = none) (ag : Ags K so F H vs as) (hm : Ns.length - vs.length = m) : En K so F H (L2.start Ns vs) (as ++ List.replicate m .un) n := by
  have hal := ag.len
  refine ⟨s, c, ns, ?_, fun i pv e => ?_⟩
  · unfold L2.start
    rw [List.length_append, List.length_append, List.length_map, List.length_replicate, List.length_replicate, hal, ← hm, hal]
  · by_cases hi : i < as.length
    · rw [List.getElem?_append_left hi] at e
      obtain ⟨v, h1, h2, h3⟩ := ags_sl ag i pv e
      refine ⟨some v, ?_, h2⟩
      unfold L2.start
      rw [List.getElem?_append_left (by rw [List.length_map, hal]; exact hi), List.getElem?_map, h1]
      rfl
    · rw [List.getElem?_append_right (by omega), List.getElem?_replicate] at e
      split at e
      · cases e
        refine ⟨none, ?_, trivial⟩
        unfold L2.start
        rw [List.getElem?_append_right (by rw [List.length_map, hal]; omega), List.getElem?_replicate, List.length_map, if_pos (by omega)]
      · cases e
/-- a def: return e, e new -/
theorem fn_simF {psp : PSp} {Ns : List Str} {vs : List V} {E : XK} {m : Nat} {D : Ends} (hD : D.rt = Q) (hl : liftF K psp vs H Q E) (hs : SimF K WF te pe) (hm : Ns.length - vs.length = m)
    (hp : ∀ args n q x, psp args n q x → args.length = vs.length → pe (args ++ List.replicate m .un) n q noX) : tRet te D (L2.start Ns vs) H := by
  obtain ⟨so, F, as, n, q, s, c, ns, ag, p, k⟩ := hl
  show te _ H D.rt
  rw [hD]
  exact hs so F H _ _ n q noX Q (en_start s c ns ag hm) (hp as n q noX p ag.len.symm) xo_no k
theorem Rp.dicA {N : Hp} {v : V} {l : List (Key × D)} (h : Rp K N v (.dic l)) : ∃ a u, v = .ref a ∧ N a = some u := by
  cases h with
  | dic h _ _ => exact ⟨_, _, rfl, h⟩
/-- {**a, **b} -/
def pMerge (pa pb : PEx) : PEx := fun ρ n q x => pa ρ n (fun d n1 => ∃ l, d = .dic l ∧ l.length ≤ 40000 ∧ pb ρ n1 (fun d2 n2 => ∃ m, d2 = .dic m ∧ m.length ≤ 40000 ∧ q (.dic (mergeD (mergeD [] l) m)) n2) x) x
theorem sf_merge {ta tb : TE} {pa pb : PEx} (ha : SimE K W ta pa) (hb : SimE K W tb pb) : SimF K W (tMerge ta tb) (pMerge pa pb) := fun so F H σ ρ n q x Q e p xo k pp hp => by
  have fp := e.sub.nil hp
  have sp := e.src.ne hp
  have s0 : Step so F H F (upd H pp (.dK [])) := Step.beside e.sub hp
  have c0 : SrcN so (upd H pp (.dK [])) n := e.src.beside sp
  refine ha so F _ σ ρ n _ x _ (e.step s0 c0) p (xo.step s0 e.src c0) fun v d N1 H1 n1 s1 c1 r1 ⟨l, hd, hl, p1⟩ => ?_
  subst hd
  have np : N1 pp = none := by rw [s1.new pp (by rw [upd_same]; exact fun z => by cases z)]; exact fp
  obtain ⟨a, kvs, rfl, rd, hk, rr⟩ := Bw.dic (so := so) (H := H1) (.inl r1) s1.sub
  obtain ⟨a', u, ea, na⟩ := r1.dicA
  cases ea
  have hk1 : H1 pp = some (.dK []) := s1.keep pp _ sp upd_same
  have l1 : kvs.length = l.length := Rps.klen hk
  have t1 : Step so F H N1 (upd H1 pp (.dK (mergeK [] kvs))) := (s0.trans s1 e.src c0).beside' hp np
  have d1 : SrcN so (upd H1 pp (.dK (mergeK [] kvs))) n1 := c1.beside sp
  refine ⟨a, kvs, rfl, (fun z => by rw [z, na] at np; cases np), hk1, rd, by omega, ?_⟩
  refine hb so N1 _ σ ρ n1 _ x _ (e.step t1 d1) p1 (xo.step t1 e.src d1) fun v d N2 H2 n2 s2 c2 r2 ⟨m, hd, hm, p2⟩ => ?_
  subst hd
  have np2 : N2 pp = none := by rw [s2.new pp (by rw [upd_same]; exact fun z => by cases z)]; exact np
  obtain ⟨b, kws, rfl, rd2, hk2, rr2⟩ := Bw.dic (so := so) (H := H2) (.inl r2) s2.sub
  obtain ⟨b', u2, eb, nb⟩ := r2.dicA
  cases eb
  have hkk : H2 pp = some (.dK (mergeK [] kvs)) := s2.keep pp _ sp upd_same
  have l2 : kws.length = m.length := Rps.klen hk2
  have t2 : Step so F H N2 (upd H2 pp (.dK (mergeK (mergeK [] kvs) kws))) := (t1.trans s2 e.src d1).beside' hp np2
  obtain ⟨g1, g2⟩ := Rps.merge (F := N2) (kvs0 := []) (l := []) hk (rr.mono s2.ex) rfl .nil
  obtain ⟨g3, g4⟩ := Rps.merge hk2 rr2 g1 g2
  exact ⟨b, kws, rfl, (fun z => by rw [z, nb] at np2; cases np2), hkk, rd2, by omega, k pp _ _ N2 _ n2 t2 (c2.beside sp) hp np2 upd_same sp (.dic g3 g4) p2⟩
/-- the first of a new list of new dicts -/
def pFst (pe : PEx) : PEx := fun ρ n q x => pe ρ n (fun d n1 => ∃ z l, d = .lst (z :: l) ∧ q z n1) x
theorem sf_fst (h : SimFF K W te pe) : SimF K W (tOp (rIxL K) te (tC (.int 0))) (pFst pe) := fun so F H σ ρ n q x Q e p xo k =>
  h so F H σ ρ n _ x _ e p xo fun Dl ps kvs ds N H' n' s c hD nD sD hp nd hd a1 a2 ⟨z, l, ez, hq⟩ => by
    cases ez
    cases a2 with
    | @cons kv _ kvs' _ r t =>
      cases a1 with
      | @cons pa _ ps' _ ha t' =>
        obtain ⟨g1, g2, g3⟩ := hp pa (List.mem_cons_self ..)
        refine ⟨Dl, _, 0, .ref pa, rfl, rfl, sq_of hd, ?_, k pa (.dK kv) z N H' n' s c g1 g2 ha g3 r hq⟩
        show L2.atI (V.ref pa :: ps'.map V.ref) 0 = some (V.ref pa)
        unfold L2.atI L2.ixN
        simp
/-- new dicts, to be changed -/
def SimFA (K : PySem.W.Frag) (W : WX') (m : Nat) (ta : TA) (pa : List PV → Nat → (Nat → Prop) → PX → Prop) : Prop := ∀ so F H σ ρ n q x (Q : List V → Hp → Prop), En K so F H σ ρ n → pa ρ n q x → XOk K W so F H σ x →
  (∀ (ps : List Addr) N H' n', ps.length = m → Step so F H N H' → SrcN so H' n' → (∀ a ∈ ps, H a = none ∧ N a = none ∧ so ≠ some a ∧ ∃ kv : List (Key × V), H' a = some (.dK kv) ∧ kv.length ≤ 1000) → q n' → Q (ps.map V.ref) H') → ta σ H Q
def faNil : List PV → Nat → (Nat → Prop) → PX → Prop := fun _ n q _ => q n
def faCons (pe : PEx) (pa : List PV → Nat → (Nat → Prop) → PX → Prop) : List PV → Nat → (Nat → Prop) → PX → Prop := fun ρ n q x => pe ρ n (fun d n1 => (∃ l, d = .dic l ∧ l.length ≤ 1000) ∧ pa ρ n1 q x) x
theorem fa_nil : SimFA K W 0 tNil faNil := fun so F H σ ρ n q x Q e p xo k => k [] F H n rfl (Step.refl e.sub) e.src (fun _ z => by cases z) p
theorem fa_cons {m : Nat} {ta : TA} {pa : List PV → Nat → (Nat → Prop) → PX → Prop} (h : SimF K W te pe) (ht : SimFA K W m ta pa) : SimFA K W (m + 1) (tCons te ta) (faCons pe pa) := fun so F H σ ρ n q x Q e p xo k =>
  h so F H σ ρ n _ x _ e p xo fun a u d N H1 n1 s1 c1 h0 hn h1 hs ro ⟨⟨l, hd, hl⟩, p1⟩ => by
    subst hd
    cases ro with
    | @dic kvs _ hk rr =>
      have hlk : kvs.length = l.length := Rps.klen hk
      refine ht so N H1 σ ρ n1 q x _ (e.step s1 c1) p1 (xo.step s1 e.src c1) fun ps M H2 n2 hm s2 c2 hps hq => ?_
      refine k (a :: ps) M H2 n2 (by rw [List.length_cons, hm]) (s1.trans s2 e.src c1) c2 (fun b hb => ?_) hq
      rcases List.mem_cons.mp hb with rfl | hb
      · exact ⟨h0, by rw [s2.new b (by rw [h1]; exact fun z => by cases z)]; exact hn, hs, kvs, s2.keep _ _ hs h1, by omega⟩
      · obtain ⟨g1, g2, g3, g4⟩ := hps b hb
        exact ⟨live_of s1 c1 g1, g2, g3, g4⟩
end
section
variable {K : PySem.W.Frag} {W : WX'} {Fb F0 H0 F H N H' : Hp} {so0 so : Option Addr} {σ σ' : L2.St} {ρ ρ' : List PV} {n n' : Nat} {E : PEnds} {te : TE} {pe : PEx} {tt : TT} {pt : PTx} {ts tu : TS} {ps pu : PSt}
/-- a slot that is looked at no more -/
theorem Rel.junk (r : Rel K Fb F0 H0 so0 so F H σ ρ n) {i : Nat} (hl : σ'.length = σ.length) (ho : ∀ j, i ≠ j → σ'[j]? = σ[j]?) : Rel K Fb F0 H0 so0 so F H σ' (ρ.set i .un) n :=
  { r with
    en := ⟨r.en.sub, r.en.src, r.en.nsr, by rw [List.length_set, hl]; exact r.en.len, fun j pv h => by
      rcases get_set h with ⟨rfl, rfl, hi⟩ | ⟨hne, h⟩
      · have : i < σ'.length := by rw [hl, r.en.len]; exact hi
        exact ⟨_, List.getElem?_eq_getElem this, trivial⟩
      · obtain ⟨o, h1, h2⟩ := r.en.sl j pv h
        exact ⟨o, by rw [ho j hne]; exact h1, h2⟩⟩
    own := fun j d p h1 h2 => by
      rcases get_set h1 with ⟨_, z, _⟩ | ⟨hne, h⟩
      · cases z
      · exact r.own j d p h (by rw [← ho j hne]; exact h2)
    dis := fun j k d1 d2 p hjk h1 h2 h3 => by
      rcases get_set h1 with ⟨_, z, _⟩ | ⟨hne, h⟩
      · cases z
      · rcases get_set h2 with ⟨_, z, _⟩ | ⟨hne2, h'⟩
        · cases z
        · rw [ho k hne2]
          exact r.dis j k d1 d2 p hjk h h' (by rw [← ho j hne]; exact h3)
    scr := fun j ns a h1 h2 => by
      rcases get_set h1 with ⟨_, z, _⟩ | ⟨hne, h⟩
      · cases z
      · exact r.scr j ns a h (by rw [← ho j hne]; exact h2) }
theorem set_off {α : Type} {l : List α} {i j : Nat} {x : α} (h : i ≠ j) : (l.set i x)[j]? = l[j]? := by rw [List.getElem?_set, if_neg h]
/-- for x in [new dicts]: x[k] = v -/
def pJunk (i : Nat) (pa : List PV → Nat → (Nat → Prop) → PX → Prop) : PSt := fun E ρ n => i < ρ.length ∧ pa ρ n (fun n1 => E.nx (ρ.set i .un) n1) E.xc
theorem ss_junk {m i : Nat} {ta : TA} {pa : List PV → Nat → (Nat → Prop) → PX → Prop} {a b : Str} (h : SimFA K W m ta pa) (hm : m ≤ 1000) : SimS K W (tFor (iList K (tLst ta)) (gName i) (sDPut (tVar i) (tC (.str a)) (tC (.str b)))) (pJunk i pa) := fun Fb F0 H0 so0 so F H σ ρ n D E r ⟨hi, p⟩ k => by
  refine h so F H σ ρ n _ _ _ r.en p (r.xo k) fun ps N H1 n1 hl s1 c1 hps p1 => ⟨by rw [List.length_map, sizeLine_eq]; omega, fun pl hpl => ⟨pl, rfl, ⟨_, sq_of upd_same⟩, ?_⟩⟩
  have npl := s1.sub.nil hpl
  have spl := c1.ne hpl
  have hHl : H pl = none := live_of s1 c1 hpl
  have npp : ∀ x ∈ ps, x ≠ pl := fun x hx z => by
    obtain ⟨_, _, _, kv, e, _⟩ := hps x hx
    rw [z, hpl] at e
    cases e
  refine for_it (walk_list (xs := ps.map V.ref)) (fun t σ' H' => σ'.length = σ.length ∧ (∀ j, i ≠ j → σ'[j]? = σ[j]?) ∧ Step so F H N H' ∧ SrcN so H' n1 ∧ H' pl = some (.lst (ps.map V.ref)) ∧ ∀ x ∈ ps, ∃ kv : List (Key × V), H' x = some (.dK kv) ∧ kv.length ≤ 1000 + t)
    ⟨rfl, fun _ _ => rfl, s1.beside' hHl npl, c1.beside spl, upd_same, fun x hx => ?_⟩ (fun t σ' H' _ z => sq_of z.2.2.2.2.1) (fun t x σ' H' H2 ht ⟨z1, z2, z3, z4, z5, z6⟩ y => ?_) (fun σ' H' ⟨z1, z2, z3, z4, z5, z6⟩ => ?_)
  · obtain ⟨_, _, _, kv, e, hk⟩ := hps x hx
    exact ⟨kv, by rw [upd_ne (npp x hx)]; exact e, by omega⟩
  · obtain ⟨rfl, hx⟩ := y
    rw [List.getElem?_map] at hx
    obtain ⟨c, hc, rfl⟩ := Option.map_eq_some_iff.mp hx
    have hcm : c ∈ ps := List.mem_of_getElem? hc
    obtain ⟨kv, e, hk⟩ := z6 c hcm
    obtain ⟨g1, g2, g3, _⟩ := hps c hcm
    have hil : i < σ'.length := by rw [z1, r.en.len]; exact hi
    have htm : t < m := by rw [List.length_map, hl] at ht; exact ht
    refine ⟨_, List.getElem?_set_self hil, c, _, rfl, .inl ⟨kv, .inr a, e, rfl, by rw [sizeLine_eq]; omega, rfl⟩, ?_⟩
    refine ⟨by rw [List.length_set]; exact z1, fun j hj => by rw [set_off hj]; exact z2 j hj, z3.beside' g1 g2, z4.beside g3, by rw [upd_ne (Ne.symm (npp c hcm))]; exact z5, fun x hx => ?_⟩
    by_cases xc : x = c
    · subst xc
      exact ⟨_, upd_same, Nat.le_trans (length_putK kv _ _) (by omega)⟩
    · obtain ⟨kv', e', hk'⟩ := z6 x hx
      exact ⟨kv', by rw [upd_ne xc]; exact e', by omega⟩
  · exact k.nx so N H' σ' _ n1 ((r.step z3 z4).junk z1 z2) p1
/-- told = e; if c: return ..; for x in told: x.clear() -/
def pScratch (i j : Nat) (pe : PEx) (pt : PTx) (ps pu : PSt) : PSt := fun E ρ n => i < ρ.length ∧ j < ρ.length ∧ i ≠ j ∧ pe ρ n (fun d n1 => pt (ρ.set i (.val d)) n1 (fun b n2 => if b = true then ps { E with nx := fun _ _ => False } (ρ.set i (.val d)) n2 else pu E ((ρ.set i .un).set j .un) n2) E.xc) E.xc
theorem ss_scratch {i j : Nat} (h : SimFF K W te pe) (ht : SimT K W tt pt) (hs : SimS K W ts ps) (hu : SimS K W tu pu) :
    SimS K W (tSeq (tAsg te (gName i)) (tSeq (tIfS tt ts tNext) (tSeq (tFor (iList K (tVar i)) (gName j) (tDrop (tBM0 K "dict" rDClear (tVar j)))) tu))) (pScratch i j pe pt ps pu) := fun Fb F0 H0 so0 so F H σ ρ n D E r ⟨hi, hj, hij, p⟩ k => by
  refine h so F H σ ρ n _ _ _ r.en p (r.xo k) fun Dl cs kvs ds N H1 n1 s1 c1 hD nD sD hp nd hd a1 a2 p1 => ?_
  have hall : ∀ x ∈ Dl :: cs, H x = none ∧ N x = none := fun x hx => by
    rcases List.mem_cons.mp hx with rfl | hx
    · exact ⟨hD, nD⟩
    · exact ⟨(hp x hx).1, (hp x hx).2.1⟩
  have e1 : Ex N (also N H1 (Dl :: cs)) := also_ex fun x hx => (hall x hx).2
  have t1 : Step so F H (also N H1 (Dl :: cs)) H1 := also_step (n' := n1) s1 hall
  have rl : Rp K (also N H1 (Dl :: cs)) (.ref Dl) (.lst ds) := .lst (by rw [also_in (List.mem_cons_self ..)]; exact hd) (rps_dicts (ps := cs) e1 (all2_map a1 fun x hx kv e => by rw [also_in (List.mem_cons_of_mem _ hx)]; exact e) a2)
  have r1 := r.step t1 c1
  have r2 : Rel K Fb F0 H0 so0 so (also N H1 (Dl :: cs)) H1 (σ.set i (some (.ref Dl))) (ρ.set i (.val (.lst ds))) n1 :=
    sg_name i so _ H1 (.ref Dl) (.lst ds) σ ρ n1 (fun ρ' => ρ' = ρ.set i (.val (.lst ds))) (fun σ' _ => Rel K Fb F0 H0 so0 so (also N H1 (Dl :: cs)) H1 σ' (ρ.set i (.val (.lst ds))) n1) r1.en rl rfl fun σ' ρ' en o e => e ▸ r1.off en o
  have hil : i < σ.length := by rw [r.en.len]; exact hi
  have hjl : j < σ.length := by rw [r.en.len]; exact hj
  refine ht so _ H1 _ _ n1 _ _ _ r2.en p1 (r2.xo k) fun b M H2 n2 s2 c2 p2 => ?_
  have r3 := r2.step s2 c2
  cases b with
  | true =>
    rw [if_pos rfl] at p2 ⊢
    exact hs Fb F0 H0 so0 so M H2 _ _ n2 _ _ r3 p2 ⟨fun _ _ _ _ _ _ _ z => z.elim, k.rt, k.xc, k.bk, k.ct⟩
  | false =>
    rw [if_neg Bool.false_ne_true] at p2 ⊢
    have u2 : Step so F H N H2 := ⟨fun a u e => s2.sub a u (s2.ex a u (e1 a u e)), s1.ex, fun a o hs z => s2.keep a o hs (s1.keep a o hs z), s1.new⟩
    have dl2 : H2 Dl = some (.lst (cs.map V.ref)) := s2.keep _ _ sD hd
    have cs2 : ∀ x ∈ cs, ∃ kv : List (Key × V), H2 x = some (.dK kv) := fun x hx => by
      have : ∀ {xs : List Addr} {ys : List (List (Key × V))}, All2 (fun x kv => H1 x = some (.dK kv)) xs ys → ∀ x ∈ xs, ∃ kv, H1 x = some (.dK kv) := by
        intro xs ys h
        induction h with
        | nil => intro x hx; cases hx
        | cons r t ih =>
          intro x hx
          rcases List.mem_cons.mp hx with rfl | hx
          · exact ⟨_, r⟩
          · exact ih x hx
      obtain ⟨kv, e⟩ := this a1 x hx
      exact ⟨kv, s2.keep x _ (hp x hx).2.2 e⟩
    have ncd : ∀ x ∈ cs, x ≠ Dl := fun x hx z => (List.nodup_cons.mp nd).1 (z ▸ hx)
    refine ⟨.ref Dl, List.getElem?_set_self hil, Dl, rfl, ⟨_, sq_of dl2⟩, ?_⟩
    refine for_it (walk_list (xs := cs.map V.ref)) (fun t σ' H' => σ'.length = σ.length ∧ (∀ l, i ≠ l → j ≠ l → σ'[l]? = σ[l]?) ∧ Step so F H N H' ∧ SrcN so H' n2 ∧ H' Dl = some (.lst (cs.map V.ref)) ∧ ∀ x ∈ cs, ∃ kv : List (Key × V), H' x = some (.dK kv))
      ⟨by rw [List.length_set], fun l hl _ => set_off hl, u2, c2, dl2, cs2⟩ (fun t σ' H' _ z => sq_of z.2.2.2.2.1) (fun t x σ' H' H3 ht ⟨z1, z2, z3, z4, z5, z6⟩ y => ?_) (fun σ' H' ⟨z1, z2, z3, z4, z5, z6⟩ => ?_)
    · obtain ⟨rfl, hx⟩ := y
      rw [List.getElem?_map] at hx
      obtain ⟨c, hc, rfl⟩ := Option.map_eq_some_iff.mp hx
      have hcm : c ∈ cs := List.mem_of_getElem? hc
      obtain ⟨kv, e⟩ := z6 c hcm
      obtain ⟨g1, g2, g3⟩ := hp c hcm
      refine ⟨_, List.getElem?_set_self (by rw [z1]; exact hjl), .inr (.inr (.inl ⟨rfl, .inl ⟨kv, e⟩⟩)), c, kv, rfl, rfl, e, ?_⟩
      refine ⟨by rw [List.length_set]; exact z1, fun l h1 h2 => by rw [set_off h2]; exact z2 l h1 h2, z3.beside' g1 g2, z4.beside g3, by rw [upd_ne (Ne.symm (ncd c hcm))]; exact z5, fun x hx => ?_⟩
      by_cases xc : x = c
      · subst xc
        exact ⟨_, upd_same⟩
      · obtain ⟨kv', e'⟩ := z6 x hx
        exact ⟨kv', by rw [upd_ne xc]; exact e'⟩
    · have r4 := r.step z3 z4
      exact hu Fb F0 H0 so0 so N H' σ' _ n2 D E ((r4.junk (σ' := σ'.set j (σ[j]?.getD none)) (i := i) (by rw [List.length_set]; exact z1) fun l hl => by
        by_cases jl : j = l
        · subst jl
          rw [List.getElem?_set_self (by rw [z1]; exact hjl), List.getElem?_eq_getElem hjl]
          rfl
        · rw [set_off jl]
          exact z2 l hl jl).junk (by rw [List.length_set]) fun l hl => by rw [set_off hl]) p2 k
end
end G39

/-! maps in order -/
namespace G39
open PySem PySem.Spec PyProof.Rows L2 Evl
structure MapOk (m : List (Str × Str)) : Prop where
  nd : (m.map Prod.fst).Nodup
  len : m.length ≤ 40
  sok : ∀ p ∈ m, SOk p.1 ∧ SOk p.2
theorem get_mem {m : List (Str × Str)} {k z : Str} (h : getS m k = some z) : (k, z) ∈ m := by
  unfold getS at h
  obtain ⟨p, hp, rfl⟩ := Option.map_eq_some_iff.mp h
  have h1 := List.find?_some hp
  have h2 := List.mem_of_find?_eq_some hp
  have : p.1 = k := by simpa using h1
  rw [← this]
  exact h2
theorem get_some {m : List (Str × Str)} {k : Str} (h : k ∈ m.map Prod.fst) : getS m k = some (fillT m k) := by
  unfold fillT
  cases e : getS m k with
  | some z => rfl
  | none =>
    exfalso
    unfold getS at e
    rw [Option.map_eq_none_iff, List.find?_eq_none] at e
    obtain ⟨p, hp, rfl⟩ := List.mem_map.mp h
    exact e p hp (by simp)
theorem get_none {m : List (Str × Str)} {k : Str} (h : k ∉ m.map Prod.fst) : getS m k = none := by
  cases e : getS m k with
  | none => rfl
  | some z => exact absurd (List.mem_map.mpr ⟨_, get_mem e, rfl⟩) h
theorem nd_val : ∀ {m : List (Str × Str)} {k a b : Str}, (m.map Prod.fst).Nodup → (k, a) ∈ m → (k, b) ∈ m → a = b
  | [], _, _, _, _, h, _ => by cases h
  | p :: m, k, a, b, nd, h1, h2 => by
    rw [List.map_cons, List.nodup_cons] at nd
    rcases List.mem_cons.mp h1 with e1 | h1 <;> rcases List.mem_cons.mp h2 with e2 | h2
    · rw [← e1] at e2
      exact (Prod.mk.inj e2).2.symm
    · exact absurd (List.mem_map.mpr ⟨_, h2, by rw [← e1]⟩) nd.1
    · exact absurd (List.mem_map.mpr ⟨_, h1, by rw [← e2]⟩) nd.1
    · exact nd_val nd.2 h1 h2
theorem fill_mem {m : List (Str × Str)} (nd : (m.map Prod.fst).Nodup) {p : Str × Str} (h : p ∈ m) : fillT m p.1 = p.2 := nd_val nd (get_mem (get_some (List.mem_map.mpr ⟨p, h, rfl⟩))) h
def ordS (m : List (Str × Str)) : List (Str × Str) := (srtS (m.map Prod.fst)).map fun k => (k, fillT m k)
def p2L (p : Str × Str) : List Str := [p.1, p.2]
def prS (m : List (Str × Str)) : PPs := (ordS m).map p2L
def mpL : List Str → Str × Str
  | [a, b] => (a, b)
  | _ => ("", "")
def mpQ (z : PPs) : List (Str × Str) := z.map mpL
theorem mpQ_prS (m : List (Str × Str)) : mpQ (prS m) = ordS m := by
  unfold mpQ prS
  rw [List.map_map]
  have : (mpL ∘ p2L) = id := rfl
  rw [this, List.map_id]
theorem ordS_keys (m : List (Str × Str)) : (ordS m).map Prod.fst = srtS (m.map Prod.fst) := by
  unfold ordS
  rw [List.map_map]
  exact List.map_id _
theorem ordS_len (m : List (Str × Str)) : (ordS m).length = m.length := by
  unfold ordS
  rw [List.length_map, (srtS_perm _).length_eq, List.length_map]
theorem mem_ordS {m : List (Str × Str)} (nd : (m.map Prod.fst).Nodup) {p : Str × Str} : p ∈ ordS m ↔ p ∈ m := by
  unfold ordS
  rw [List.mem_map]
  constructor
  · rintro ⟨k, hk, rfl⟩
    exact get_mem (get_some ((srtS_perm _).mem_iff.mp hk))
  · intro h
    exact ⟨p.1, (srtS_perm _).mem_iff.mpr (List.mem_map.mpr ⟨p, h, rfl⟩), by rw [fill_mem nd h]⟩
theorem MapOk.ord {m : List (Str × Str)} (h : MapOk m) : MapOk (ordS m) := ⟨by rw [ordS_keys]; exact (srtS_perm _).nodup_iff.mpr h.nd, by rw [ordS_len]; exact h.len, fun p hp => h.sok p ((mem_ordS h.nd).mp hp)⟩
theorem get_ord {m : List (Str × Str)} (nd : (m.map Prod.fst).Nodup) (k : Str) : getS (ordS m) k = getS m k := by
  by_cases c : k ∈ m.map Prod.fst
  · have c2 : k ∈ (ordS m).map Prod.fst := by rw [ordS_keys]; exact (srtS_perm _).mem_iff.mpr c
    have h1 := get_some c
    have h2 := get_some c2
    have h3 := get_mem h1
    have h4 := (mem_ordS nd).mp (get_mem h2)
    rw [h1, h2, nd_val nd h3 h4]
  · rw [get_none c, get_none (by rw [ordS_keys]; exact fun z => c ((srtS_perm _).mem_iff.mp z))]
theorem fill_ord {m : List (Str × Str)} (nd : (m.map Prod.fst).Nodup) (k : Str) : fillT (ordS m) k = fillT m k := by
  unfold fillT
  rw [get_ord nd]
theorem srtS_idem (l : List Str) : srtS (srtS l) = srtS l := (srtS_eq (srtS_perm l) (srtS_pw l)).symm ▸ (srtS_eq (List.Perm.refl _) (srtS_pw l)).symm
theorem ord_idem {m : List (Str × Str)} (nd : (m.map Prod.fst).Nodup) : ordS (ordS m) = ordS m := by
  have h : ordS (ordS m) = (srtS ((ordS m).map Prod.fst)).map fun k => (k, fillT (ordS m) k) := rfl
  rw [h, ordS_keys, srtS_idem]
  unfold ordS
  refine List.map_congr_left fun k _ => ?_
  show (k, fillT (ordS m) k) = _
  rw [fill_ord nd]
theorem mergeD_new : ∀ (m acc : List (Str × Str)), ((acc ++ m).map Prod.fst).Nodup → mergeD (acc.map dicE) (m.map dicE) = (acc ++ m).map dicE
  | [], acc, _ => by simp [mergeD]
  | p :: m, acc, h => by
    have e1 : mergeD (acc.map dicE) ((p :: m).map dicE) = mergeD (putD (acc.map dicE) (.inr p.1) (.str p.2)) (m.map dicE) := rfl
    rw [e1, put_dicS, put_new, mergeD_new m (acc ++ [(p.1, p.2)]) (by simpa using h)]
    · simp
    · intro z
      rw [List.map_append, List.nodup_append] at h
      exact h.2.2 p.1 z p.1 (by simp) rfl
theorem mergeD_nil {m : List (Str × Str)} (h : (m.map Prod.fst).Nodup) : mergeD [] (m.map dicE) = m.map dicE := by
  have := mergeD_new m [] (by simpa using h)
  simpa using this
theorem kd_prS {m : List (Str × Str)} (h : MapOk m) : kdOf (prS m) = (ordS m).map dicE := by
  unfold kdOf prS
  rw [List.map_map]
  have : (prKD ∘ p2L) = dicE := rfl
  rw [this]
  exact mergeD_nil h.ord.nd
/-- maps in order, each once -/
def inOrd (ms : List (List (Str × Str))) : List (List (Str × Str)) := (srtK ltQ (onceP (ms.map prS))).map mpQ
def psPairs : PSp := A1 fun d n q _ => ∃ m, d = dicS m ∧ MapOk m ∧ q (.lst ((prS m).map tupD)) n
def psOrdered : PSp := A1 fun d n q _ => ∃ m, d = dicS m ∧ MapOk m ∧ q (dicS (ordS m)) n
def psInOrder : PSp := A1 fun d n q _ => ∃ ms : List (List (Str × Str)), itemsD d = some (ms.map dicS) ∧ (∀ m ∈ ms, MapOk m) ∧ ms.length ≤ 70 ∧ q (.lst ((inOrd ms).map dicS)) n
theorem nox_pairs : NoXc psPairs := fun args n q x x' h => by
  obtain ⟨a, rfl, h⟩ := A1_of h
  exact h
theorem nox_ordered : NoXc psOrdered := fun args n q x x' h => by
  obtain ⟨a, rfl, h⟩ := A1_of h
  exact h
theorem nox_inOrder : NoXc psInOrder := fun args n q x x' h => by
  obtain ⟨a, rfl, h⟩ := A1_of h
  exact h
theorem pairs_go {m : List (Str × Str)} {n : Nat} {q : D → Nat → Prop} {x : PX} (h : MapOk m) (k : q (.lst ((prS m).map tupD)) n) : psPairs [.val (dicS m)] n q x := ⟨m, rfl, h, k⟩
theorem inOrd_mem {ms : List (List (Str × Str))} {z : PPs} (h : z ∈ srtK ltQ (onceP (ms.map prS))) : ∃ m ∈ ms, z = prS m := by
  have h1 := mem_once.mp ((srtK_perm _ _).mem_iff.mp h)
  obtain ⟨m, h2, h3⟩ := List.mem_map.mp h1
  exact ⟨m, h2, h3.symm⟩
section
variable {X : Cx} {K : PySem.W.Frag} {P : Program} {w : World}
theorem bagEP (hP : X.prog = P) (hw : X.w = w) (hK : X.K = K) (hu : X.A.units + 20 < cLine) : Bag X (fun D => SetKO (ppH P w) D []) (addE (ElP K) (ppH P w)) :=
  bagE elP_B hP hw hK (iso_tup (iso_tup iso_str)) (show 2 ≤ 8 by decide) hu
theorem cr_sortEP (hP : X.prog = P) (hw : X.w = w) (hK : X.K = K) (hc : X.calm = true) (hu : X.A.units + 20 < cLine) : CallR X (.builtin "sorted") (rSortSE (tupC (tupC strC)) (ElP K) (ppH P w)) :=
  cr_sortSE elP_B tot_Q hP hw hK (iso_tup (iso_tup iso_str)) hc (fun h2 hu st => sortable_tup (C := tupC strC) h2 (tupK strK).T2 hu st) (show X.A.units + (2 + 4) < cLine by omega)
end
section
variable {K : PySem.W.Frag} {P : Program} {w : World} {te : TE} {pe : PEx}
theorem all2_kv {H : Hp} : ∀ {xs : List Addr} {zs : List PPs}, All2 (fun x z => H x = some (HO.dK (kvOf z))) xs zs → All2 (fun x kv => H x = some (HO.dK kv)) xs (zs.map kvOf)
  | _, _, .nil => .nil
  | _, _, .cons a b => .cons a (all2_kv b)
theorem all2_ro {N : Hp} : ∀ (zs : List PPs), All2 (fun kv d => Ro K N (.dK kv) d) (zs.map kvOf) (zs.map fun z => D.dic (kdOf z))
  | [] => .nil
  | z :: zs => .cons (ro_kv z) (all2_ro zs)
theorem fn_inOrder {Ns : List Str} {vs : List V} {H : Hp} {Q : VK} {E : XK} {D : Ends} (hD : D.rt = Q) (hl : liftFF K psInOrder vs H Q E) (hN : Ns.length = 4) (hv : vs.length = 1) (he : SimE K WF te pe)
    (hp : ∀ (d : G39.D) (m : List (Str × Str)) (n : Nat) (q : G39.D → Nat → Prop), MapOk m → q (.lst ((prS m).map tupD)) n → pe [.val d, .un, .val (dicS m), .un] n q noX) :
    tSeq (tAsg (tCB (rSortSE (tupC (tupC strC)) (ElP K) (ppH P w)) (tCons (tSg (fun D => SetKO (ppH P w) D []) (addE (ElP K) (ppH P w)) (iOr (iList K (tVar 0)) (iTup K (tVar 0))) (gName 2) tYes (tCB (rTupE K) (tCons te tNil)) [2]) tNil)) (gName 1))
      (tRet (tLc (iList K (tVar 1)) (gName 3) tYes (tCB (rDictE K) (tCons (tVar 3) tNil)) [3])) D (L2.start Ns vs) H := by
  obtain ⟨so, F, as, n, q, s, c, ns, ag, p, k⟩ := hl
  obtain ⟨d, rfl, ms, hi, hm, h70, hq⟩ := A1_of p
  have en : En K so F H (L2.start Ns vs) [.val d, .un, .un, .un] n := en_start (m := 3) s c ns ag (by omega)
  have sl : (L2.start Ns vs).length = 4 := en.len
  refine su_sortE (W := WF) (wi := iOr (iList K (tVar 0)) (iTup K (tVar 0))) (pi := pItQ (pVar 0)) (js := [2]) (pg := pgN 2) (pt := pYes) (SimJ.i (sj_q 0)) (sg_name 2) (by decide) st_yes he so F H _ _ n (fun ks n1 => ks = srtK ltQ (onceP (ms.map prS)) ∧ n1 = n) noX _ en ⟨_, hi, by rw [List.length_map]; omega, ?_⟩ xo_no fun L pp N H1 n1 s1 c1 hpp np sp hH hL hq1 => ?_
  · refine colE_of (l := ms) (v := dicS) (g := prS) (fun m hmm kk hk => ?_) ?_ ?_
    · exact hp d m n _ (hm m hmm) hk
    · rw [List.nil_append]
      have := once_le (ms.map prS)
      rw [List.length_map] at this
      omega
    · rw [List.nil_append]
      exact ⟨rfl, rfl⟩
  · obtain ⟨hk, rfl⟩ := hq1
    have hz : ∀ z ∈ L, ∃ m ∈ ms, z.2 = prS m := fun z hz => inOrd_mem (by rw [← hk]; exact List.mem_map.mpr ⟨z, hz, rfl⟩)
    refine su_dicts (i := 1) (j := 3) (List.getElem?_set_self (by omega)) (by decide) (by rw [List.length_set]; omega) hH s1.sub hL (fun z h y hy => ?_) ?_ (fun z h => ?_) fun ps Dl H2 kp hDl hps nd hd al => ?_
    · obtain ⟨m, _, e⟩ := hz z h
      rw [e] at hy
      obtain ⟨p, _, rfl⟩ := List.mem_map.mp hy
      rfl
    · have e1 : L.length = (srtK ltQ (onceP (ms.map prS))).length := by rw [← hk, List.length_map]
      have := once_le (ms.map prS)
      rw [e1, (srtK_perm _ _).length_eq]
      rw [List.length_map] at this
      omega
    · obtain ⟨m, hm', e⟩ := hz z h
      have := (hm m hm').len
      rw [e]
      unfold prS
      rw [List.length_map, ordS_len]
      omega
    · have st : Step so F H N H2 := ⟨fun a u e => (s1.sub a u e).imp (kp a u) fun ⟨z, o, e2⟩ => ⟨z, o, kp _ _ e2⟩, s1.ex, fun a o hs e => kp _ _ (s1.keep a o hs e), s1.new⟩
      have cc : SrcN so H2 n1 := fun sa e => by
        obtain ⟨c0, u, m, h1, r⟩ := c1 sa e
        exact ⟨c0, u, m, kp _ _ h1, r⟩
      rw [hD]
      refine k Dl ps _ _ N H2 n1 st cc (live_of s1 c1 hDl) (s1.sub.nil hDl) (c1.ne hDl) (fun x hx => ⟨live_of s1 c1 (hps x hx), s1.sub.nil (hps x hx), c1.ne (hps x hx)⟩) nd hd (all2_kv al) (all2_ro (L.map (·.2))) ?_
      rw [hk]
      have e2 : ((srtK ltQ (onceP (ms.map prS))).map fun z => G39.D.dic (kdOf z)) = (inOrd ms).map dicS := by
        unfold inOrd
        rw [List.map_map]
        refine List.map_congr_left fun z hz => ?_
        obtain ⟨m, hmm, rfl⟩ := inOrd_mem hz
        show G39.D.dic (kdOf (prS m)) = dicS (mpQ (prS m))
        rw [kd_prS (hm m hmm), mpQ_prS]
        rfl
      rw [e2]
      exact hq
end
end G39

/-! maps: agree, above, joined, only some keys; plain -/
namespace G39
open PySem PySem.Spec PyProof.Rows L2 Evl
def agreeS (m1 m2 : List (Str × Str)) : Bool := (m1.map Prod.fst).all fun k => decide ((getS m2 k).getD (fillT m1 k) = fillT m1 k)
def aboveS (m1 m2 : List (Str × Str)) : Bool := (m2.map Prod.fst).all fun k => decide (getS m1 k = some (fillT m2 k))
def mergS (m1 m2 : List (Str × Str)) : List (Str × Str) := m2.foldl (fun l p => putS l p.1 p.2) m1
def onlyS (m : List (Str × Str)) (ks : List Str) : List (Str × Str) := (ordS m).filter fun p => decide (p.1 ∈ ks)
theorem agree_iff {m1 m2 : List (Str × Str)} : agreeS m1 m2 = true ↔ ∀ k ∈ m1.map Prod.fst, k ∈ m2.map Prod.fst → fillT m1 k = fillT m2 k := by
  unfold agreeS
  rw [List.all_eq_true]
  refine forall_congr' fun k => forall_congr' fun hk => ?_
  rw [decide_eq_true_iff]
  by_cases c : k ∈ m2.map Prod.fst
  · rw [get_some c]
    exact ⟨fun h _ => h.symm, fun h => (h c).symm⟩
  · rw [get_none c]
    exact ⟨fun _ z => absurd z c, fun _ => rfl⟩
theorem agree_comm (m1 m2 : List (Str × Str)) : agreeS m2 m1 = agreeS m1 m2 := by
  rw [Bool.eq_iff_iff, agree_iff, agree_iff]
  exact ⟨fun h k h1 h2 => (h k h2 h1).symm, fun h k h1 h2 => (h k h2 h1).symm⟩
theorem agree_self (m : List (Str × Str)) : agreeS m m = true := agree_iff.mpr fun _ _ _ => rfl
theorem above_self (m : List (Str × Str)) : aboveS m m = true := by
  unfold aboveS
  rw [List.all_eq_true]
  intro k hk
  rw [get_some hk]
  simp
theorem putS_keys (m : List (Str × Str)) (k z : Str) : (putS m k z).map Prod.fst = if k ∈ m.map Prod.fst then m.map Prod.fst else m.map Prod.fst ++ [k] := by
  have e : (m.any fun p => decide (p.1 = k)) = true ↔ k ∈ m.map Prod.fst := by
    rw [List.any_eq_true, List.mem_map]
    exact ⟨fun ⟨p, h1, h2⟩ => ⟨p, h1, by simpa using h2⟩, fun ⟨p, h1, h2⟩ => ⟨p, h1, by simpa using h2⟩⟩
  unfold putS
  by_cases c : k ∈ m.map Prod.fst
  · rw [if_pos (e.mpr c), if_pos c, List.map_map]
    refine List.map_congr_left fun p _ => ?_
    show (if p.1 = k then (p.1, z) else p).1 = p.1
    split <;> rfl
  · rw [if_neg (fun h => c (e.mp h)), if_neg c, List.map_append]
    rfl
theorem putS_mem {m : List (Str × Str)} {k z : Str} {p : Str × Str} (h : p ∈ putS m k z) : p ∈ m ∨ p = (k, z) := by
  unfold putS at h
  split at h
  · obtain ⟨y, hy, e⟩ := List.mem_map.mp h
    by_cases c : y.1 = k
    · rw [if_pos c, c] at e
      exact .inr e.symm
    · rw [if_neg c] at e
      exact .inl (e ▸ hy)
  · rcases List.mem_append.mp h with h | h
    · exact .inl h
    · exact .inr (List.mem_singleton.mp h)
/-- a map in the making -/
structure MapL (m : List (Str × Str)) (N : Nat) : Prop where
  nd : (m.map Prod.fst).Nodup
  len : m.length ≤ N
  sok : ∀ p ∈ m, SOk p.1 ∧ SOk p.2
theorem MapL.ok {m : List (Str × Str)} {N : Nat} (h : MapL m N) (hN : N ≤ 40) : MapOk m := ⟨h.nd, by have := h.len; omega, h.sok⟩
theorem MapL.put {m : List (Str × Str)} {N : Nat} (h : MapL m N) {k z : Str} (hk : SOk k) (hz : SOk z) : MapL (putS m k z) (N + 1) := by
  refine ⟨?_, ?_, fun p hp => ?_⟩
  · rw [putS_keys]
    split
    · exact h.nd
    · rename_i c
      exact List.nodup_append.mpr ⟨h.nd, by simp, fun a ha b hb e => c (by rw [List.mem_singleton.mp hb] at e; exact e ▸ ha)⟩
  · have e : (putS m k z).length = ((putS m k z).map Prod.fst).length := by rw [List.length_map]
    have := h.len
    rw [e, putS_keys]
    split
    · rw [List.length_map]; omega
    · rw [List.length_append, List.length_map]; simp; omega
  · rcases putS_mem hp with hp | rfl
    · exact h.sok p hp
    · exact ⟨hk, hz⟩
theorem MapL.merg : ∀ {m2 m1 : List (Str × Str)} {N : Nat}, MapL m1 N → (∀ p ∈ m2, SOk p.1 ∧ SOk p.2) → MapL (mergS m1 m2) (N + m2.length)
  | [], m1, N, h, _ => h
  | p :: m2, m1, N, h, hs => by
    have h1 := hs p (List.mem_cons_self ..)
    have := MapL.merg (m2 := m2) (h.put h1.1 h1.2) fun q hq => hs q (List.mem_cons_of_mem _ hq)
    rw [List.length_cons]
    have e : N + (m2.length + 1) = N + 1 + m2.length := by omega
    rw [e]
    exact this
theorem MapL.ord {m : List (Str × Str)} {N : Nat} (h : MapL m N) : MapL (ordS m) N := ⟨by rw [ordS_keys]; exact (srtS_perm _).nodup_iff.mpr h.nd, by rw [ordS_len]; exact h.len, fun p hp => h.sok p ((mem_ordS h.nd).mp hp)⟩
theorem merge_dicS : ∀ (m acc : List (Str × Str)), mergeD (acc.map dicE) (m.map dicE) = (mergS acc m).map dicE
  | [], _ => rfl
  | p :: m, acc => by
    have e1 : mergeD (acc.map dicE) ((p :: m).map dicE) = mergeD (putD (acc.map dicE) (.inr p.1) (.str p.2)) (m.map dicE) := rfl
    rw [e1, put_dicS, merge_dicS m]
    rfl
theorem merge_both {m1 m2 : List (Str × Str)} (nd : (m1.map Prod.fst).Nodup) : mergeD (mergeD [] (m1.map dicE)) (m2.map dicE) = (mergS m1 m2).map dicE := by rw [mergeD_nil nd, merge_dicS]
theorem self_map {m : List (Str × Str)} (nd : (m.map Prod.fst).Nodup) : (m.map Prod.fst).map (fun k => (k, fillT m k)) = m := by
  rw [List.map_map]
  have : ∀ p ∈ m, ((fun k => (k, fillT m k)) ∘ Prod.fst) p = p := fun p hp => by
    show (p.1, fillT m p.1) = p
    rw [fill_mem nd hp]
  rw [List.map_congr_left this, List.map_id']
theorem only_nd {m : List (Str × Str)} (nd : (m.map Prod.fst).Nodup) (ks : List Str) : ((onlyS m ks).map Prod.fst).Nodup := by
  have h : (ordS m).map Prod.fst = srtS (m.map Prod.fst) := ordS_keys m
  have h2 : ((ordS m).map Prod.fst).Nodup := by rw [h]; exact (srtS_perm _).nodup_iff.mpr nd
  exact ((List.filter_sublist (l := ordS m)).map Prod.fst).nodup h2
theorem only_keys_eq (m : List (Str × Str)) (ks : List Str) : (onlyS m ks).map Prod.fst = (srtS (m.map Prod.fst)).filter fun k => decide (k ∈ ks) := by
  rw [← ordS_keys, List.filter_map]
  rfl
theorem only_mem {m : List (Str × Str)} (nd : (m.map Prod.fst).Nodup) {ks : List Str} {p : Str × Str} (h : p ∈ onlyS m ks) : p ∈ m := (mem_ordS nd).mp (List.mem_filter.mp h).1
theorem only_len (m : List (Str × Str)) (ks : List Str) : (onlyS m ks).length ≤ m.length := by
  have := List.length_filter_le (fun p : Str × Str => decide (p.1 ∈ ks)) (ordS m)
  rw [ordS_len] at this
  exact this
/-! promises -/
def psAgree : PSp := A2 fun a b n q _ => ∃ m1 m2, a = dicS m1 ∧ b = dicS m2 ∧ MapOk m1 ∧ MapOk m2 ∧ q (.bl (agreeS m1 m2)) n
def psAbove : PSp := A2 fun a b n q _ => ∃ m1 m2, a = dicS m1 ∧ b = dicS m2 ∧ MapOk m1 ∧ MapOk m2 ∧ q (.bl (aboveS m1 m2)) n
def psJoined : PSp := A2 fun a b n q _ => ∃ m1 m2, a = dicS m1 ∧ b = dicS m2 ∧ MapL m1 20 ∧ MapL m2 20 ∧ q (dicS (ordS (mergS m1 m2))) n
def psOnly : PSp := A2 fun a b n q _ => ∃ m ks, a = dicS m ∧ b = .lst (ks.map .str) ∧ MapOk m ∧ ks.length ≤ 1000 ∧ q (dicS (onlyS m ks)) n
def psOrdL : PSp := A1 fun d n q _ => ∃ ms : List (List (Str × Str)), d = .lst (ms.map dicS) ∧ (∀ m ∈ ms, MapOk m) ∧ ms.length ≤ 70 ∧ q (.lst ((inOrd ms).map dicS)) n
def psMapL : PSp := S2 fun a b n q _ => ∃ (rs : List (Str × Nat)) (cs xs : List Str) (sh : Int), a = poolD rs cs xs ∧ b = .int sh ∧ PoolW rs cs xs ∧ n ≤ 500000 ∧ ∀ m n', MapL m 5 → n' ≤ n + 20 → q (dicS m) n'
def psTwo : PSp := S2 fun a b n q _ => ∃ m1 m2, a = dicS m1 ∧ b = dicS m2 ∧ MapL m1 10 ∧ MapL m2 10 ∧ n ≤ 500000 ∧ ∀ n', n' ≤ n + 30 → q (.bl true) n'
theorem nox_joined : NoXc psJoined := fun args n q x x' h => by
  obtain ⟨a, b, rfl, h⟩ := A2_of h
  exact h
theorem nox_only : NoXc psOnly := fun args n q x x' h => by
  obtain ⟨a, b, rfl, h⟩ := A2_of h
  exact h
section
variable {n : Nat} {q : D → Nat → Prop} {x : PX} {m m1 m2 : List (Str × Str)}
theorem ordered_go (h : MapOk m) (k : q (dicS (ordS m)) n) : psOrdered [.val (dicS m)] n q x := ⟨m, rfl, h, k⟩
theorem inOrder_go {ms : List (List (Str × Str))} {d : D} (hd : itemsD d = some (ms.map dicS)) (h : ∀ m ∈ ms, MapOk m) (hl : ms.length ≤ 70) (k : q (.lst ((inOrd ms).map dicS)) n) : psInOrder [.val d] n q x := ⟨ms, hd, h, hl, k⟩
theorem agree_go (h1 : MapOk m1) (h2 : MapOk m2) (k : q (.bl (agreeS m1 m2)) n) : psAgree [.val (dicS m1), .val (dicS m2)] n q x := ⟨m1, m2, rfl, rfl, h1, h2, k⟩
theorem above_go (h1 : MapOk m1) (h2 : MapOk m2) (k : q (.bl (aboveS m1 m2)) n) : psAbove [.val (dicS m1), .val (dicS m2)] n q x := ⟨m1, m2, rfl, rfl, h1, h2, k⟩
theorem joined_go (h1 : MapL m1 20) (h2 : MapL m2 20) (k : q (dicS (ordS (mergS m1 m2))) n) : psJoined [.val (dicS m1), .val (dicS m2)] n q x := ⟨m1, m2, rfl, rfl, h1, h2, k⟩
theorem only_go {ks : List Str} (h1 : MapOk m) (h2 : ks.length ≤ 1000) (k : q (dicS (onlyS m ks)) n) : psOnly [.val (dicS m), .val (.lst (ks.map .str))] n q x := ⟨m, ks, rfl, rfl, h1, h2, k⟩
theorem ordL_go {ms : List (List (Str × Str))} (h : ∀ m ∈ ms, MapOk m) (hl : ms.length ≤ 70) (k : q (.lst ((inOrd ms).map dicS)) n) : psOrdL [.val (.lst (ms.map dicS))] n q x := ⟨ms, rfl, h, hl, k⟩
theorem mapL_go {rs : List (Str × Nat)} {cs xs : List Str} {sh : Int} (po : PoolW rs cs xs) (hn : n ≤ 500000) (k : ∀ m n', MapL m 5 → n' ≤ n + 20 → q (dicS m) n') : psMapL [.src, .val (poolD rs cs xs), .val (.int sh)] n q x := ⟨rs, cs, xs, sh, rfl, rfl, po, hn, k⟩
theorem two_go (h1 : MapL m1 10) (h2 : MapL m2 10) (hn : n ≤ 500000) (k : ∀ n', n' ≤ n + 30 → q (.bl true) n') : psTwo [.src, .val (dicS m1), .val (dicS m2)] n q x := ⟨m1, m2, rfl, rfl, h1, h2, hn, k⟩
end
/-! maps in order -/
theorem once_perm {κ : Type} [DecidableEq κ] {l m : List κ} (h : ∀ z, z ∈ l ↔ z ∈ m) : (onceP l).Perm (onceP m) :=
  (List.perm_ext_iff_of_nodup (once_nodup l) (once_nodup m)).mpr fun z => by rw [mem_once, mem_once]; exact h z
theorem inOrd_rev (ms : List (List (Str × Str))) : inOrd ms.reverse = inOrd ms := by
  unfold inOrd
  rw [srtK_eq tot_Q ((srtK_perm ltQ _).trans (once_perm (m := ms.map prS) fun z => by simp)) (srtK_pw tot_Q _)]
/-- each once, of a list in order -/
def adjK {κ : Type} [DecidableEq κ] (acc : List κ) (a : κ) : List κ := if acc = [] ∨ acc.getLast? ≠ some a then acc ++ [a] else acc
structure AdjOk {κ : Type} (lt : κ → κ → Bool) (done acc : List κ) : Prop where
  mem : ∀ z, z ∈ acc ↔ z ∈ done
  nd : acc.Nodup
  pw : acc.Pairwise fun a b => (!lt b a) = true
  last : acc.getLast? = done.getLast?
theorem AdjOk.step {κ : Type} [DecidableEq κ] {lt : κ → κ → Bool} (O : Tot' lt) {done acc : List κ} {a : κ} (h : AdjOk lt done acc) (hs : (done ++ [a]).Pairwise fun a b => (!lt b a) = true) : AdjOk lt (done ++ [a]) (adjK acc a) := by
  obtain ⟨hd, _, hda⟩ := List.pairwise_append.mp hs
  have hle : ∀ z ∈ acc, (!lt a z) = true := fun z hz => hda z ((h.mem z).mp hz) a (by simp)
  unfold adjK
  split
  · rename_i c
    refine ⟨fun z => by rw [List.mem_append, List.mem_append, h.mem], ?_, ?_, by simp⟩
    · refine List.nodup_append.mpr ⟨h.nd, by simp, fun z hz b hb e => ?_⟩
      rw [List.mem_singleton.mp hb] at e
      subst e
      -- z in acc and last of acc is not z
      have hne : acc ≠ [] := fun e => by rw [e] at hz; cases hz
      rcases c with c | c
      · exact hne c
      · obtain ⟨y, hy⟩ : ∃ y, acc.getLast? = some y := ⟨_, List.getLast?_eq_some_getLast hne⟩
        have hya : y ∈ acc := List.mem_of_getLast? hy
        have h1 : (!lt z y) = true := hle y hya
        have h2 : z = y ∨ (!lt y z) = true := by
          obtain ⟨r, er⟩ : ∃ r, acc = r ++ [y] := List.getLast?_eq_some_iff.mp hy
          have pw := h.pw
          rw [er] at pw hz
          obtain ⟨_, _, pp⟩ := List.pairwise_append.mp pw
          rcases List.mem_append.mp hz with hz | hz
          · exact .inr (pp z hz y (by simp))
          · exact .inl (List.mem_singleton.mp hz)
        rcases h2 with e | h2
        · exact c (by rw [hy, e])
        · exact c (by rw [hy, O.tri z y (by simpa using h1) (by simpa using h2)])
    · refine List.pairwise_append.mpr ⟨h.pw, by simp, fun z hz b hb => ?_⟩
      rw [List.mem_singleton.mp hb]
      exact hle z hz
  · rename_i c
    have c2 : acc.getLast? = some a := by
      by_cases e : acc.getLast? = some a
      · exact e
      · exact absurd (.inr e) c
    refine ⟨fun z => ?_, h.nd, h.pw, by rw [c2]; simp⟩
    rw [List.mem_append, h.mem, List.mem_singleton]
    exact ⟨.inl, fun z' => z'.elim id fun e => (h.mem z).mp (e ▸ List.mem_of_getLast? c2)⟩
theorem adj_inOrd {ms : List (List (Str × Str))} {acc : List PPs} (h : AdjOk ltQ (srtK ltQ (ms.map prS)) acc) : acc.map mpQ = inOrd ms := by
  unfold inOrd
  rw [← srtK_eq tot_Q (xs := onceP (ms.map prS)) ?_ h.pw]
  exact (List.perm_ext_iff_of_nodup h.nd (once_nodup _)).mpr fun z => by rw [h.mem, (srtK_perm _ _).mem_iff, mem_once]
theorem inOrd_each {ms : List (List (Str × Str))} {m : List (Str × Str)} (h : m ∈ inOrd ms) : ∃ m' ∈ ms, m = ordS m' := by
  unfold inOrd at h
  obtain ⟨z, hz, rfl⟩ := List.mem_map.mp h
  obtain ⟨m', h1, rfl⟩ := inOrd_mem hz
  exact ⟨m', h1, mpQ_prS m'⟩
theorem inOrd_len (ms : List (List (Str × Str))) : (inOrd ms).length ≤ ms.length := by
  unfold inOrd
  rw [List.length_map, (srtK_perm _ _).length_eq]
  have := once_le (ms.map prS)
  rw [List.length_map] at this
  exact this
/-! == -/
theorem cmp_pl {cO : D → D → Bool → Prop} {n : Nat} {a b : D} (pa : plD a = true) (pb : plD b = true) (da : dpD a ≤ 50) (db : dpD b ≤ 50) : CmpD cO n a b (decide (a = b)) := by
  obtain ⟨d, e1, _⟩ := pl_py _ pa
  obtain ⟨e, e2, _⟩ := pl_py _ pb
  have := @CmpD.pl cO n _ _ d e e1 e2 (pl_shaped e1 pa da) (pl_shaped e2 pb db)
  rw [pl_eqv _ _ d e pa pb e1 e2] at this
  exact this
theorem cmp_self {cO : D → D → Bool → Prop} {n : Nat} {a : D} (pa : plD a = true) (da : dpD a ≤ 50) : CmpD cO n a a true := by
  have := cmp_pl (cO := cO) (n := n) pa pa da da
  rwa [decide_eq_true rfl] at this
theorem cmps_dics {cO : D → D → Bool → Prop} {n : Nat} : ∀ {ms : List (List (Str × Str))}, (∀ m ∈ ms, (m.map Prod.fst).Nodup) → CmpDs cO (n + 1) (ms.map dicS) (ms.map dicS) true
  | [], _ => .nil
  | m :: ms, h => by
    have := CmpDs.cons (cmp_dicS (cO := cO) (n := n) (h m (List.mem_cons_self ..))) (cmps_dics (ms := ms) fun m hm => h m (List.mem_cons_of_mem _ hm))
    simpa using this
theorem cmp_dics {cO : D → D → Bool → Prop} {n : Nat} {ms : List (List (Str × Str))} (h : ∀ m ∈ ms, (m.map Prod.fst).Nodup) : CmpD cO (n + 2) (.lst (ms.map dicS)) (.lst (ms.map dicS)) true := by
  have := @CmpD.lst cO (n + 1) _ _ _ (cmps_dics (n := n) h)
  simpa using this
theorem pl_pairs {m : List (Str × Str)} (h : MapOk m) : plD (.lst ((prS m).map tupD)) = true ∧ dpD (.lst ((prS m).map tupD)) ≤ 2 := by
  obtain ⟨h1, h2⟩ := pl_tups (ps := prS m) fun p hp z hz => by
    obtain ⟨y, hy, rfl⟩ := List.mem_map.mp hp
    have := h.sok y ((mem_ordS h.nd).mp hy)
    rcases List.mem_cons.mp hz with rfl | hz
    · exact this.1
    · rw [List.mem_singleton.mp hz]
      exact this.2
  exact ⟨by simpa [plD] using h1, by simp only [dpD]; omega⟩
theorem pls_pairs : ∀ {ms : List (List (Str × Str))}, (∀ m ∈ ms, MapOk m) → plDs (ms.map fun m => .lst ((prS m).map tupD)) = true ∧ dpDs (ms.map fun m => .lst ((prS m).map tupD)) ≤ 2
  | [], _ => ⟨rfl, by simp [dpDs]⟩
  | m :: ms, h => by
    obtain ⟨h1, h2⟩ := pls_pairs (ms := ms) fun m hm => h m (List.mem_cons_of_mem _ hm)
    obtain ⟨h3, h4⟩ := pl_pairs (h m (List.mem_cons_self ..))
    rw [List.map_cons]
    exact ⟨by simp only [plDs, h1, h3, Bool.and_self], by simp only [dpDs]; omega⟩
theorem prs_prS : ∀ (l : List (Str × Str)), prsD ((l.map p2L).map tupD) = some (l.map dicE)
  | [] => rfl
  | p :: l => by
    have ih := prs_prS l
    rw [List.map_cons, List.map_cons]
    have : prsD (tupD (p2L p) :: (l.map p2L).map tupD) = match dKey (.str p.1), prsD ((l.map p2L).map tupD) with
      | some k, some l => some ((k, D.str p.2) :: l)
      | _, _ => none := rfl
    rw [this, ih]
    rfl
/-- dict(pairs) -/
theorem dictP_go {l : List (Str × Str)} {n : Nat} {q : D → Nat → Prop} {x : PX} (nd : (l.map Prod.fst).Nodup) (k : q (dicS l) n) : gDictP (.lst ((l.map p2L).map tupD)) n q x := by
  refine ⟨_, prs_prS l, ?_⟩
  rw [mergeD_nil nd]
  exact k
theorem sortD_go {m : List (Str × Str)} {n : Nat} {q : D → Nat → Prop} {x : PX} (h : MapOk m) (k : q (.lst ((srtS (m.map Prod.fst)).map .str)) n) : gSortD (dicS m) n q x := by
  refine ⟨m.map Prod.fst, ?_, by rw [List.length_map]; have := h.len; omega, k⟩
  rw [List.map_map, List.map_map]
  rfl
section
variable {K : PySem.W.Frag} {W : WX'}
theorem sf_disp2 {a b c d : Str} : SimF K W (tDisp [(tC (.str a), tC (.str b)), (tC (.str c), tC (.str d))]) (pC (dicS (mergS [] [(a, b), (c, d)]))) := fun so F H σ ρ n q x Q e p xo k pp hp => by
  have fp := e.sub.nil hp
  have sp := e.src.ne hp
  show upd H pp (.dK []) pp = some (.dK []) ∧ _
  refine ⟨upd_same, [(.inr a, .str b), (.inr c, .str d)], rfl, by simp, ?_⟩
  have s0 : Step so F H F (upd H pp (.dK [])) := Step.beside e.sub hp
  have m1 : (mergS [] [(a, b), (c, d)]).map dicE = mergeD [] [(.inr a, .str b), (.inr c, .str d)] := (merge_dicS [(a, b), (c, d)] []).symm
  obtain ⟨g1, g2⟩ := Rps.merge (K := K) (F := F) (kvs := [(.inr a, .str b), (.inr c, .str d)]) (m := [(.inr a, .str b), (.inr c, .str d)]) (kvs0 := []) (l := []) rfl (.cons (.str b) (.cons (.str d) .nil)) rfl .nil
  refine k pp _ _ F _ n (s0.beside' hp fp) ((e.src.beside sp).beside sp) hp fp upd_same sp (.dic g1 g2) ?_
  rw [← m1]
  exact p
end
theorem call_dictPK {X : Cx} {K : PySem.W.Frag} (hK : X.K = K) (hc : X.calm = true) : CallR X (.type "dict") (fun xs H Q => ∃ (a : Addr) (ps : List Addr) (kvs : List (Key × V)), xs = [V.ref a] ∧ SqL K H a (ps.map V.ref) ∧ Paired (fun p kv => SqT K H p [kV kv.1, kv.2]) ps kvs ∧ ∀ p, H p = none → Q (V.ref p) (upd H p (.dK (mergeK [] kvs)))) := by
  subst hK
  exact call_dictP hc
theorem merg_snoc (m1 l : List (Str × Str)) (p : Str × Str) : mergS m1 (l ++ [p]) = putS (mergS m1 l) p.1 p.2 := by
  unfold mergS
  rw [List.foldl_append]
  rfl
end G39

namespace G39
open PySem PySem.Spec PyProof.Rows L2 Evl
def topS (i : Nat) : Stmt := PySem.Challenge.pw_fullestrows_k07_maps_themselves.main.body.getD i (.Pass ⟨0, 0, 0, 0⟩)
abbrev s_pairs_of : Stmt := topS 1
abbrev n_pairs_of : List Str := ["known", "variable"]
theorem sc_pairs_of : FnScope n_pairs_of ["known"] (defScope s_pairs_of) := ⟨rfl, rfl, rfl, by decide +kernel, rfl, by decide +kernel, by decide +kernel⟩
abbrev s_ordered : Stmt := topS 2
abbrev n_ordered : List Str := ["known"]
theorem sc_ordered : FnScope n_ordered ["known"] (defScope s_ordered) := ⟨rfl, rfl, rfl, by decide +kernel, rfl, by decide +kernel, by decide +kernel⟩
abbrev s_in_order : Stmt := topS 3
abbrev n_in_order : List Str := ["several", "keys", "known", "key"]
theorem sc_in_order : FnScope n_in_order ["several"] (defScope s_in_order) := ⟨rfl, rfl, rfl, by decide +kernel, rfl, by decide +kernel, by decide +kernel⟩
abbrev s_agree : Stmt := topS 4
abbrev n_agree : List Str := ["one", "other", "variable"]
theorem sc_agree : FnScope n_agree ["one", "other"] (defScope s_agree) := ⟨rfl, rfl, rfl, by decide +kernel, rfl, by decide +kernel, by decide +kernel⟩
abbrev s_joined : Stmt := topS 5
abbrev n_joined : List Str := ["one", "other"]
theorem sc_joined : FnScope n_joined ["one", "other"] (defScope s_joined) := ⟨rfl, rfl, rfl, by decide +kernel, rfl, by decide +kernel, by decide +kernel⟩
abbrev s_is_above : Stmt := topS 6
abbrev n_is_above : List Str := ["one", "other", "variable"]
theorem sc_is_above : FnScope n_is_above ["one", "other"] (defScope s_is_above) := ⟨rfl, rfl, rfl, by decide +kernel, rfl, by decide +kernel, by decide +kernel⟩
abbrev s_only_keys : Stmt := topS 7
abbrev n_only_keys : List Str := ["known", "variables", "variable", "term"]
theorem sc_only_keys : FnScope n_only_keys ["known", "variables"] (defScope s_only_keys) := ⟨rfl, rfl, rfl, by decide +kernel, rfl, by decide +kernel, by decide +kernel⟩
abbrev s__law_source : Stmt := topS 9
abbrev n__law_source : List Str := ["_law_cell"]
theorem sc__law_source : FnScope n__law_source ["_law_cell"] (defScope s__law_source) := ⟨rfl, rfl, rfl, by decide +kernel, rfl, by decide +kernel, by decide +kernel⟩
abbrev s__law_draw : Stmt := topS 10
abbrev n__law_draw : List Str := ["_law_source_here", "_law_limit", "_law_digit", "_law_mixed"]
theorem sc__law_draw : FnScope n__law_draw ["_law_source_here", "_law_limit"] (defScope s__law_draw) := ⟨rfl, rfl, rfl, by decide +kernel, rfl, by decide +kernel, by decide +kernel⟩
abbrev s__law_name : Stmt := topS 11
abbrev n__law_name : List Str := ["_law_source_here", "_law_letters", "_law_size", "_law_found", "_law_k"]
theorem sc__law_name : FnScope n__law_name ["_law_source_here"] (defScope s__law_name) := ⟨rfl, rfl, rfl, by decide +kernel, rfl, by decide +kernel, by decide +kernel⟩
abbrev s__law_names : Stmt := topS 12
abbrev n__law_names : List Str := ["_law_source_here", "_law_many", "_law_found", "_law_k", "_law_name_here", "_law_spare", "_law_one", "_law_j"]
theorem sc__law_names : FnScope n__law_names ["_law_source_here", "_law_many"] (defScope s__law_names) := ⟨rfl, rfl, rfl, by decide +kernel, rfl, by decide +kernel, by decide +kernel⟩
abbrev s__law_pool : Stmt := topS 13
abbrev n__law_pool : List Str := ["_law_source_here", "_law_tables", "_law_sizes", "_law_constants", "_law_variables", "_law_rows", "_law_k", "_law_name_here"]
theorem sc__law_pool : FnScope n__law_pool ["_law_source_here"] (defScope s__law_pool) := ⟨rfl, rfl, rfl, by decide +kernel, rfl, by decide +kernel, by decide +kernel⟩
abbrev s__law_pairs : Stmt := topS 20
abbrev n__law_pairs : List Str := ["_law_known", "_law_variable"]
theorem sc__law_pairs : FnScope n__law_pairs ["_law_known"] (defScope s__law_pairs) := ⟨rfl, rfl, rfl, by decide +kernel, rfl, by decide +kernel, by decide +kernel⟩
abbrev s__law_ordered : Stmt := topS 21
abbrev n__law_ordered : List Str := ["_law_several", "_law_found", "_law_pairs_here", "_law_known"]
theorem sc__law_ordered : FnScope n__law_ordered ["_law_several"] (defScope s__law_ordered) := ⟨rfl, rfl, rfl, by decide +kernel, rfl, by decide +kernel, by decide +kernel⟩
abbrev s__law_map : Stmt := topS 22
abbrev n__law_map : List Str := ["_law_source_here", "_law_pool_here", "_law_share", "_law_found", "_law_k", "_law_variable"]
theorem sc__law_map : FnScope n__law_map ["_law_source_here", "_law_pool_here", "_law_share"] (defScope s__law_map) := ⟨rfl, rfl, rfl, by decide +kernel, rfl, by decide +kernel, by decide +kernel⟩
abbrev s__law_joined : Stmt := topS 23
abbrev n__law_joined : List Str := ["_law_one", "_law_other", "_law_found", "_law_variable"]
theorem sc__law_joined : FnScope n__law_joined ["_law_one", "_law_other"] (defScope s__law_joined) := ⟨rfl, rfl, rfl, by decide +kernel, rfl, by decide +kernel, by decide +kernel⟩
abbrev s__law_two : Stmt := topS 24
abbrev n__law_two : List Str := ["_law_source_here", "_law_one", "_law_other", "_law_kept", "_law_fine", "_law_above", "_law_both", "_law_some", "_law_told", "_law_variable"]
theorem sc__law_two : FnScope n__law_two ["_law_source_here", "_law_one", "_law_other"] (defScope s__law_two) := ⟨rfl, rfl, rfl, by decide +kernel, rfl, by decide +kernel, by decide +kernel⟩
abbrev s_law : Stmt := topS 25
abbrev n_law : List Str := ["_law_script", "_law_cell", "_law_source_here", "_law_pool_here", "_law_several", "_law_k", "_law_one", "_law_other", "_law_kept", "_law_told", "_law_known"]
theorem sc_law : FnScope n_law ["_law_script"] (defScope s_law) := ⟨rfl, rfl, rfl, by decide +kernel, rfl, by decide +kernel, by decide +kernel⟩
structure TA (K : PySem.W.Frag) (mg : Str → Option Value) : Prop where
  m_all : mg "all" = none
  m_dict : mg "dict" = none
  m_int : mg "int" = none
  m_len : mg "len" = none
  m_list : mg "list" = none
  m_range : mg "range" = none
  m_sorted : mg "sorted" = none
  m_str : mg "str" = none
  m_tuple : mg "tuple" = none
  D_pairs_of : ∃ f fd, DefAt K mg "pairs_of" s_pairs_of ["known"] f fd
  D_ordered : ∃ f fd, DefAt K mg "ordered" s_ordered ["known"] f fd
  D_in_order : ∃ f fd, DefAt K mg "in_order" s_in_order ["several"] f fd
  D_agree : ∃ f fd, DefAt K mg "agree" s_agree ["one", "other"] f fd
  D_joined : ∃ f fd, DefAt K mg "joined" s_joined ["one", "other"] f fd
  D_is_above : ∃ f fd, DefAt K mg "is_above" s_is_above ["one", "other"] f fd
  D_only_keys : ∃ f fd, DefAt K mg "only_keys" s_only_keys ["known", "variables"] f fd
  D__law_source : ∃ f fd, DefAt K mg "_law_source" s__law_source ["_law_cell"] f fd
  D__law_draw : ∃ f fd, DefAt K mg "_law_draw" s__law_draw ["_law_source_here", "_law_limit"] f fd
  D__law_name : ∃ f fd, DefAt K mg "_law_name" s__law_name ["_law_source_here"] f fd
  D__law_names : ∃ f fd, DefAt K mg "_law_names" s__law_names ["_law_source_here", "_law_many"] f fd
  D__law_pool : ∃ f fd, DefAt K mg "_law_pool" s__law_pool ["_law_source_here"] f fd
  D__law_pairs : ∃ f fd, DefAt K mg "_law_pairs" s__law_pairs ["_law_known"] f fd
  D__law_ordered : ∃ f fd, DefAt K mg "_law_ordered" s__law_ordered ["_law_several"] f fd
  D__law_map : ∃ f fd, DefAt K mg "_law_map" s__law_map ["_law_source_here", "_law_pool_here", "_law_share"] f fd
  D__law_joined : ∃ f fd, DefAt K mg "_law_joined" s__law_joined ["_law_one", "_law_other"] f fd
  D__law_two : ∃ f fd, DefAt K mg "_law_two" s__law_two ["_law_source_here", "_law_one", "_law_other"] f fd
end G39

namespace G39
open PySem PySem.Spec PyProof.Rows L2 Evl
section
variable {P : Program} {w : World} {K : PySem.W.Frag} {mg : Str → Option Value} {base : Heap}
theorem ok_draw {f : Addr} {fd : FuncData} (m_int : mg "int" = none) (F : Fun K "_law_draw" "_law_draw" s__law_draw f fd) : FnOk P w K mg base CX0 1 f fd ["_law_source_here", "_law_limit"] spDraw := by
  refine F.ok sc__law_draw (fun vs H Q E h => ?_) (fun cdv A outer s H vs Q E hr h => ?_)
  · obtain ⟨sa, n, lim, rfl, _⟩ := h
    rfl
  · obtain ⟨sa, n, lim, rfl, ⟨cell, cur, c, hs, hc, hb⟩, hn, hl0, hl1, k⟩ := h
    refine ⟨_, (pss_cons (ps_asg (pe_op op_add (pe_ix (ix_listK (K := K) rfl) (pv 0) pe_int (fun _ _ => rfl)) pe_int) (pg_sub (pv 0) pe_int set_list))
      (pss_cons (ps_if (pt_cmpR op_ge (pe_ix (ix_listK (K := K) rfl) (pv 0) pe_int (fun _ _ => rfl)) (pe_op op_powW pe_int pe_int) (nomark _)) (pss_cons (ps_set (i := 2) sc__law_draw.nd rfl (Or.inl rfl) (pe_op op_mod (pe_callTy call_int1 (by rfl) m_int PyProof.Rows.boot_int (pa_cons (pe_ix (ix_listK (K := K) rfl) (pv 0) pe_int (fun _ _ => rfl)) pa_nil)) (pv 1)))
      (pss_cons (ps_asg (pe_op op_fdiv (pe_ix (ix_listK (K := K) rfl) (pv 0) pe_int (fun _ _ => rfl)) (pv 1)) (pg_sub (pv 0) pe_int set_list))
      (pss_one (ps_ret (pv 2))))) pss_nil)
      (pss_cons (ps_set (i := 3) sc__law_draw.nd rfl (Or.inl rfl) (pe_op op_mod (pe_callTy call_int1 (by rfl) m_int PyProof.Rows.boot_int (pa_cons (pe_op op_powW (pe_callTy call_int1 (by rfl) m_int PyProof.Rows.boot_int (pa_cons (pe_op op_add (pe_op op_add (pe_op op_mul (pe_callTy call_int1 (by rfl) m_int PyProof.Rows.boot_int (pa_cons (pe_ix (ix_listK (K := K) rfl) (pv 0) pe_int (fun _ _ => rfl)) pa_nil)) pe_int) (pe_op op_mul (pe_ix (ix_listK (K := K) rfl) (pv 0) pe_int (fun _ _ => rfl)) pe_int)) pe_int) pa_nil)) pe_int) pa_nil)) pe_int))
      (pss_cons (ps_set (i := 3) sc__law_draw.nd rfl (Or.inl rfl) (pe_op op_mod (pe_callTy call_int1 (by rfl) m_int PyProof.Rows.boot_int (pa_cons (pe_op op_powW (pe_callTy call_int1 (by rfl) m_int PyProof.Rows.boot_int (pa_cons (pe_op op_add (pv 3) (pe_op op_mul (pe_op op_mul (pe_ix (ix_listK (K := K) rfl) (pv 0) pe_int (fun _ _ => rfl)) (pe_ix (ix_listK (K := K) rfl) (pv 0) pe_int (fun _ _ => rfl))) pe_int)) pa_nil)) pe_int) pa_nil)) pe_int))
      (pss_one (ps_ret (pe_op op_mod (pe_op op_fdiv (pv 3) pe_int) (pv 1)))))))), ?_⟩
    -- the counter goes up
    refine q_setL (j := 2) hs (ev_op (ev_ixL (j := 2) rfl hs rfl) ev_c rv_I0) (ev_var rfl) ev_c (by show 2 < 3; decide) fun H1 e1 => ?_
    generalize hH2 : upd H1 sa (.lst ([V.int cell, V.int cur, V.int (c : Int)].set 2 (V.int ((c : Int) + 1)))) = H2
    have h1 : H2 sa = some (.lst [.int cell, .int cur, .int ((c : Int) + 1)]) := by
      rw [← hH2]
      exact upd_same
    have x1 : XB sa H H2 := by
      rw [← hH2]
      exact (XB.ex e1).trans XB.upd
    refine q_when (et_test (ev_op (ev_ixL (j := 0) rfl h1 rfl) (ev_op ev_c ev_c (rv_I ⟨by decide, by decide⟩)) rv_I0)) (fun _ H3 e3 => ?_) (fun _ H3 e3 => ?_)
    · have h3 := e3 sa _ h1
      refine q_asg (ev_op (ev_int (ev_ixL (j := 1) rfl h3 rfl)) (ev_var rfl) (rv_I hl0)) fun H4 e4 => ?_
      have h4 := e4 sa _ h3
      refine q_setL (j := 1) h4 (ev_op (ev_ixL (j := 1) rfl h4 rfl) (ev_var rfl) (rv_I ⟨hl0, by omega⟩)) (ev_var rfl) ev_c (by show 1 < 3; decide) fun H5 e5 => ?_
      refine s_ret (ev_var rfl) fun H6 e6 => ?_
      refine k _ H6 (Int.emod_nonneg _ (by omega)) (Int.emod_lt_of_pos _ hl0) ?_ ⟨cell, cur / lim, c + 1, e6 sa _ upd_same, by omega, hb⟩
      exact (((x1.trans (XB.ex e3)).trans (XB.ex e4)).trans ((XB.ex e5).trans XB.upd)).trans (XB.ex e6)
    · have h3 := e3 sa _ h1
      have cb : CMul ((c : Int) + 1) 40699 := .inl ⟨by omega, by omega⟩
      refine q_asg (ev_op (ev_int (ev_op (ev_int (ev_op (ev_op (ev_op (ev_int (ev_ixL (j := 0) rfl h3 rfl)) ev_c (rv_I (.inr ⟨by decide, by decide⟩))) (ev_op (ev_ixL (j := 2) rfl h3 rfl) ev_c (rv_I cb)) rv_I0) ev_c rv_I0)) ev_c (rv_I ?_))) ev_c (rv_I (by decide))) fun H4 e4 => ?_
      · have z := cpow3 (c := cell) (m := 52057) (k := ((c : Int) + 1) * 40699 + 12011) hb (by decide) (by omega)
        rw [← Int.add_assoc] at z
        exact z
      have h4 := e4 sa _ h3
      generalize hm : (cell * 52057 + ((c : Int) + 1) * 40699 + 12011) ^ (3 : Int).toNat % 2147483647 = m1
      have b1 : 0 ≤ m1 ∧ m1 < 2147483647 := by
        rw [← hm]
        exact ⟨Int.emod_nonneg _ (by decide), Int.emod_lt_of_pos _ (by decide)⟩
      have cb2 : CMul ((c : Int) + 1) ((c : Int) + 1) := .inl ⟨by omega, by omega⟩
      refine q_asg (ev_op (ev_int (ev_op (ev_int (ev_op (ev_var rfl) (ev_op (ev_op (ev_ixL (j := 2) rfl h4 rfl) (ev_ixL (j := 2) rfl h4 rfl) (rv_I cb2)) ev_c (rv_I (.inr ⟨by decide, by decide⟩))) rv_I0)) ev_c (rv_I ?_))) ev_c (rv_I (by decide))) fun H5 e5 => ?_
      · refine ⟨by decide, ?_⟩
        have z : Builtin.Int.intBits (m1 + ((c : Int) + 1) * ((c : Int) + 1) * 7919) ≤ 100 := by
          refine bits_of_lt ?_
          have a1 : ((c : Int) + 1) * ((c : Int) + 1) ≤ 1000001 * 1000001 := Int.mul_le_mul (by omega) (by omega) (by omega) (by decide)
          have a0 : 0 ≤ ((c : Int) + 1) * ((c : Int) + 1) := Int.mul_nonneg (by omega) (by omega)
          generalize ((c : Int) + 1) * ((c : Int) + 1) = y at a1 a0
          omega
        generalize Builtin.Int.intBits (m1 + ((c : Int) + 1) * ((c : Int) + 1) * 7919) = y at z
        omega
      refine s_ret (ev_op (ev_op (ev_var rfl) ev_c (rv_I ⟨by decide, by decide⟩)) (ev_var rfl) (rv_I hl0)) fun H6 e6 => ?_
      refine k _ H6 (Int.emod_nonneg _ (by omega)) (Int.emod_lt_of_pos _ hl0) ?_ ⟨cell, cur, c + 1, e6 sa _ (e5 sa _ h4), by omega, hb⟩
      exact (x1.trans (XB.ex e3)).trans (XB.ex (e4.trans (e5.trans e6)))

theorem ok__law_draw (T : TA K mg) {f : Addr} {fd : FuncData} (F : Fun K "_law_draw" "_law_draw" s__law_draw f fd) : FnOk P w K mg base CX0 1 f fd ["_law_source_here", "_law_limit"] (lift K psDraw) := (ok_draw T.m_int F).imp fun _ _ _ _ h => lift_draw h
end
section
variable {P : Program} {w : World} {K : PySem.W.Frag} {mg : Str → Option Value} {base : Heap}
theorem ok__law_name (T : TA K mg)  {f : Addr} {fd : FuncData} (F : Fun K "_law_name" "_law_name" s__law_name f fd) : FnOk P w K mg base CX0 2 f fd ["_law_source_here"] (lift K psLName) := by
  have m_range := T.m_range
  obtain ⟨f__law_draw, d__law_draw, D_law_draw⟩ := T.D__law_draw
  have G_law_draw : FnOk P w K mg base CX0 1 f__law_draw d__law_draw _ (lift K psDraw) := ok__law_draw T D_law_draw.F
  refine F.ok sc__law_name (lift_len (k := 1) S0_len) (fun cdv A outer s H vs Q E hr h => ?_)
  have hl : vs.length = 1 := lift_len (k := 1) S0_len vs H Q E h
  refine ⟨_, (pss_cons (ps_set (i := 1) sc__law_name.nd rfl (Or.inl rfl) pe_str)
      (pss_cons (ps_set (i := 2) sc__law_name.nd rfl (Or.inl rfl) (pe_ix (ix_listK (K := K) rfl) (pe_lst (pa_cons pe_int (pa_cons pe_int (pa_cons pe_int (pa_cons pe_int (pa_cons pe_int (pa_cons pe_int (pa_cons pe_int pa_nil)))))))) (pe_call G_law_draw (hr.mono (by decide)) (by rfl) D_law_draw.g D_law_draw.F.kp D_law_draw.b .nil pass0 (pa_cons (pv 0) (pa_cons pe_int pa_nil))) (fun _ _ => rfl)))
      (pss_cons (ps_set (i := 3) sc__law_name.nd rfl (Or.inl rfl) (pe_ix ix_str (pv 1) (pe_call G_law_draw (hr.mono (by decide)) (by rfl) D_law_draw.g D_law_draw.F.kp D_law_draw.b .nil pass0 (pa_cons (pv 0) (pa_cons pe_int pa_nil))) (fun _ _ => rfl)))
      (pss_cons (ps_for PassesOwn.never rfl (pi_range1 rfl m_range (pa_cons (pv 2) pa_nil)) (pg_name (i := 4) sc__law_name.nd rfl (Or.inl rfl)) (pss_one (ps_set (i := 3) sc__law_name.nd rfl (Or.inl rfl) (pe_op op_add_str (pv 3) (pe_ix ix_str (pe_op op_add_str (pv 1) pe_str) (pe_call G_law_draw (hr.mono (by decide)) (by rfl) D_law_draw.g D_law_draw.F.kp D_law_draw.b .nil pass0 (pa_cons (pv 0) (pa_cons pe_int pa_nil))) (fun _ _ => rfl))))))
      (pss_one (ps_ret (pe_ifExp (pt_cmpR op_ne (pe_slice sl_str (pv 3) po_none (po_some pe_int)) pe_str (nomark _)) (pv 3) (pe_op op_add_str pe_str (pe_slice sl_str (pv 3) (po_some pe_int) po_none))))))))), ?_⟩
  refine fn_sim h (W := fun cls dd _ H => E cls dd H) (m := 4) ((ss_seq (ss_asg se_str (sg_name 1))
      (ss_seq (ss_asg (se_op sr_ixL (SimE.b (SimF.e (sf_lst (sl_cons se_int (sl_cons se_int (sl_cons se_int (sl_cons se_int (sl_cons se_int (sl_cons se_int (sl_cons se_int sl_nil)))))))))) (SimE.b (se_call0 (sa_src 0 (sa_val se_int sa_nil))))) (sg_name 2))
      (ss_seq (ss_asg (se_op sr_ixS (SimE.b (se_var 1)) (SimE.b (se_call0 (sa_src 0 (sa_val se_int sa_nil))))) (sg_name 3))
      (ss_seq (ss_for (sj_rng1 (sl_cons (se_var 2) sl_nil)) (sg_name 4) (ss_asg (se_op sr_addS (SimE.b (se_var 3)) (SimE.b (se_op sr_ixS (SimE.b (se_op sr_addS (SimE.b (se_var 1)) (SimE.b se_str))) (SimE.b (se_call0 (sa_src 0 (sa_val se_int sa_nil))))))) (sg_name 3)))
      (ss_ret (se_if (st_of' (se_op sr_ne (SimE.b (se_slS (SimE.b (se_var 3)) so_none (so_some se_int))) (SimE.b se_str))) (se_var 3) (se_op sr_addS (SimE.b se_str) (SimE.b (se_slS (SimE.b (se_var 3)) (so_some se_int) so_none)))))))))) (fun _ _ _ _ z => z) (by rw [hl]; rfl) fun args n q x hp _ => ?_
  obtain ⟨rfl, hp⟩ := S0_of hp
  obtain ⟨hn, hq⟩ := hp
  simp only [pSeq, pIfS, pOr, pAnd, pNot, pTst, pYes, pUn, pVar, pVarB, pC, pRet, pRetN, pRetB, pNext, pChain, pOp, pAndV, pOrV, pNotV, pIf, pSl, pPart, pNoPart, pNil, pCons, pStar, pLst, pTup, pLc, pItL, pItT, pItS, pRng1, pRng2, pAsg, pAsgF, pDrop, pApp, pExt, pFor, pAug, pPar, pFreeze, pgN, pgTup, pgLst, pgCons, pgNil, pMS, pJoined, pJs, paNil, paVal, paSrc, pCall0, pCall, pSortSg, elP, gI, gI0, gNeg, gAddS, gSS, gSg, gCat, gCatT, gIsN, isNo, gIxL, gIxT, gIxS, gSlL, gSlT, gSlS, gLen, gLenS, gInt, gStrI, gStrS, gAll, gAny, gList, gTuple, gIsi, gJoin, gFind, gSplit, gPart, gFmt, gSortS, gSortLP, gSortSet, gRev, gRepT, gRepS, itemsD, isS, wipeP, List.map_cons, List.map_nil, List.set_cons_zero, List.set_cons_succ, List.getElem?_cons_zero, List.getElem?_cons_succ, List.cons_append, List.nil_append, List.replicate_succ, List.replicate_zero, Bool.false_eq_true, Bool.not_true, Bool.not_false, if_true, if_false, Option.some.injEq, exists_eq_left', true_and, and_true, exists_and_left, exists_eq_left, V.str.injEq, V.int.injEq, isiD, tyD, isiT, tysOk, beq_self_eq_true, Bool.true_or, Bool.or_true, List.mem_cons, true_or, or_true, Option.isSome_some, id_eq, gEq, flD, scal, gLtT, pGet1, pGet2, pDPut, gDGet, gDIn, gSortD, gDictD, gListD, gDictP, isDic, dKey, pMakeQ, pMake0, pCallN, pickL, List.filterMap_cons, List.filterMap_nil, pLc2, pItQ, pWhile]
  refine ⟨by simp, draw_go (by omega) (by decide) (by decide) fun m hm => ?_⟩
  dsimp only
  refine pick_go (m := m) (ns := [0, 0, 1, 2, 3, 5, 11]) (N := 11) (by simp; omega) (by decide) fun size hs => ?_
  refine draw_go (by omega) (by decide) (by decide) fun c0 hc0 => ?_
  refine ⟨by decide, _, at_nat (by have : (Str.ofString "abcdefghijklmnopqrstuvwxyz").cps.toList.length = 26 := rfl; omega), ?_⟩
  obtain ⟨c, hc, ec⟩ : ∃ c, c ∈ letters.cps.toList ∧ (Str.ofString "abcdefghijklmnopqrstuvwxyz").cps.toList[c0]'(by have : (Str.ofString "abcdefghijklmnopqrstuvwxyz").cps.toList.length = 26 := rfl; omega) = c := ⟨_, List.getElem_mem _, rfl⟩
  rw [ec]
  refine ⟨by omega, by omega, ?_⟩
  refine loopP_inv (fun i ρ n' => ∃ l : List Nat, l.length = i ∧ (∀ d ∈ l, d ∈ (letters ++ digits).cps.toList) ∧ n' ≤ n + 2 + i ∧ ∃ y, ρ = [.src, .val (.str letters), .val (.int (size : Int)), .val (.str (ofC (c :: l))), y]) ⟨[], rfl, (fun _ z => by cases z), by omega, _, rfl⟩ ?_ ?_
  · rintro i d ρ n' k hd ⟨l, hl, hls, hn', y, rfl⟩ hk
    obtain ⟨hi, rfl⟩ := rng_at hd
    have hi : i < size := by simpa using hi
    simp only [pSeq, pIfS, pOr, pAnd, pNot, pTst, pYes, pUn, pVar, pVarB, pC, pRet, pRetN, pRetB, pNext, pChain, pOp, pAndV, pOrV, pNotV, pIf, pSl, pPart, pNoPart, pNil, pCons, pStar, pLst, pTup, pLc, pItL, pItT, pItS, pRng1, pRng2, pAsg, pAsgF, pDrop, pApp, pExt, pFor, pAug, pPar, pFreeze, pgN, pgTup, pgLst, pgCons, pgNil, pMS, pJoined, pJs, paNil, paVal, paSrc, pCall0, pCall, pSortSg, elP, gI, gI0, gNeg, gAddS, gSS, gSg, gCat, gCatT, gIsN, isNo, gIxL, gIxT, gIxS, gSlL, gSlT, gSlS, gLen, gLenS, gInt, gStrI, gStrS, gAll, gAny, gList, gTuple, gIsi, gJoin, gFind, gSplit, gPart, gFmt, gSortS, gSortLP, gSortSet, gRev, gRepT, gRepS, itemsD, isS, wipeP, List.map_cons, List.map_nil, List.set_cons_zero, List.set_cons_succ, List.getElem?_cons_zero, List.getElem?_cons_succ, List.cons_append, List.nil_append, List.replicate_succ, List.replicate_zero, Bool.false_eq_true, Bool.not_true, Bool.not_false, if_true, if_false, Option.some.injEq, exists_eq_left', true_and, and_true, exists_and_left, exists_eq_left, V.str.injEq, V.int.injEq, isiD, tyD, isiT, tysOk, beq_self_eq_true, Bool.true_or, Bool.or_true, List.mem_cons, true_or, or_true, Option.isSome_some, id_eq, gEq, flD, scal, gLtT, pGet1, pGet2, pDPut, gDGet, gDIn, gSortD, gDictD, gListD, gDictP, isDic, dKey, pMakeQ, pMake0, pCallN, pickL, List.filterMap_cons, List.filterMap_nil, pLc2, pItQ, pWhile]
    refine ⟨by decide, draw_go (by omega) (by decide) (by decide) fun e0 he0 => ?_⟩
    have l36 : (letters ++ digits).cps.toList.length = 36 := by decide +kernel
    refine ⟨by decide +kernel, _, at_nat (show e0 < (letters ++ digits).cps.toList.length by omega), ?_⟩
    refine ⟨?_, hk _ _ ⟨l ++ [(letters ++ digits).cps.toList[e0]'(by omega)], by simp [hl], fun z hz => ?_, by omega, .val (.int ((0 : Int) + (i : Nat))), ?_⟩⟩
    · rw [len_ofC]
      show (c :: l).length + 1 ≤ _
      simp only [List.length_cons]
      omega
    · rcases List.mem_append.mp hz with hz | hz
      · exact hls z hz
      · rw [List.mem_singleton.mp hz]
        exact List.getElem_mem _
    · have e : ∀ d : Nat, (ofC (c :: l) ++ (⟨#[d]⟩ : Str) : Str) = ofC (c :: (l ++ [d])) := fun d => str_ext (by
        rw [cps_add, ofC_cps, ofC_cps, one_cps]
        simp)
      rw [e]
  · rintro ρ n' ⟨l, hl, hls, hn', y, rfl⟩
    have hl : l.length ≤ 11 := by
      rw [rng_len] at hl
      simp at hl
      omega
    rw [rng_len] at hn'
    have hsz : (size : Int).toNat = size := by simp
    simp only [pSeq, pIfS, pOr, pAnd, pNot, pTst, pYes, pUn, pVar, pVarB, pC, pRet, pRetN, pRetB, pNext, pChain, pOp, pAndV, pOrV, pNotV, pIf, pSl, pPart, pNoPart, pNil, pCons, pStar, pLst, pTup, pLc, pItL, pItT, pItS, pRng1, pRng2, pAsg, pAsgF, pDrop, pApp, pExt, pFor, pAug, pPar, pFreeze, pgN, pgTup, pgLst, pgCons, pgNil, pMS, pJoined, pJs, paNil, paVal, paSrc, pCall0, pCall, pSortSg, elP, gI, gI0, gNeg, gAddS, gSS, gSg, gCat, gCatT, gIsN, isNo, gIxL, gIxT, gIxS, gSlL, gSlT, gSlS, gLen, gLenS, gInt, gStrI, gStrS, gAll, gAny, gList, gTuple, gIsi, gJoin, gFind, gSplit, gPart, gFmt, gSortS, gSortLP, gSortSet, gRev, gRepT, gRepS, itemsD, isS, wipeP, List.map_cons, List.map_nil, List.set_cons_zero, List.set_cons_succ, List.getElem?_cons_zero, List.getElem?_cons_succ, List.cons_append, List.nil_append, List.replicate_succ, List.replicate_zero, Bool.false_eq_true, Bool.not_true, Bool.not_false, if_true, if_false, Option.some.injEq, exists_eq_left', true_and, and_true, exists_and_left, exists_eq_left, V.str.injEq, V.int.injEq, isiD, tyD, isiT, tysOk, beq_self_eq_true, Bool.true_or, Bool.or_true, List.mem_cons, true_or, or_true, Option.isSome_some, id_eq, gEq, flD, scal, gLtT, pGet1, pGet2, pDPut, gDGet, gDIn, gSortD, gDictD, gListD, gDictP, isDic, dKey, pMakeQ, pMake0, pCallN, pickL, List.filterMap_cons, List.filterMap_nil, pLc2, pItQ, pWhile]
    refine ⟨by rw [len_ofC]; simp only [List.length_cons]; omega, ?_⟩
    cases hb : (!decide (cutS (ofC (c :: l)) none (some 3) = Str.ofString "new")) with
    | true => exact hq _ _ (name_mk hc hl hls) (by omega)
    | false =>
      have ct : cutS (ofC (c :: l)) (some 1) none = ofC l := str_ext (by rw [cut_tail, ofC_cps, ofC_cps]; rfl)
      have e : ((Str.ofString "m") ++ ofC l) = ofC (109 :: l) := str_ext (by
        rw [cps_add, ofC_cps, ofC_cps]
        rfl)
      rw [ct, e]
      refine ⟨by rw [len_ofC]; simp only [List.length_cons]; omega, by rw [len_ofC]; show 1 + l.length ≤ _; omega, hq _ _ (name_mk (by decide +kernel) hl hls) (by omega)⟩
end
section
variable {P : Program} {w : World} {K : PySem.W.Frag} {mg : Str → Option Value} {base : Heap}
theorem ok__law_names (T : TA K mg)  {f : Addr} {fd : FuncData} (F : Fun K "_law_names" "_law_names" s__law_names f fd) : FnOk P w K mg base CX0 3 f fd ["_law_source_here", "_law_many"] (lift K psNames) := by
  have m_range := T.m_range
  have m_str := T.m_str
  obtain ⟨f__law_name, d__law_name, D_law_name⟩ := T.D__law_name
  have G_law_name : FnOk P w K mg base CX0 2 f__law_name d__law_name _ (lift K psLName) := ok__law_name T D_law_name.F
  refine F.ok sc__law_names (lift_len (k := 2) S1_len) (fun cdv A outer s H vs Q E hr h => ?_)
  have hl : vs.length = 2 := lift_len (k := 2) S1_len vs H Q E h
  refine ⟨_, (pss_cons (ps_set (i := 2) sc__law_names.nd rfl (Or.inr rfl) (pe_lst pa_nil))
      (pss_cons (ps_for PassesOwn.never rfl (pi_range1 rfl m_range (pa_cons (pv 1) pa_nil)) (pg_name (i := 3) sc__law_names.nd rfl (Or.inl rfl)) (pss_cons (ps_set (i := 4) sc__law_names.nd rfl (Or.inl rfl) (pe_call G_law_name (hr.mono (by decide)) (by rfl) D_law_name.g D_law_name.F.kp D_law_name.b .nil pass0 (pa_cons (pv 0) pa_nil)))
      (pss_cons (ps_setLc (i := 5) (own := [("_law_one", 6)]) (g := gName 6) rfl sc__law_names.nd rfl rfl (sw_true rfl rfl rfl (by decide +kernel)) (pi_listK (K := K) rfl (pe_lc (own := [("_law_j", 7)]) (g := gName 7) (tt := tYes) rfl sc__law_names.nd (pi_range1 rfl m_range (pa_cons (pe_op op_add (pv 1) pe_int) pa_nil)) (blkOk_by (N := n__law_names) (sc := defScope s__law_names) (by decide +kernel)) (fun _ _ _ _ _ => pg_name (i := 7) sc__law_names.nd rfl (Or.inl rfl)) (fun _ _ _ _ _ => pts_nil) (fun _ _ _ _ _ => (pe_op op_add_str pe_str (pe_callTy call_str_int (by rfl) m_str (by decide +kernel) (pa_cons (pv 7) pa_nil)))))) (blkOk_by (N := n__law_names) (sc := defScope s__law_names) (by decide +kernel)) (fun _ _ _ _ _ => pg_name (i := 6) sc__law_names.nd rfl (Or.inl rfl)) (fun _ _ _ _ _ => pts_one (pt_cmpR (op_notIn_seqK (K := K) rfl) (pv 6) (pv 2) (by rfl))) (fun _ _ _ _ _ => (pv 6)))
      (pss_one (ps_expr (pe_bm PySem.F.plainAttrs_list PySem.F.slot_list_append PySem.F.type_list_append mt_append (pv 2) (pa_cons (pe_ifExp (pt_cmpR (op_notIn_seqK (K := K) rfl) (pv 4) (pv 2) (by rfl)) (pv 4) (pe_ix (ix_listK (K := K) rfl) (pv 5) pe_int (fun _ _ => rfl))) pa_nil)))))))
      (pss_one (ps_ret (pv 2))))), ?_⟩
  refine fn_sim h (W := fun cls dd _ H => E cls dd H) (m := 6) ((ss_seq (ss_asgF (i := 2) (sf_lst sl_nil))
      (ss_seq (ss_for (sj_rng1 (sl_cons (se_var 1) sl_nil)) (sg_name 3) (ss_seq (ss_asg (se_call0 (sa_src 0 sa_nil)) (sg_name 4))
      (ss_seq (ss_asg (SimF.e (sf_lc (si_list (SimE.b (SimF.e (sf_lc (SimJ.i (sj_rng1 (sl_cons (se_op sr_I0 (SimE.b (se_var 1)) (SimE.b se_int)) sl_nil))) (sg_name 7) (by decide) st_yes (se_op sr_addS (SimE.b se_str) (SimE.b (se_cb sc_strI (SimE.b (se_var 7))))))))) (sg_name 6) (by decide) (st_of' (se_op sr_notIn (SimE.b (se_var 6)) (sb_var 2))) (se_var 6))) (sg_name 5))
      (ss_app (se_if (st_of' (se_op sr_notIn (SimE.b (se_var 4)) (sb_var 2))) (se_var 4) (se_op sr_ixL (SimE.b (se_var 5)) (SimE.b se_int)))))))
      (ss_retB 2)))) (fun _ _ _ _ z => z) (by rw [hl]; rfl) fun args n q x hp _ => ?_
  obtain ⟨a0, rfl, hp⟩ := S1_of hp
  obtain ⟨m, rfl, hm, hn, hq⟩ := hp
  simp only [pSeq, pIfS, pOr, pAnd, pNot, pTst, pYes, pUn, pVar, pVarB, pC, pRet, pRetN, pRetB, pNext, pChain, pOp, pAndV, pOrV, pNotV, pIf, pSl, pPart, pNoPart, pNil, pCons, pStar, pLst, pTup, pLc, pItL, pItT, pItS, pRng1, pRng2, pAsg, pAsgF, pDrop, pApp, pExt, pFor, pAug, pPar, pFreeze, pgN, pgTup, pgLst, pgCons, pgNil, pMS, pJoined, pJs, paNil, paVal, paSrc, pCall0, pCall, pSortSg, elP, gI, gI0, gNeg, gAddS, gSS, gSg, gCat, gCatT, gIsN, isNo, gIxL, gIxT, gIxS, gSlL, gSlT, gSlS, gLen, gLenS, gInt, gStrI, gStrS, gAll, gAny, gList, gTuple, gIsi, gJoin, gFind, gSplit, gPart, gFmt, gSortS, gSortLP, gSortSet, gRev, gRepT, gRepS, itemsD, isS, wipeP, List.map_cons, List.map_nil, List.set_cons_zero, List.set_cons_succ, List.getElem?_cons_zero, List.getElem?_cons_succ, List.cons_append, List.nil_append, List.replicate_succ, List.replicate_zero, Bool.false_eq_true, Bool.not_true, Bool.not_false, if_true, if_false, Option.some.injEq, exists_eq_left', true_and, and_true, exists_and_left, exists_eq_left, V.str.injEq, V.int.injEq, isiD, tyD, isiT, tysOk, beq_self_eq_true, Bool.true_or, Bool.or_true, List.mem_cons, true_or, or_true, Option.isSome_some, id_eq, gEq, flD, scal, gLtT, pGet1, pGet2, pDPut, gDGet, gDIn, gSortD, gDictD, gListD, gDictP, isDic, dKey, pMakeQ, pMake0, pCallN, pickL, List.filterMap_cons, List.filterMap_nil, pLc2, pItQ, pWhile]
  refine ⟨by simp, by omega, by omega, ?_⟩
  refine loopP_inv (fun i ρ n' => ∃ xs : List Str, xs.length = i ∧ (∀ z ∈ xs, nameS z = true) ∧ xs.Nodup ∧ n' ≤ n + 14 * i ∧ ∃ y3 y4 y5, ρ = [.src, .val (.int (m : Int)), .own (.lst (xs.map .str)), y3, y4, y5, .un, .un]) ⟨[], rfl, (fun _ z => by cases z), List.nodup_nil, by omega, _, _, _, rfl⟩ ?_ ?_
  · rintro i d ρ n' k hd ⟨xs, hl, hnm, hnd, hn', y3, y4, y5, rfl⟩ hk
    obtain ⟨hi, rfl⟩ := rng_at hd
    have hi : i < m := by simpa using hi
    simp only [pSeq, pIfS, pOr, pAnd, pNot, pTst, pYes, pUn, pVar, pVarB, pC, pRet, pRetN, pRetB, pNext, pChain, pOp, pAndV, pOrV, pNotV, pIf, pSl, pPart, pNoPart, pNil, pCons, pStar, pLst, pTup, pLc, pItL, pItT, pItS, pRng1, pRng2, pAsg, pAsgF, pDrop, pApp, pExt, pFor, pAug, pPar, pFreeze, pgN, pgTup, pgLst, pgCons, pgNil, pMS, pJoined, pJs, paNil, paVal, paSrc, pCall0, pCall, pSortSg, elP, gI, gI0, gNeg, gAddS, gSS, gSg, gCat, gCatT, gIsN, isNo, gIxL, gIxT, gIxS, gSlL, gSlT, gSlS, gLen, gLenS, gInt, gStrI, gStrS, gAll, gAny, gList, gTuple, gIsi, gJoin, gFind, gSplit, gPart, gFmt, gSortS, gSortLP, gSortSet, gRev, gRepT, gRepS, itemsD, isS, wipeP, List.map_cons, List.map_nil, List.set_cons_zero, List.set_cons_succ, List.getElem?_cons_zero, List.getElem?_cons_succ, List.cons_append, List.nil_append, List.replicate_succ, List.replicate_zero, Bool.false_eq_true, Bool.not_true, Bool.not_false, if_true, if_false, Option.some.injEq, exists_eq_left', true_and, and_true, exists_and_left, exists_eq_left, V.str.injEq, V.int.injEq, isiD, tyD, isiT, tysOk, beq_self_eq_true, Bool.true_or, Bool.or_true, List.mem_cons, true_or, or_true, Option.isSome_some, id_eq, gEq, flD, scal, gLtT, pGet1, pGet2, pDPut, gDGet, gDIn, gSortD, gDictD, gListD, gDictP, isDic, dKey, pMakeQ, pMake0, pCallN, pickL, List.filterMap_cons, List.filterMap_nil, pLc2, pItQ, pWhile]
    refine lname_go (by omega) fun nm n2 hnn hn2 => ⟨by omega, by omega, ?_⟩
    have em : ((m : Int) + 1).toNat = m + 1 := by omega
    rw [em]
    refine ⟨by rw [rng_len]; omega, ?_⟩
    unfold rngD
    refine colP_map (g := fun j => .str (qN j)) (fun j hj k2 hk2 => ?_) ⟨by simp; omega, ?_⟩
    · have hj : j ≤ m := by
        have := List.mem_range.mp hj
        omega
      simp only [pSeq, pIfS, pOr, pAnd, pNot, pTst, pYes, pUn, pVar, pVarB, pC, pRet, pRetN, pRetB, pNext, pChain, pOp, pAndV, pOrV, pNotV, pIf, pSl, pPart, pNoPart, pNil, pCons, pStar, pLst, pTup, pLc, pItL, pItT, pItS, pRng1, pRng2, pAsg, pAsgF, pDrop, pApp, pExt, pFor, pAug, pPar, pFreeze, pgN, pgTup, pgLst, pgCons, pgNil, pMS, pJoined, pJs, paNil, paVal, paSrc, pCall0, pCall, pSortSg, elP, gI, gI0, gNeg, gAddS, gSS, gSg, gCat, gCatT, gIsN, isNo, gIxL, gIxT, gIxS, gSlL, gSlT, gSlS, gLen, gLenS, gInt, gStrI, gStrS, gAll, gAny, gList, gTuple, gIsi, gJoin, gFind, gSplit, gPart, gFmt, gSortS, gSortLP, gSortSet, gRev, gRepT, gRepS, itemsD, isS, wipeP, List.map_cons, List.map_nil, List.set_cons_zero, List.set_cons_succ, List.getElem?_cons_zero, List.getElem?_cons_succ, List.cons_append, List.nil_append, List.replicate_succ, List.replicate_zero, Bool.false_eq_true, Bool.not_true, Bool.not_false, if_true, if_false, Option.some.injEq, exists_eq_left', true_and, and_true, exists_and_left, exists_eq_left, V.str.injEq, V.int.injEq, isiD, tyD, isiT, tysOk, beq_self_eq_true, Bool.true_or, Bool.or_true, List.mem_cons, true_or, or_true, Option.isSome_some, id_eq, gEq, flD, scal, gLtT, pGet1, pGet2, pDPut, gDGet, gDIn, gSortD, gDictD, gListD, gDictP, isDic, dKey, pMakeQ, pMake0, pCallN, pickL, List.filterMap_cons, List.filterMap_nil, pLc2, pItQ, pWhile]
      have e0 : (0 : Int) + (j : Int) = (j : Int) := by omega
      rw [e0]
      refine ⟨by omega, ?_, hk2⟩
      have := strI_len (i := j) (by omega)
      show 1 + _ ≤ _
      omega
    · have eq : (List.range (m + 1)).map (fun j => D.str (qN j)) = (qs (m + 1)).map D.str := by
        unfold qs
        rw [List.map_map]
        rfl
      rw [eq]
      refine colP_filter (b := fun z => !decide (z ∈ xs)) (g := D.str) (fun z hz k2 hk2 => ?_) ?_
      · simp only [pSeq, pIfS, pOr, pAnd, pNot, pTst, pYes, pUn, pVar, pVarB, pC, pRet, pRetN, pRetB, pNext, pChain, pOp, pAndV, pOrV, pNotV, pIf, pSl, pPart, pNoPart, pNil, pCons, pStar, pLst, pTup, pLc, pItL, pItT, pItS, pRng1, pRng2, pAsg, pAsgF, pDrop, pApp, pExt, pFor, pAug, pPar, pFreeze, pgN, pgTup, pgLst, pgCons, pgNil, pMS, pJoined, pJs, paNil, paVal, paSrc, pCall0, pCall, pSortSg, elP, gI, gI0, gNeg, gAddS, gSS, gSg, gCat, gCatT, gIsN, isNo, gIxL, gIxT, gIxS, gSlL, gSlT, gSlS, gLen, gLenS, gInt, gStrI, gStrS, gAll, gAny, gList, gTuple, gIsi, gJoin, gFind, gSplit, gPart, gFmt, gSortS, gSortLP, gSortSet, gRev, gRepT, gRepS, itemsD, isS, wipeP, List.map_cons, List.map_nil, List.set_cons_zero, List.set_cons_succ, List.getElem?_cons_zero, List.getElem?_cons_succ, List.cons_append, List.nil_append, List.replicate_succ, List.replicate_zero, Bool.false_eq_true, Bool.not_true, Bool.not_false, if_true, if_false, Option.some.injEq, exists_eq_left', true_and, and_true, exists_and_left, exists_eq_left, V.str.injEq, V.int.injEq, isiD, tyD, isiT, tysOk, beq_self_eq_true, Bool.true_or, Bool.or_true, List.mem_cons, true_or, or_true, Option.isSome_some, id_eq, gEq, flD, scal, gLtT, pGet1, pGet2, pDPut, gDGet, gDIn, gSortD, gDictD, gListD, gDictP, isDic, dKey, pMakeQ, pMake0, pCallN, pickL, List.filterMap_cons, List.filterMap_nil, pLc2, pItQ, pWhile]
        refine in_strs ?_
        cases h : decide (z ∈ xs) <;> rw [h] at hk2 <;> exact hk2
      · obtain ⟨y, r, hy⟩ := spare_some (m := m) (by omega) (xs := xs) (by omega)
        have hym : y ∈ (qs (m + 1)).filter (fun z => !decide (z ∈ xs)) := by rw [hy]; exact List.mem_cons_self ..
        have hyn := qs_name (m := m + 1) (by omega) (List.mem_filter.mp hym).1
        have hyx : ¬ y ∈ xs := by simpa using (List.mem_filter.mp hym).2
        rw [hy]
        refine ⟨by simp; omega, in_strs ?_⟩
        have add : ∀ z, nameS z = true → ¬ z ∈ xs → k [.src, .val (.int (m : Int)), .own (.lst (xs.map .str ++ [.str z])), .val (.int ((0 : Int) + (i : Nat))), .val (.str nm), .val (.lst ((y :: r).map .str)), .un, .un] n2 := fun z hz1 hz2 => by
          refine hk _ _ ⟨xs ++ [z], by simp [hl], fun x hx => ?_, ?_, by omega, _, _, _, by rw [List.map_append]; rfl⟩
          · rcases List.mem_append.mp hx with hx | hx
            · exact hnm x hx
            · rw [List.mem_singleton.mp hx]
              exact hz1
          · refine List.nodup_append.mpr ⟨hnd, by simp, fun a ha b hb e => ?_⟩
            rw [List.mem_singleton.mp hb] at e
            exact hz2 (e ▸ ha)
        by_cases q : nm ∈ xs
        · rw [decide_eq_true q]
          exact ⟨_, atI_0, add y hyn hyx⟩
        · rw [decide_eq_false q]
          exact add nm hnn q
  · rintro ρ n' ⟨xs, hl, hnm, hnd, hn', y3, y4, y5, rfl⟩
    rw [rng_len] at hl hn'
    exact hq xs n' (by simpa using hl) hnm hnd (by simpa using hn')
end
section
variable {P : Program} {w : World} {K : PySem.W.Frag} {mg : Str → Option Value} {base : Heap}
theorem ok_source {f : Addr} {fd : FuncData} (F : Fun K "_law_source" "_law_source" s__law_source f fd) : FnOk P w K mg base CX0 1 f fd ["_law_cell"] spSource := by
  refine F.ok sc__law_source (fun vs H Q E h => ?_) (fun cdv A outer s H vs Q E hr h => ?_)
  · obtain ⟨cell, rfl, _⟩ := h
    rfl
  · obtain ⟨cell, rfl, hb, k⟩ := h
    refine ⟨_, (pss_one (ps_ret (pe_lst (pa_cons (pv 0) (pa_cons (pv 0) (pa_cons pe_int pa_nil)))))), ?_⟩
    refine ⟨_, rfl, _, rfl, (by show 3 ≤ sizeLine; decide), fun p np => ?_⟩
    exact k p _ np (Ex.new np) ⟨cell, cell, 0, upd_same, Nat.le_refl _, hb⟩
end
end G39

namespace G39
open PySem PySem.Spec PyProof.Rows L2 Evl
section
variable {P : Program} {w : World} {K : PySem.W.Frag} {mg : Str → Option Value} {base : Heap}
theorem ok__law_pool (T : TA K mg)  {f : Addr} {fd : FuncData} (F : Fun K "_law_pool" "_law_pool" s__law_pool f fd) : FnOk P w K mg base CX0 4 f fd ["_law_source_here"] (lift K psPool) := by
  have m_range := T.m_range
  have m_len := T.m_len
  obtain ⟨f__law_names, d__law_names, D_law_names⟩ := T.D__law_names
  have G_law_names : FnOk P w K mg base CX0 3 f__law_names d__law_names _ (lift K psNames) := ok__law_names T D_law_names.F
  obtain ⟨f__law_draw, d__law_draw, D_law_draw⟩ := T.D__law_draw
  have G_law_draw : FnOk P w K mg base CX0 1 f__law_draw d__law_draw _ (lift K psDraw) := ok__law_draw T D_law_draw.F
  refine F.ok sc__law_pool (lift_len (k := 1) S0_len) (fun cdv A outer s H vs Q E hr h => ?_)
  have hl : vs.length = 1 := lift_len (k := 1) S0_len vs H Q E h
  refine ⟨_, (pss_cons (ps_set (i := 1) sc__law_pool.nd rfl (Or.inr rfl) (pe_call G_law_names (hr.mono (by decide)) (by rfl) D_law_names.g D_law_names.F.kp D_law_names.b .nil pass0 (pa_cons (pv 0) (pa_cons (pe_op op_add pe_int (pe_call G_law_draw (hr.mono (by decide)) (by rfl) D_law_draw.g D_law_draw.F.kp D_law_draw.b .nil pass0 (pa_cons (pv 0) (pa_cons pe_int pa_nil)))) pa_nil))))
      (pss_cons (ps_set (i := 2) sc__law_pool.nd rfl (Or.inr rfl) (pe_op op_cat (pe_lst (pa_cons pe_int pa_nil)) (pe_lc (own := [("_law_k", 6)]) (g := gName 6) (tt := tYes) rfl sc__law_pool.nd (pi_range1 rfl m_range (pa_cons (pe_op op_sub (pe_callB (call_len_seqK (K := K) rfl) (by rfl) m_len PySem.boot_len (pa_cons (pv 1) pa_nil)) pe_int) pa_nil)) (blkOk_by (N := n__law_pool) (sc := defScope s__law_pool) (by decide +kernel)) (fun _ _ _ _ _ => pg_name (i := 6) sc__law_pool.nd rfl (Or.inl rfl)) (fun _ _ _ _ _ => pts_nil) (fun _ _ _ _ _ => (pe_ix (ix_listK (K := K) rfl) (pe_lst (pa_cons pe_int (pa_cons pe_int (pa_cons pe_int (pa_cons pe_int (pa_cons pe_int (pa_cons pe_int (pa_cons pe_int (pa_cons pe_int pa_nil))))))))) (pe_call G_law_draw (hr.mono (by decide)) (by rfl) D_law_draw.g D_law_draw.F.kp D_law_draw.b .nil pass0 (pa_cons (pv 0) (pa_cons pe_int pa_nil))) (fun _ _ => rfl))))))
      (pss_cons (ps_set (i := 3) sc__law_pool.nd rfl (Or.inl rfl) (pe_call G_law_names (hr.mono (by decide)) (by rfl) D_law_names.g D_law_names.F.kp D_law_names.b .nil pass0 (pa_cons (pv 0) (pa_cons (pe_op op_add pe_int (pe_call G_law_draw (hr.mono (by decide)) (by rfl) D_law_draw.g D_law_draw.F.kp D_law_draw.b .nil pass0 (pa_cons (pv 0) (pa_cons pe_int pa_nil)))) pa_nil))))
      (pss_cons (ps_setLc (i := 4) (own := [("_law_name_here", 7)]) (g := gName 7) (tt := tYes) rfl sc__law_pool.nd rfl rfl (sw_true rfl rfl rfl (by decide +kernel)) (pi_listK (K := K) rfl (pe_call G_law_names (hr.mono (by decide)) (by rfl) D_law_names.g D_law_names.F.kp D_law_names.b .nil pass0 (pa_cons (pv 0) (pa_cons pe_int pa_nil)))) (blkOk_by (N := n__law_pool) (sc := defScope s__law_pool) (by decide +kernel)) (fun _ _ _ _ _ => pg_name (i := 7) sc__law_pool.nd rfl (Or.inl rfl)) (fun _ _ _ _ _ => pts_nil) (fun _ _ _ _ _ => (pe_op op_add_str pe_str (pv 7))))
      (pss_cons (ps_setLc (i := 5) (own := [("_law_k", 6)]) (g := gName 6) (tt := tYes) rfl sc__law_pool.nd rfl rfl (sw_true rfl rfl rfl (by decide +kernel)) (pi_range1 rfl m_range (pa_cons (pe_callB (call_len_seqK (K := K) rfl) (by rfl) m_len PySem.boot_len (pa_cons (pv 1) pa_nil)) pa_nil)) (blkOk_by (N := n__law_pool) (sc := defScope s__law_pool) (by decide +kernel)) (fun _ _ _ _ _ => pg_name (i := 6) sc__law_pool.nd rfl (Or.inl rfl)) (fun _ _ _ _ _ => pts_nil) (fun _ _ _ _ _ => (pe_tup (pa_cons (pe_ix (ix_listK (K := K) rfl) (pv 1) (pv 6) (fun _ _ => rfl)) (pa_cons (pe_ix (ix_listK (K := K) rfl) (pv 2) (pv 6) (fun _ _ => rfl)) pa_nil)))))
      (pss_cons (ps_if (pt_cmpR op_eq (pe_call G_law_draw (hr.mono (by decide)) (by rfl) D_law_draw.g D_law_draw.F.kp D_law_draw.b .nil pass0 (pa_cons (pv 0) (pa_cons pe_int pa_nil))) pe_int (nomark _)) (pss_one (ps_expr (pe_bm PySem.F.plainAttrs_list PySem.F.slot_list_append PySem.F.type_list_append mt_append (pv 5) (pa_cons (pe_tup (pa_cons (pe_ix (ix_listK (K := K) rfl) (pv 1) pe_int (fun _ _ => rfl)) (pa_cons (pe_ix (ix_listK (K := K) rfl) (pe_lst (pa_cons pe_int (pa_cons pe_int (pa_cons pe_int (pa_cons pe_int pa_nil))))) (pe_call G_law_draw (hr.mono (by decide)) (by rfl) D_law_draw.g D_law_draw.F.kp D_law_draw.b .nil pass0 (pa_cons (pv 0) (pa_cons pe_int pa_nil))) (fun _ _ => rfl)) pa_nil))) pa_nil)))) pss_nil)
      (pss_one (ps_ret (pe_lst (pa_cons (pv 5) (pa_cons (pv 3) (pa_cons (pv 4) pa_nil)))))))))))), ?_⟩
  refine fn_sim h (W := fun cls dd _ H => E cls dd H) (m := 7) ((ss_seq (ss_asg (se_call0 (sa_src 0 (sa_val (se_op sr_I0 (SimE.b se_int) (SimE.b (se_call0 (sa_src 0 (sa_val se_int sa_nil))))) sa_nil))) (sg_name 1))
      (ss_seq (ss_asg (SimF.e (sf_op srf_cat (SimE.b (SimF.e (sf_lst (sl_cons se_int sl_nil)))) (SimE.b (SimF.e (sf_lc (SimJ.i (sj_rng1 (sl_cons (se_op sr_I0 (SimE.b (se_cb sc_len (SimE.b (se_var 1)))) (SimE.b se_int)) sl_nil))) (sg_name 6) (by decide) st_yes (se_op sr_ixL (SimE.b (SimF.e (sf_lst (sl_cons se_int (sl_cons se_int (sl_cons se_int (sl_cons se_int (sl_cons se_int (sl_cons se_int (sl_cons se_int (sl_cons se_int sl_nil))))))))))) (SimE.b (se_call0 (sa_src 0 (sa_val se_int sa_nil)))))))))) (sg_name 2))
      (ss_seq (ss_asg (se_call0 (sa_src 0 (sa_val (se_op sr_I0 (SimE.b se_int) (SimE.b (se_call0 (sa_src 0 (sa_val se_int sa_nil))))) sa_nil))) (sg_name 3))
      (ss_seq (ss_asg (SimF.e (sf_lc (si_list (SimE.b (se_call0 (sa_src 0 (sa_val se_int sa_nil))))) (sg_name 7) (by decide) st_yes (se_op sr_addS (SimE.b se_str) (SimE.b (se_var 7))))) (sg_name 4))
      (ss_seq (ss_asgF (i := 5) (sf_lc (SimJ.i (sj_rng1 (sl_cons (se_cb sc_len (SimE.b (se_var 1))) sl_nil))) (sg_name 6) (by decide) st_yes (se_tup (sl_cons (se_op sr_ixL (SimE.b (se_var 1)) (SimE.b (se_var 6))) (sl_cons (se_op sr_ixL (SimE.b (se_var 2)) (SimE.b (se_var 6))) sl_nil)))))
      (ss_seq (ss_if (st_of' (se_op sr_eq (SimE.b (se_call0 (sa_src 0 (sa_val se_int sa_nil)))) (SimE.b se_int))) (ss_app (se_tup (sl_cons (se_op sr_ixL (SimE.b (se_var 1)) (SimE.b se_int)) (sl_cons (se_op sr_ixL (SimE.b (SimF.e (sf_lst (sl_cons se_int (sl_cons se_int (sl_cons se_int (sl_cons se_int sl_nil))))))) (SimE.b (se_call0 (sa_src 0 (sa_val se_int sa_nil))))) sl_nil)))) ss_next)
      (ss_freeze 5 (ss_ret (SimF.e (sf_lst (sl_cons (se_var 5) (sl_cons (se_var 3) (sl_cons (se_var 4) sl_nil)))))))))))))) (fun _ _ _ _ z => z) (by rw [hl]; rfl) fun args n q x hp _ => ?_
  obtain ⟨rfl, hp⟩ := S0_of hp
  obtain ⟨hn, hq⟩ := hp
  simp only [pSeq, pIfS, pOr, pAnd, pNot, pTst, pYes, pUn, pVar, pVarB, pC, pRet, pRetN, pRetB, pNext, pChain, pOp, pAndV, pOrV, pNotV, pIf, pSl, pPart, pNoPart, pNil, pCons, pStar, pLst, pTup, pLc, pItL, pItT, pItS, pRng1, pRng2, pAsg, pAsgF, pDrop, pApp, pExt, pFor, pAug, pPar, pFreeze, pgN, pgTup, pgLst, pgCons, pgNil, pMS, pJoined, pJs, paNil, paVal, paSrc, pCall0, pCall, pSortSg, elP, gI, gI0, gNeg, gAddS, gSS, gSg, gCat, gCatT, gIsN, isNo, gIxL, gIxT, gIxS, gSlL, gSlT, gSlS, gLen, gLenS, gInt, gStrI, gStrS, gAll, gAny, gList, gTuple, gIsi, gJoin, gFind, gSplit, gPart, gFmt, gSortS, gSortLP, gSortSet, gRev, gRepT, gRepS, itemsD, isS, wipeP, List.map_cons, List.map_nil, List.set_cons_zero, List.set_cons_succ, List.getElem?_cons_zero, List.getElem?_cons_succ, List.cons_append, List.nil_append, List.replicate_succ, List.replicate_zero, Bool.false_eq_true, Bool.not_true, Bool.not_false, if_true, if_false, Option.some.injEq, exists_eq_left', true_and, and_true, exists_and_left, exists_eq_left, V.str.injEq, V.int.injEq, isiD, tyD, isiT, tysOk, beq_self_eq_true, Bool.true_or, Bool.or_true, List.mem_cons, true_or, or_true, Option.isSome_some, id_eq, gEq, flD, scal, gLtT, pGet1, pGet2, pDPut, gDGet, gDIn, gSortD, gDictD, gListD, gDictP, isDic, dKey, pMakeQ, pMake0, pCallN, pickL, List.filterMap_cons, List.filterMap_nil, pLc2, pItQ, pWhile]
  refine draw_go (by omega) (by decide) (by decide) fun m hm => ?_
  dsimp only
  have e2 : (2 : Int) + (m : Int) = ((2 + m : Nat) : Int) := by omega
  rw [e2]
  refine names_go (by omega) (by omega) fun ts n1 tl tn td hn1 => ⟨by simp, _, rfl, by simp; omega, by simp; omega, by rw [rng_len]; simp; omega, ?_⟩
  refine colP_inv (fun i l n' => ∃ zs : List Nat, l = zs.map (fun z => .int (z : Int)) ∧ zs.length = i ∧ (∀ z ∈ zs, z ≤ 3) ∧ n' ≤ n1 + i) ⟨[], rfl, rfl, (fun _ z => by cases z), by omega⟩ ?_ ?_
  · rintro i d l n' k hd ⟨zs, rfl, hl, hz, hn'⟩ hk
    obtain ⟨hi, rfl⟩ := rng_at hd
    have hi : i < ts.length := by simp at hi; omega
    simp only [pSeq, pIfS, pOr, pAnd, pNot, pTst, pYes, pUn, pVar, pVarB, pC, pRet, pRetN, pRetB, pNext, pChain, pOp, pAndV, pOrV, pNotV, pIf, pSl, pPart, pNoPart, pNil, pCons, pStar, pLst, pTup, pLc, pItL, pItT, pItS, pRng1, pRng2, pAsg, pAsgF, pDrop, pApp, pExt, pFor, pAug, pPar, pFreeze, pgN, pgTup, pgLst, pgCons, pgNil, pMS, pJoined, pJs, paNil, paVal, paSrc, pCall0, pCall, pSortSg, elP, gI, gI0, gNeg, gAddS, gSS, gSg, gCat, gCatT, gIsN, isNo, gIxL, gIxT, gIxS, gSlL, gSlT, gSlS, gLen, gLenS, gInt, gStrI, gStrS, gAll, gAny, gList, gTuple, gIsi, gJoin, gFind, gSplit, gPart, gFmt, gSortS, gSortLP, gSortSet, gRev, gRepT, gRepS, itemsD, isS, wipeP, List.map_cons, List.map_nil, List.set_cons_zero, List.set_cons_succ, List.getElem?_cons_zero, List.getElem?_cons_succ, List.cons_append, List.nil_append, List.replicate_succ, List.replicate_zero, Bool.false_eq_true, Bool.not_true, Bool.not_false, if_true, if_false, Option.some.injEq, exists_eq_left', true_and, and_true, exists_and_left, exists_eq_left, V.str.injEq, V.int.injEq, isiD, tyD, isiT, tysOk, beq_self_eq_true, Bool.true_or, Bool.or_true, List.mem_cons, true_or, or_true, Option.isSome_some, id_eq, gEq, flD, scal, gLtT, pGet1, pGet2, pDPut, gDGet, gDIn, gSortD, gDictD, gListD, gDictP, isDic, dKey, pMakeQ, pMake0, pCallN, pickL, List.filterMap_cons, List.filterMap_nil, pLc2, pItQ, pWhile]
    refine ⟨by simp, draw_go (by omega) (by decide) (by decide) fun m hm => ?_⟩
    dsimp only
    refine pick_go (m := m) (ns := [2, 1, 2, 3, 2, 0, 1, 2]) (N := 3) (by simp; omega) (by decide) fun z hz3 => ?_
    refine hk (some (.int (z : Int))) _ ⟨zs ++ [z], by simp, by simp [hl], fun x hx => ?_, by omega⟩
    rcases List.mem_append.mp hx with hx | hx
    · exact hz x hx
    · rw [List.mem_singleton.mp hx]
      exact hz3
  · rintro l n2 ⟨zs, rfl, zl, zz, hn2⟩
    rw [rng_len] at zl hn2
    have zl : zs.length + 1 = ts.length := by simp at zl; omega
    have hn2 : n2 ≤ n1 + 10 := by simp at hn2; omega
    refine ⟨by simp; omega, draw_go (by omega) (by decide) (by decide) fun m2 hm2 => ?_⟩
    dsimp only
    have e3 : (2 : Int) + (m2 : Int) = ((2 + m2 : Nat) : Int) := by omega
    rw [e3]
    refine names_go (by omega) (by omega) fun cs n3 cl cn cd hn3 => ?_
    refine names_go (m := 9) (by omega) (by omega) fun ns n4 nl nn nd hn4 => ⟨by simp; omega, ?_⟩
    refine colP_map (g := fun z => .str (Str.ofString "?" ++ z)) (fun z hz k hk => ?_) ?_
    · simp only [pSeq, pIfS, pOr, pAnd, pNot, pTst, pYes, pUn, pVar, pVarB, pC, pRet, pRetN, pRetB, pNext, pChain, pOp, pAndV, pOrV, pNotV, pIf, pSl, pPart, pNoPart, pNil, pCons, pStar, pLst, pTup, pLc, pItL, pItT, pItS, pRng1, pRng2, pAsg, pAsgF, pDrop, pApp, pExt, pFor, pAug, pPar, pFreeze, pgN, pgTup, pgLst, pgCons, pgNil, pMS, pJoined, pJs, paNil, paVal, paSrc, pCall0, pCall, pSortSg, elP, gI, gI0, gNeg, gAddS, gSS, gSg, gCat, gCatT, gIsN, isNo, gIxL, gIxT, gIxS, gSlL, gSlT, gSlS, gLen, gLenS, gInt, gStrI, gStrS, gAll, gAny, gList, gTuple, gIsi, gJoin, gFind, gSplit, gPart, gFmt, gSortS, gSortLP, gSortSet, gRev, gRepT, gRepS, itemsD, isS, wipeP, List.map_cons, List.map_nil, List.set_cons_zero, List.set_cons_succ, List.getElem?_cons_zero, List.getElem?_cons_succ, List.cons_append, List.nil_append, List.replicate_succ, List.replicate_zero, Bool.false_eq_true, Bool.not_true, Bool.not_false, if_true, if_false, Option.some.injEq, exists_eq_left', true_and, and_true, exists_and_left, exists_eq_left, V.str.injEq, V.int.injEq, isiD, tyD, isiT, tysOk, beq_self_eq_true, Bool.true_or, Bool.or_true, List.mem_cons, true_or, or_true, Option.isSome_some, id_eq, gEq, flD, scal, gLtT, pGet1, pGet2, pDPut, gDGet, gDIn, gSortD, gDictD, gListD, gDictP, isDic, dKey, pMakeQ, pMake0, pCallN, pickL, List.filterMap_cons, List.filterMap_nil, pLc2, pItQ, pWhile]
      exact ⟨by have := name_len (nn z hz); show 1 + z.length ≤ _; omega, hk⟩
    · refine ⟨_, rfl, by rw [List.length_map]; omega, by rw [List.length_map]; omega, by rw [rng_len, List.length_map]; omega, ?_⟩
      refine colP_inv (fun i l n' => n' = n4 ∧ ∃ rs : List (Str × Nat), l = rs.map rowD ∧ rs.length = i ∧ ∀ r ∈ rs, nameS r.1 = true ∧ r.2 ≤ 3) ⟨rfl, [], rfl, rfl, (fun _ z => by cases z)⟩ ?_ ?_
      · rintro i d l n' k hd ⟨rfl, rs, rfl, rl, rn⟩ hk
        obtain ⟨hi, rfl⟩ := rng_at hd
        have hi : i < ts.length := by simpa using hi
        have e0 : (0 : Int) + (i : Int) = (i : Int) := by omega
        rw [e0]
        simp only [pSeq, pIfS, pOr, pAnd, pNot, pTst, pYes, pUn, pVar, pVarB, pC, pRet, pRetN, pRetB, pNext, pChain, pOp, pAndV, pOrV, pNotV, pIf, pSl, pPart, pNoPart, pNil, pCons, pStar, pLst, pTup, pLc, pItL, pItT, pItS, pRng1, pRng2, pAsg, pAsgF, pDrop, pApp, pExt, pFor, pAug, pPar, pFreeze, pgN, pgTup, pgLst, pgCons, pgNil, pMS, pJoined, pJs, paNil, paVal, paSrc, pCall0, pCall, pSortSg, elP, gI, gI0, gNeg, gAddS, gSS, gSg, gCat, gCatT, gIsN, isNo, gIxL, gIxT, gIxS, gSlL, gSlT, gSlS, gLen, gLenS, gInt, gStrI, gStrS, gAll, gAny, gList, gTuple, gIsi, gJoin, gFind, gSplit, gPart, gFmt, gSortS, gSortLP, gSortSet, gRev, gRepT, gRepS, itemsD, isS, wipeP, List.map_cons, List.map_nil, List.set_cons_zero, List.set_cons_succ, List.getElem?_cons_zero, List.getElem?_cons_succ, List.cons_append, List.nil_append, List.replicate_succ, List.replicate_zero, Bool.false_eq_true, Bool.not_true, Bool.not_false, if_true, if_false, Option.some.injEq, exists_eq_left', true_and, and_true, exists_and_left, exists_eq_left, V.str.injEq, V.int.injEq, isiD, tyD, isiT, tysOk, beq_self_eq_true, Bool.true_or, Bool.or_true, List.mem_cons, true_or, or_true, Option.isSome_some, id_eq, gEq, flD, scal, gLtT, pGet1, pGet2, pDPut, gDGet, gDIn, gSortD, gDictD, gListD, gDictP, isDic, dKey, pMakeQ, pMake0, pCallN, pickL, List.filterMap_cons, List.filterMap_nil, pLc2, pItQ, pWhile]
        have ez : (D.int 2 :: List.map (fun z : Nat => D.int (z : Int)) zs) = List.map (fun z : Nat => D.int (z : Int)) (2 :: zs) := rfl
        rw [ez]
        have hz : i < (2 :: zs).length := by simp; omega
        refine ⟨_, at_map hi, _, at_map hz, by simp, ?_⟩
        refine hk (some (rowD (ts[i], (2 :: zs)[i]))) _ ⟨rfl, rs ++ [(ts[i], (2 :: zs)[i])], by simp, by simp [rl], fun r hr => ?_⟩
        rcases List.mem_append.mp hr with hr | hr
        · exact rn r hr
        · rw [List.mem_singleton.mp hr]
          refine ⟨tn _ (List.getElem_mem _), ?_⟩
          have zm : (2 :: zs)[i] ∈ 2 :: zs := List.getElem_mem _
          rcases List.mem_cons.mp zm with z | z
          · show (2 :: zs)[i] ≤ 3
            rw [z]
            decide
          · exact zz _ z
      · rintro l n5 ⟨rfl, rs, rfl, rl, rn⟩
        rw [rng_len] at rl
        have rl : rs.length = ts.length := by simpa using rl
        have vn : ∀ z ∈ ns.map (fun z => Str.ofString "?" ++ z), varS z = true := fun z hz => by
          obtain ⟨y, hy, rfl⟩ := List.mem_map.mp hz
          exact var_of (nn y hy)
        have ev : ns.map (fun z => D.str (Str.ofString "?" ++ z)) = (ns.map (fun z => Str.ofString "?" ++ z)).map D.str := by
          rw [List.map_map]
          rfl
        rw [ev]
        refine draw_go (by omega) (by decide) (by decide) fun m3 hm3 => ⟨_, rfl, rfl, ?_⟩
        split
        · refine ⟨by simp; omega, ?_⟩
          refine ⟨_, at_map (m := 0) (show 0 < ts.length by omega), by simp, draw_go (by omega) (by decide) (by decide) fun m4 hm4 => ?_⟩
          dsimp only
          refine pick_go (m := m4) (ns := [1, 3, 0, 1]) (N := 3) (by simp; omega) (by decide) fun z hz3 => ?_
          refine ⟨by simp, by simp, ?_⟩
          have er : rs.map rowD ++ [D.tup [D.str (ts[0]'(by omega)), D.int (z : Int)]] = (rs ++ [(ts[0]'(by omega), z)]).map rowD := by simp [rowD]
          rw [er]
          refine hq _ cs _ _ ⟨⟨by simp; omega, by omega, by simp [nl], fun r hr => ?_, cn, vn⟩, cd, var_of_nodup nd, by omega⟩ (by omega)
          rcases List.mem_append.mp hr with hr | hr
          · exact rn r hr
          · rw [List.mem_singleton.mp hr]
            exact ⟨tn _ (List.getElem_mem _), hz3⟩
        · exact ⟨by simp, hq _ cs _ _ ⟨⟨by omega, by omega, by simp [nl], rn, cn, vn⟩, cd, var_of_nodup nd, by omega⟩ (by omega)⟩
end
end G39

namespace G39
open PySem PySem.Spec PyProof.Rows L2 Evl
section
variable {P : Program} {w : World} {K : PySem.W.Frag} {mg : Str → Option Value} {base : Heap}
theorem key_fst (m : List (Str × Str)) : (m.map dicE).map Prod.fst = (m.map Prod.fst).map Sum.inr := by
  rw [List.map_map, List.map_map]
  rfl
theorem pairs_col {n : Nat} {q : D → Nat → Prop} {m : List (Str × Str)} (h : MapOk m) {f : D → Nat → (Option D → Nat → Prop) → Prop} (hf : ∀ z k, (∀ v, valD (m.map dicE) (.inr z) = some (.str v) → k (some (tupD [z, v])) n) → valD (m.map dicE) (.inr z) = some (.str (fillT m z)) → f (.str z) n k) (hq : q (.lst ((prS m).map tupD)) n) :
    colP f ((srtS (m.map Prod.fst)).map D.str) n fun l n2 => q (.lst l) n2 := by
  have e : (prS m).map tupD = (srtS (m.map Prod.fst)).map fun z => tupD [z, fillT m z] := by
    unfold prS ordS
    rw [List.map_map, List.map_map]
    rfl
  rw [e] at hq
  refine colP_map (g := fun z => tupD [z, fillT m z]) (fun z hz k hk => ?_) hq
  have hz := (srtS_perm _).mem_iff.mp hz
  have hv : valD (m.map dicE) (.inr z) = some (.str (fillT m z)) := by rw [val_dicS, get_some hz]; rfl
  refine hf z k (fun v hv' => ?_) hv
  rw [hv] at hv'
  cases hv'
  exact hk
theorem ok_pairs_of (T : TA K mg)  {f : Addr} {fd : FuncData} (F : Fun K "pairs_of" "pairs_of" s_pairs_of f fd) : FnOk P w K mg base CX0 1 f fd ["known"] (lift K psPairs) := by
  have m_sorted := T.m_sorted
  refine F.ok sc_pairs_of (lift_len (k := 1) A1_len) (fun cdv A outer s H vs Q E hr h => ?_)
  have hl : vs.length = 1 := lift_len (k := 1) A1_len vs H Q E h
  refine ⟨_, (pss_one (ps_ret (pe_lc (own := [("variable", 1)]) (g := gName 1) (tt := tYes) rfl sc_pairs_of.nd (pi_listK (K := K) rfl (pe_callB (call_sortedD rfl) (by rfl) m_sorted (by decide +kernel) (pa_cons (pv 0) pa_nil))) (blkOk_by (N := n_pairs_of) (sc := defScope s_pairs_of) (by decide +kernel)) (fun _ _ _ _ _ => pg_name (i := 1) sc_pairs_of.nd rfl (Or.inl rfl)) (fun _ _ _ _ _ => pts_nil) (fun _ _ _ _ _ => (pe_tup (pa_cons (pv 1) (pa_cons (pe_dget (Nat.lt_of_le_of_lt (Nat.add_le_add_left (by decide) _) hr.units) (pv 0) (pv 1) (fun _ _ => rfl)) pa_nil))))))), ?_⟩
  refine fn_sim h (W := fun cls dd _ H => E cls dd H) (m := 1) ((ss_ret (SimF.e (sf_lc (si_list (SimE.b (SimF.e (sf_cb scf_sortD (SimE.b (se_var 0)))))) (sg_name 1) (by decide) st_yes (se_tup (sl_cons (se_var 1) (sl_cons (se_dget (SimE.b (se_var 0)) (SimE.b (se_var 1))) sl_nil))))))) (fun _ _ _ _ z => z) (by rw [hl]; rfl) fun args n q x hp _ => ?_
  obtain ⟨a0, rfl, hp⟩ := A1_of hp
  obtain ⟨m, rfl, h, hq⟩ := hp
  simp only [dicS, pSeq, pIfS, pOr, pAnd, pNot, pTst, pYes, pUn, pVar, pVarB, pC, pRet, pRetN, pRetB, pNext, pChain, pOp, pAndV, pOrV, pNotV, pIf, pSl, pPart, pNoPart, pNil, pCons, pStar, pLst, pTup, pLc, pItL, pItT, pItS, pRng1, pRng2, pAsg, pAsgF, pDrop, pApp, pExt, pFor, pAug, pPar, pFreeze, pgN, pgTup, pgLst, pgCons, pgNil, pMS, pJoined, pJs, paNil, paVal, paSrc, pCall0, pCall, pSortSg, elP, gI, gI0, gNeg, gAddS, gSS, gSg, gCat, gCatT, gIsN, isNo, gIxL, gIxT, gIxS, gSlL, gSlT, gSlS, gLen, gLenS, gInt, gStrI, gStrS, gAll, gAny, gList, gTuple, gIsi, gJoin, gFind, gSplit, gPart, gFmt, gSortS, gSortLP, gSortSet, gRev, gRepT, gRepS, itemsD, isS, wipeP, List.map_cons, List.map_nil, List.set_cons_zero, List.set_cons_succ, List.getElem?_cons_zero, List.getElem?_cons_succ, List.cons_append, List.nil_append, List.replicate_succ, List.replicate_zero, Bool.false_eq_true, Bool.not_true, Bool.not_false, if_true, if_false, Option.some.injEq, exists_eq_left', true_and, and_true, exists_and_left, exists_eq_left, V.str.injEq, V.int.injEq, isiD, tyD, isiT, tysOk, beq_self_eq_true, Bool.true_or, Bool.or_true, List.mem_cons, true_or, or_true, Option.isSome_some, id_eq, gEq, flD, scal, gLtT, pGet1, pGet2, pDPut, gDGet, gDIn, gSortD, gDictD, gListD, gDictP, isDic, dKey, pMakeQ, pMake0, pCallN, pickL, List.filterMap_cons, List.filterMap_nil, pLc2, pItQ, pWhile]
  have hl := h.len
  refine ⟨_, key_fst m, by rw [List.length_map]; omega, by rw [List.length_map, (srtS_perm _).length_eq, List.length_map]; omega, ?_⟩
  refine pairs_col h (fun z k hk hv => ?_) hq
  simp only [dicS, pSeq, pIfS, pOr, pAnd, pNot, pTst, pYes, pUn, pVar, pVarB, pC, pRet, pRetN, pRetB, pNext, pChain, pOp, pAndV, pOrV, pNotV, pIf, pSl, pPart, pNoPart, pNil, pCons, pStar, pLst, pTup, pLc, pItL, pItT, pItS, pRng1, pRng2, pAsg, pAsgF, pDrop, pApp, pExt, pFor, pAug, pPar, pFreeze, pgN, pgTup, pgLst, pgCons, pgNil, pMS, pJoined, pJs, paNil, paVal, paSrc, pCall0, pCall, pSortSg, elP, gI, gI0, gNeg, gAddS, gSS, gSg, gCat, gCatT, gIsN, isNo, gIxL, gIxT, gIxS, gSlL, gSlT, gSlS, gLen, gLenS, gInt, gStrI, gStrS, gAll, gAny, gList, gTuple, gIsi, gJoin, gFind, gSplit, gPart, gFmt, gSortS, gSortLP, gSortSet, gRev, gRepT, gRepS, itemsD, isS, wipeP, List.map_cons, List.map_nil, List.set_cons_zero, List.set_cons_succ, List.getElem?_cons_zero, List.getElem?_cons_succ, List.cons_append, List.nil_append, List.replicate_succ, List.replicate_zero, Bool.false_eq_true, Bool.not_true, Bool.not_false, if_true, if_false, Option.some.injEq, exists_eq_left', true_and, and_true, exists_and_left, exists_eq_left, V.str.injEq, V.int.injEq, isiD, tyD, isiT, tysOk, beq_self_eq_true, Bool.true_or, Bool.or_true, List.mem_cons, true_or, or_true, Option.isSome_some, id_eq, gEq, flD, scal, gLtT, pGet1, pGet2, pDPut, gDGet, gDIn, gSortD, gDictD, gListD, gDictP, isDic, dKey, pMakeQ, pMake0, pCallN, pickL, List.filterMap_cons, List.filterMap_nil, pLc2, pItQ, pWhile]
  exact ⟨_, hv, by simp, hk _ hv⟩
end
section
variable {P : Program} {w : World} {K : PySem.W.Frag} {mg : Str → Option Value} {base : Heap}
theorem okF_ordered (T : TA K mg)  {f : Addr} {fd : FuncData} (F : Fun K "ordered" "ordered" s_ordered f fd) : FnOk P w K mg base CX0 2 f fd ["known"] (liftF K psOrdered) := by
  have m_dict := T.m_dict
  obtain ⟨f_pairs_of, d_pairs_of, Dpairs_of⟩ := T.D_pairs_of
  have Gpairs_of : FnOk P w K mg base CX0 1 f_pairs_of d_pairs_of _ (lift K psPairs) := ok_pairs_of T Dpairs_of.F
  refine F.ok sc_ordered (liftF_len (k := 1) A1_len) (fun cdv A outer s H vs Q E hr h => ?_)
  have hl : vs.length = 1 := liftF_len (k := 1) A1_len vs H Q E h
  refine ⟨_, (pss_one (ps_ret (pe_callTy (call_dictPK (K := K) rfl rfl) (by rfl) m_dict (by decide +kernel) (pa_cons (pe_call Gpairs_of (hr.mono (by decide)) (by rfl) Dpairs_of.g Dpairs_of.F.kp Dpairs_of.b .nil pass0 (pa_cons (pv 0) pa_nil)) pa_nil)))), ?_⟩
  refine fn_simF rfl h (m := 0) (sf_cb scf_dictP (SimE.b (se_call0 (sa_val (se_var 0) sa_nil)))) (by rw [hl]; rfl) fun args n q x hp _ => ?_
  obtain ⟨a0, rfl, hp⟩ := A1_of hp
  obtain ⟨m, rfl, h, hq⟩ := hp
  simp only [pSeq, pIfS, pOr, pAnd, pNot, pTst, pYes, pUn, pVar, pVarB, pC, pRet, pRetN, pRetB, pNext, pChain, pOp, pAndV, pOrV, pNotV, pIf, pSl, pPart, pNoPart, pNil, pCons, pStar, pLst, pTup, pLc, pItL, pItT, pItS, pRng1, pRng2, pAsg, pAsgF, pDrop, pApp, pExt, pFor, pAug, pPar, pFreeze, pgN, pgTup, pgLst, pgCons, pgNil, pMS, pJoined, pJs, paNil, paVal, paSrc, pCall0, pCall, pSortSg, elP, gI, gI0, gNeg, gAddS, gSS, gSg, gCat, gCatT, gIsN, isNo, gIxL, gIxT, gIxS, gSlL, gSlT, gSlS, gLen, gLenS, gInt, gStrI, gStrS, gAll, gAny, gList, gTuple, gIsi, gJoin, gFind, gSplit, gPart, gFmt, gSortS, gSortLP, gSortSet, gRev, gRepT, gRepS, itemsD, isS, wipeP, List.map_cons, List.map_nil, List.set_cons_zero, List.set_cons_succ, List.getElem?_cons_zero, List.getElem?_cons_succ, List.cons_append, List.nil_append, List.replicate_succ, List.replicate_zero, Bool.false_eq_true, Bool.not_true, Bool.not_false, if_true, if_false, Option.some.injEq, exists_eq_left', true_and, and_true, exists_and_left, exists_eq_left, V.str.injEq, V.int.injEq, isiD, tyD, isiT, tysOk, beq_self_eq_true, Bool.true_or, Bool.or_true, List.mem_cons, true_or, or_true, Option.isSome_some, id_eq, gEq, flD, scal, gLtT, pGet1, pGet2, pDPut, gDGet, gDIn, gSortD, gDictD, gListD, gDictP, isDic, dKey, pMakeQ, pMake0, pCallN, pickL, List.filterMap_cons, List.filterMap_nil, pLc2, pItQ, pWhile]
  exact pairs_go h (dictP_go (x := noX) h.ord.nd hq)
theorem ok_ordered (T : TA K mg) {f : Addr} {fd : FuncData} (F : Fun K "ordered" "ordered" s_ordered f fd) : FnOk P w K mg base CX0 2 f fd ["known"] (lift K psOrdered) := (okF_ordered T F).imp fun _ _ _ _ h => lift_F nox_ordered h
end
section
variable {P : Program} {w : World} {K : PySem.W.Frag} {mg : Str → Option Value} {base : Heap}
theorem okF_in_order (T : TA K mg)  {f : Addr} {fd : FuncData} (F : Fun K "in_order" "in_order" s_in_order f fd) : FnOk P w K mg base CX0 2 f fd ["several"] (liftFF K psInOrder) := by
  have m_sorted := T.m_sorted
  have m_dict := T.m_dict
  have m_tuple := T.m_tuple
  obtain ⟨f_pairs_of, d_pairs_of, Dpairs_of⟩ := T.D_pairs_of
  have Gpairs_of : FnOk P w K mg base CX0 1 f_pairs_of d_pairs_of _ (lift K psPairs) := ok_pairs_of T Dpairs_of.F
  refine F.ok sc_in_order (liftFF_len (k := 1) A1_len) (fun cdv A outer s H vs Q E hr h => ?_)
  have hl : vs.length = 1 := liftFF_len (k := 1) A1_len vs H Q E h
  refine ⟨_, (pss_cons (ps_set (i := 1) sc_in_order.nd rfl (Or.inl rfl) (pe_callB (cr_sortEP (K := K) (P := P) (w := w) rfl rfl rfl rfl (units20 hr)) (by rfl) m_sorted (by decide +kernel) (pa_cons (pe_sg (bagEP (K := K) (P := P) (w := w) rfl rfl rfl (units20 hr)) (own := [("known", 2)]) (g := gName 2) (tt := tYes) rfl sc_in_order.nd (pi_or (pi_listK (K := K) rfl (pv 0)) (pi_tupK (K := K) rfl (pv 0))) (blkOk_by (N := n_in_order) (sc := defScope s_in_order) (by decide +kernel)) (fun _ _ _ _ _ => pg_name (i := 2) sc_in_order.nd rfl (Or.inl rfl)) (fun _ _ _ _ _ => pts_nil) (fun _ _ _ _ _ => (pe_callTy (call_tupE (K := K) rfl) (by rfl) m_tuple (by decide +kernel) (pa_cons (pe_call Gpairs_of (hr.mono (by decide)) (by rfl) Dpairs_of.g Dpairs_of.F.kp Dpairs_of.b .nil pass0 (pa_cons (pv 2) pa_nil)) pa_nil)))) pa_nil)))
      (pss_one (ps_ret (pe_lc (own := [("key", 3)]) (g := gName 3) (tt := tYes) rfl sc_in_order.nd (pi_listK (K := K) rfl (pv 1)) (blkOk_by (N := n_in_order) (sc := defScope s_in_order) (by decide +kernel)) (fun _ _ _ _ _ => pg_name (i := 3) sc_in_order.nd rfl (Or.inl rfl)) (fun _ _ _ _ _ => pts_nil) (fun _ _ _ _ _ => (pe_callTy (call_dictE (K := K) rfl rfl) (by rfl) m_dict (by decide +kernel) (pa_cons (pv 3) pa_nil))))))), ?_⟩
  refine fn_inOrder (P := P) (w := w) rfl h rfl hl (se_call0 (sa_val (se_var 2) sa_nil)) fun d m n q hm hq => ?_
  simp only [pSeq, pIfS, pOr, pAnd, pNot, pTst, pYes, pUn, pVar, pVarB, pC, pRet, pRetN, pRetB, pNext, pChain, pOp, pAndV, pOrV, pNotV, pIf, pSl, pPart, pNoPart, pNil, pCons, pStar, pLst, pTup, pLc, pItL, pItT, pItS, pRng1, pRng2, pAsg, pAsgF, pDrop, pApp, pExt, pFor, pAug, pPar, pFreeze, pgN, pgTup, pgLst, pgCons, pgNil, pMS, pJoined, pJs, paNil, paVal, paSrc, pCall0, pCall, pSortSg, elP, gI, gI0, gNeg, gAddS, gSS, gSg, gCat, gCatT, gIsN, isNo, gIxL, gIxT, gIxS, gSlL, gSlT, gSlS, gLen, gLenS, gInt, gStrI, gStrS, gAll, gAny, gList, gTuple, gIsi, gJoin, gFind, gSplit, gPart, gFmt, gSortS, gSortLP, gSortSet, gRev, gRepT, gRepS, itemsD, isS, wipeP, List.map_cons, List.map_nil, List.set_cons_zero, List.set_cons_succ, List.getElem?_cons_zero, List.getElem?_cons_succ, List.cons_append, List.nil_append, List.replicate_succ, List.replicate_zero, Bool.false_eq_true, Bool.not_true, Bool.not_false, if_true, if_false, Option.some.injEq, exists_eq_left', true_and, and_true, exists_and_left, exists_eq_left, V.str.injEq, V.int.injEq, isiD, tyD, isiT, tysOk, beq_self_eq_true, Bool.true_or, Bool.or_true, List.mem_cons, true_or, or_true, Option.isSome_some, id_eq, gEq, flD, scal, gLtT, pGet1, pGet2, pDPut, gDGet, gDIn, gSortD, gDictD, gListD, gDictP, isDic, dKey, pMakeQ, pMake0, pCallN, pickL, List.filterMap_cons, List.filterMap_nil, pLc2, pItQ, pWhile]
  exact pairs_go hm hq
theorem ok_in_order (T : TA K mg) {f : Addr} {fd : FuncData} (F : Fun K "in_order" "in_order" s_in_order f fd) : FnOk P w K mg base CX0 2 f fd ["several"] (lift K psInOrder) := (okF_in_order T F).imp fun _ _ _ _ h => lift_FF nox_inOrder h
end
end G39

namespace G39
open PySem PySem.Spec PyProof.Rows L2 Evl
section
variable {P : Program} {w : World} {K : PySem.W.Frag} {mg : Str → Option Value} {base : Heap}
theorem dec_str (a b : Str) : decide (V.str a = V.str b) = decide (a = b) := decide_eq_decide.mpr ⟨fun h => by injection h, fun h => by rw [h]⟩
theorem keys_len (m : List (Str × Str)) : (m.map dicE).length = m.length := List.length_map ..
theorem ok_agree (T : TA K mg)  {f : Addr} {fd : FuncData} (F : Fun K "agree" "agree" s_agree f fd) : FnOk P w K mg base CX0 1 f fd ["one", "other"] (lift K psAgree) := by
  have m_all := T.m_all
  refine F.ok sc_agree (lift_len (k := 2) A2_len) (fun cdv A outer s H vs Q E hr h => ?_)
  have hl : vs.length = 2 := lift_len (k := 2) A2_len vs H Q E h
  refine ⟨_, (pss_one (ps_ret (pe_callB (cr_allK (K := K) rfl rfl) (by rfl) m_all (by decide +kernel) (pa_cons (pe_lk (pe_lc (own := [("variable", 2)]) (g := gName 2) (tt := tYes) rfl sc_agree.nd (pi_keys (pv 0)) (blkOk_by (N := n_agree) (sc := defScope s_agree) (by decide +kernel)) (fun _ _ _ _ _ => pg_name (i := 2) sc_agree.nd rfl (Or.inl rfl)) (fun _ _ _ _ _ => pts_nil) (fun _ _ _ _ _ => (pe_cmpR op_eq (pe_dget2 (Nat.lt_of_le_of_lt (Nat.add_le_add_left (by decide) _) hr.units) (pv 1) (pv 2) (pe_dget (Nat.lt_of_le_of_lt (Nat.add_le_add_left (by decide) _) hr.units) (pv 0) (pv 2) (fun _ _ => rfl)) ⟨rfl, rfl, rfl, rfl⟩) (pe_dget (Nat.lt_of_le_of_lt (Nat.add_le_add_left (by decide) _) hr.units) (pv 0) (pv 2) (fun _ _ => rfl)) (nomark _))))) pa_nil)))), ?_⟩
  refine fn_sim h (W := fun cls dd _ H => E cls dd H) (m := 1) ((ss_ret (se_cb sc_all (SimE.b (SimF.e (sf_lcK (sg_name 2) (by decide) st_yes (se_op sr_eq (SimE.b (se_get2 (SimE.b (se_var 1)) (SimE.b (se_var 2)) (se_dget (SimE.b (se_var 0)) (SimE.b (se_var 2))))) (SimE.b (se_dget (SimE.b (se_var 0)) (SimE.b (se_var 2))))))))))) (fun _ _ _ _ z => z) (by rw [hl]; rfl) fun args n q x hp _ => ?_
  obtain ⟨a0, a1, rfl, hp⟩ := A2_of hp
  obtain ⟨m1, m2, rfl, rfl, h1, h2, hq⟩ := hp
  simp only [pSeq, pIfS, pOr, pAnd, pNot, pTst, pYes, pUn, pVar, pVarB, pC, pRet, pRetN, pRetB, pNext, pChain, pOp, pAndV, pOrV, pNotV, pIf, pSl, pPart, pNoPart, pNil, pCons, pStar, pLst, pTup, pLc, pItL, pItT, pItS, pRng1, pRng2, pAsg, pAsgF, pDrop, pApp, pExt, pFor, pAug, pPar, pFreeze, pgN, pgTup, pgLst, pgCons, pgNil, pMS, pJoined, pJs, paNil, paVal, paSrc, pCall0, pCall, pSortSg, elP, gI, gI0, gNeg, gAddS, gSS, gSg, gCat, gCatT, gIsN, isNo, gIxL, gIxT, gIxS, gSlL, gSlT, gSlS, gLen, gLenS, gInt, gStrI, gStrS, gAll, gAny, gList, gTuple, gIsi, gJoin, gFind, gSplit, gPart, gFmt, gSortS, gSortLP, gSortSet, gRev, gRepT, gRepS, itemsD, isS, wipeP, List.map_cons, List.map_nil, List.set_cons_zero, List.set_cons_succ, List.getElem?_cons_zero, List.getElem?_cons_succ, List.cons_append, List.nil_append, List.replicate_succ, List.replicate_zero, Bool.false_eq_true, Bool.not_true, Bool.not_false, if_true, if_false, Option.some.injEq, exists_eq_left', true_and, and_true, exists_and_left, exists_eq_left, V.str.injEq, V.int.injEq, isiD, tyD, isiT, tysOk, beq_self_eq_true, Bool.true_or, Bool.or_true, List.mem_cons, true_or, or_true, Option.isSome_some, id_eq, gEq, flD, scal, gLtT, pGet1, pGet2, pDPut, gDGet, gDIn, gSortD, gDictD, gListD, gDictP, isDic, dKey, pMakeQ, pMake0, pCallN, pickL, List.filterMap_cons, List.filterMap_nil, pLc2, pItQ, pWhile]
  show ((m1.map dicE).map fun kv => keyD kv.1).length ≤ 40000 ∧ colP _ ((m1.map dicE).map fun kv => keyD kv.1) n _
  rw [keys_dicS]
  have hl := h1.len
  refine ⟨by rw [List.length_map, List.length_map]; omega, ?_⟩
  refine colP_map (g := fun k => .bl (decide ((getS m2 k).getD (fillT m1 k) = fillT m1 k))) (fun z hz k hk => ?_) ?_
  · have hv : valD (m1.map dicE) (.inr z) = some (.str (fillT m1 z)) := by rw [val_dicS, get_some hz]; rfl
    simp only [dicS, pSeq, pIfS, pOr, pAnd, pNot, pTst, pYes, pUn, pVar, pVarB, pC, pRet, pRetN, pRetB, pNext, pChain, pOp, pAndV, pOrV, pNotV, pIf, pSl, pPart, pNoPart, pNil, pCons, pStar, pLst, pTup, pLc, pItL, pItT, pItS, pRng1, pRng2, pAsg, pAsgF, pDrop, pApp, pExt, pFor, pAug, pPar, pFreeze, pgN, pgTup, pgLst, pgCons, pgNil, pMS, pJoined, pJs, paNil, paVal, paSrc, pCall0, pCall, pSortSg, elP, gI, gI0, gNeg, gAddS, gSS, gSg, gCat, gCatT, gIsN, isNo, gIxL, gIxT, gIxS, gSlL, gSlT, gSlS, gLen, gLenS, gInt, gStrI, gStrS, gAll, gAny, gList, gTuple, gIsi, gJoin, gFind, gSplit, gPart, gFmt, gSortS, gSortLP, gSortSet, gRev, gRepT, gRepS, itemsD, isS, wipeP, List.map_cons, List.map_nil, List.set_cons_zero, List.set_cons_succ, List.getElem?_cons_zero, List.getElem?_cons_succ, List.cons_append, List.nil_append, List.replicate_succ, List.replicate_zero, Bool.false_eq_true, Bool.not_true, Bool.not_false, if_true, if_false, Option.some.injEq, exists_eq_left', true_and, and_true, exists_and_left, exists_eq_left, V.str.injEq, V.int.injEq, isiD, tyD, isiT, tysOk, beq_self_eq_true, Bool.true_or, Bool.or_true, List.mem_cons, true_or, or_true, Option.isSome_some, id_eq, gEq, flD, scal, gLtT, pGet1, pGet2, pDPut, gDGet, gDIn, gSortD, gDictD, gListD, gDictP, isDic, dKey, pMakeQ, pMake0, pCallN, pickL, List.filterMap_cons, List.filterMap_nil, pLc2, pItQ, pWhile]
    have e2 : (valD (m2.map dicE) (.inr z)).getD (.str (fillT m1 z)) = .str ((getS m2 z).getD (fillT m1 z)) := by
      rw [val_dicS]
      cases getS m2 z <;> rfl
    refine ⟨_, hv, ?_⟩
    rw [e2]
    refine ⟨_, hv, _, rfl, _, rfl, rfl, ?_⟩
    rw [dec_str]
    exact hk
  · refine ⟨_, blsD_map _ _, ?_⟩
    rw [List.all_map]
    exact hq
end
section
variable {P : Program} {w : World} {K : PySem.W.Frag} {mg : Str → Option Value} {base : Heap}
theorem ok_is_above (T : TA K mg)  {f : Addr} {fd : FuncData} (F : Fun K "is_above" "is_above" s_is_above f fd) : FnOk P w K mg base CX0 1 f fd ["one", "other"] (lift K psAbove) := by
  have m_all := T.m_all
  refine F.ok sc_is_above (lift_len (k := 2) A2_len) (fun cdv A outer s H vs Q E hr h => ?_)
  have hl : vs.length = 2 := lift_len (k := 2) A2_len vs H Q E h
  refine ⟨_, (pss_one (ps_ret (pe_callB (cr_allK (K := K) rfl rfl) (by rfl) m_all (by decide +kernel) (pa_cons (pe_lk (pe_lc (own := [("variable", 2)]) (g := gName 2) (tt := tYes) rfl sc_is_above.nd (pi_keys (pv 1)) (blkOk_by (N := n_is_above) (sc := defScope s_is_above) (by decide +kernel)) (fun _ _ _ _ _ => pg_name (i := 2) sc_is_above.nd rfl (Or.inl rfl)) (fun _ _ _ _ _ => pts_nil) (fun _ _ _ _ _ => (pe_cmpR op_eq (pe_dget1 (Nat.lt_of_le_of_lt (Nat.add_le_add_left (by decide) _) hr.units) (pv 0) (pv 2) ⟨rfl, rfl, rfl, rfl⟩) (pe_dget (Nat.lt_of_le_of_lt (Nat.add_le_add_left (by decide) _) hr.units) (pv 1) (pv 2) (fun _ _ => rfl)) (nomark _))))) pa_nil)))), ?_⟩
  refine fn_sim h (W := fun cls dd _ H => E cls dd H) (m := 1) ((ss_ret (se_cb sc_all (SimE.b (SimF.e (sf_lcK (sg_name 2) (by decide) st_yes (se_op sr_eq (SimE.b (se_get1 (SimE.b (se_var 0)) (SimE.b (se_var 2)))) (SimE.b (se_dget (SimE.b (se_var 1)) (SimE.b (se_var 2))))))))))) (fun _ _ _ _ z => z) (by rw [hl]; rfl) fun args n q x hp _ => ?_
  obtain ⟨a0, a1, rfl, hp⟩ := A2_of hp
  obtain ⟨m1, m2, rfl, rfl, h1, h2, hq⟩ := hp
  simp only [pSeq, pIfS, pOr, pAnd, pNot, pTst, pYes, pUn, pVar, pVarB, pC, pRet, pRetN, pRetB, pNext, pChain, pOp, pAndV, pOrV, pNotV, pIf, pSl, pPart, pNoPart, pNil, pCons, pStar, pLst, pTup, pLc, pItL, pItT, pItS, pRng1, pRng2, pAsg, pAsgF, pDrop, pApp, pExt, pFor, pAug, pPar, pFreeze, pgN, pgTup, pgLst, pgCons, pgNil, pMS, pJoined, pJs, paNil, paVal, paSrc, pCall0, pCall, pSortSg, elP, gI, gI0, gNeg, gAddS, gSS, gSg, gCat, gCatT, gIsN, isNo, gIxL, gIxT, gIxS, gSlL, gSlT, gSlS, gLen, gLenS, gInt, gStrI, gStrS, gAll, gAny, gList, gTuple, gIsi, gJoin, gFind, gSplit, gPart, gFmt, gSortS, gSortLP, gSortSet, gRev, gRepT, gRepS, itemsD, isS, wipeP, List.map_cons, List.map_nil, List.set_cons_zero, List.set_cons_succ, List.getElem?_cons_zero, List.getElem?_cons_succ, List.cons_append, List.nil_append, List.replicate_succ, List.replicate_zero, Bool.false_eq_true, Bool.not_true, Bool.not_false, if_true, if_false, Option.some.injEq, exists_eq_left', true_and, and_true, exists_and_left, exists_eq_left, V.str.injEq, V.int.injEq, isiD, tyD, isiT, tysOk, beq_self_eq_true, Bool.true_or, Bool.or_true, List.mem_cons, true_or, or_true, Option.isSome_some, id_eq, gEq, flD, scal, gLtT, pGet1, pGet2, pDPut, gDGet, gDIn, gSortD, gDictD, gListD, gDictP, isDic, dKey, pMakeQ, pMake0, pCallN, pickL, List.filterMap_cons, List.filterMap_nil, pLc2, pItQ, pWhile]
  show ((m2.map dicE).map fun kv => keyD kv.1).length ≤ 40000 ∧ colP _ ((m2.map dicE).map fun kv => keyD kv.1) n _
  rw [keys_dicS]
  have hl := h2.len
  refine ⟨by rw [List.length_map, List.length_map]; omega, ?_⟩
  refine colP_map (g := fun k => .bl (decide (getS m1 k = some (fillT m2 k)))) (fun z hz k hk => ?_) ?_
  · have hv : valD (m2.map dicE) (.inr z) = some (.str (fillT m2 z)) := by rw [val_dicS, get_some hz]; rfl
    simp only [dicS, pSeq, pIfS, pOr, pAnd, pNot, pTst, pYes, pUn, pVar, pVarB, pC, pRet, pRetN, pRetB, pNext, pChain, pOp, pAndV, pOrV, pNotV, pIf, pSl, pPart, pNoPart, pNil, pCons, pStar, pLst, pTup, pLc, pItL, pItT, pItS, pRng1, pRng2, pAsg, pAsgF, pDrop, pApp, pExt, pFor, pAug, pPar, pFreeze, pgN, pgTup, pgLst, pgCons, pgNil, pMS, pJoined, pJs, paNil, paVal, paSrc, pCall0, pCall, pSortSg, elP, gI, gI0, gNeg, gAddS, gSS, gSg, gCat, gCatT, gIsN, isNo, gIxL, gIxT, gIxS, gSlL, gSlT, gSlS, gLen, gLenS, gInt, gStrI, gStrS, gAll, gAny, gList, gTuple, gIsi, gJoin, gFind, gSplit, gPart, gFmt, gSortS, gSortLP, gSortSet, gRev, gRepT, gRepS, itemsD, isS, wipeP, List.map_cons, List.map_nil, List.set_cons_zero, List.set_cons_succ, List.getElem?_cons_zero, List.getElem?_cons_succ, List.cons_append, List.nil_append, List.replicate_succ, List.replicate_zero, Bool.false_eq_true, Bool.not_true, Bool.not_false, if_true, if_false, Option.some.injEq, exists_eq_left', true_and, and_true, exists_and_left, exists_eq_left, V.str.injEq, V.int.injEq, isiD, tyD, isiT, tysOk, beq_self_eq_true, Bool.true_or, Bool.or_true, List.mem_cons, true_or, or_true, Option.isSome_some, id_eq, gEq, flD, scal, gLtT, pGet1, pGet2, pDPut, gDGet, gDIn, gSortD, gDictD, gListD, gDictP, isDic, dKey, pMakeQ, pMake0, pCallN, pickL, List.filterMap_cons, List.filterMap_nil, pLc2, pItQ, pWhile]
    refine ⟨_, hv, ?_⟩
    rw [val_dicS]
    cases e : getS m1 z with
    | none =>
      rw [e] at hk
      exact ⟨_, rfl, _, rfl, rfl, hk⟩
    | some y =>
      rw [e] at hk
      refine ⟨_, rfl, _, rfl, rfl, ?_⟩
      rw [dec_str]
      have e3 : decide (some y = some (fillT m2 z)) = decide (y = fillT m2 z) := decide_eq_decide.mpr ⟨fun h => by injection h, fun h => by rw [h]⟩
      rw [e3] at hk
      exact hk
  · refine ⟨_, blsD_map _ _, ?_⟩
    rw [List.all_map]
    exact hq
end
section
variable {P : Program} {w : World} {K : PySem.W.Frag} {mg : Str → Option Value} {base : Heap}
theorem okF_joined (T : TA K mg)  {f : Addr} {fd : FuncData} (F : Fun K "joined" "joined" s_joined f fd) : FnOk P w K mg base CX0 3 f fd ["one", "other"] (liftF K psJoined) := by
  obtain ⟨f_ordered, d_ordered, Dordered⟩ := T.D_ordered
  have Gordered : FnOk P w K mg base CX0 2 f_ordered d_ordered _ (lift K psOrdered) := ok_ordered T Dordered.F
  have GFordered : FnOk P w K mg base CX0 2 f_ordered d_ordered _ (liftF K psOrdered) := okF_ordered T Dordered.F
  refine F.ok sc_joined (liftF_len (k := 2) A2_len) (fun cdv A outer s H vs Q E hr h => ?_)
  have hl : vs.length = 2 := liftF_len (k := 2) A2_len vs H Q E h
  refine ⟨_, (pss_one (ps_ret (pe_call GFordered (hr.mono (by decide)) (by rfl) Dordered.g Dordered.F.kp Dordered.b .nil pass0 (pa_cons (pe_merge (pv 0) (pv 1)) pa_nil)))), ?_⟩
  refine fn_simF rfl h (m := 0) (sf_callF (sa_val (SimF.e (sf_merge (se_var 0) (se_var 1))) sa_nil)) (by rw [hl]; rfl) fun args n q x hp _ => ?_
  obtain ⟨a0, a1, rfl, hp⟩ := A2_of hp
  obtain ⟨m1, m2, rfl, rfl, h1, h2, hq⟩ := hp
  simp only [pMerge, pSeq, pIfS, pOr, pAnd, pNot, pTst, pYes, pUn, pVar, pVarB, pC, pRet, pRetN, pRetB, pNext, pChain, pOp, pAndV, pOrV, pNotV, pIf, pSl, pPart, pNoPart, pNil, pCons, pStar, pLst, pTup, pLc, pItL, pItT, pItS, pRng1, pRng2, pAsg, pAsgF, pDrop, pApp, pExt, pFor, pAug, pPar, pFreeze, pgN, pgTup, pgLst, pgCons, pgNil, pMS, pJoined, pJs, paNil, paVal, paSrc, pCall0, pCall, pSortSg, elP, gI, gI0, gNeg, gAddS, gSS, gSg, gCat, gCatT, gIsN, isNo, gIxL, gIxT, gIxS, gSlL, gSlT, gSlS, gLen, gLenS, gInt, gStrI, gStrS, gAll, gAny, gList, gTuple, gIsi, gJoin, gFind, gSplit, gPart, gFmt, gSortS, gSortLP, gSortSet, gRev, gRepT, gRepS, itemsD, isS, wipeP, List.map_cons, List.map_nil, List.set_cons_zero, List.set_cons_succ, List.getElem?_cons_zero, List.getElem?_cons_succ, List.cons_append, List.nil_append, List.replicate_succ, List.replicate_zero, Bool.false_eq_true, Bool.not_true, Bool.not_false, if_true, if_false, Option.some.injEq, exists_eq_left', true_and, and_true, exists_and_left, exists_eq_left, V.str.injEq, V.int.injEq, isiD, tyD, isiT, tysOk, beq_self_eq_true, Bool.true_or, Bool.or_true, List.mem_cons, true_or, or_true, Option.isSome_some, id_eq, gEq, flD, scal, gLtT, pGet1, pGet2, pDPut, gDGet, gDIn, gSortD, gDictD, gListD, gDictP, isDic, dKey, pMakeQ, pMake0, pCallN, pickL, List.filterMap_cons, List.filterMap_nil, pLc2, pItQ, pWhile]
  have l1 := h1.len
  have l2 := h2.len
  refine ⟨_, rfl, by rw [List.length_map]; omega, _, rfl, by rw [List.length_map]; omega, ?_⟩
  rw [merge_both h1.nd]
  exact ordered_go ((h1.merg h2.sok).ok (by omega)) hq
theorem ok_joined (T : TA K mg) {f : Addr} {fd : FuncData} (F : Fun K "joined" "joined" s_joined f fd) : FnOk P w K mg base CX0 3 f fd ["one", "other"] (lift K psJoined) := (okF_joined T F).imp fun _ _ _ _ h => lift_F nox_joined h
end
section
variable {P : Program} {w : World} {K : PySem.W.Frag} {mg : Str → Option Value} {base : Heap}
theorem colD_keep {n : Nat} {q : List (Key × D) → Nat → Prop} {f : D → Nat → (Option (D × D) → Nat → Prop) → Prop} {b : Str × Str → Bool} : ∀ (l acc : List (Str × Str)), ((acc ++ l).map Prod.fst).Nodup → (∀ p ∈ l, ∀ k : Option (D × D) → Nat → Prop, k (if b p then some (.str p.1, .str p.2) else none) n → f (tupD (p2L p)) n k) → q ((acc ++ l.filter b).map dicE) n → colD f ((l.map p2L).map tupD) (acc.map dicE) n q
  | [], acc, _, _, hq => by simpa [colD] using hq
  | p :: l, acc, nd, h, hq => by
    rw [List.map_cons, List.map_cons]
    unfold colD
    refine h p (List.mem_cons_self ..) _ ?_
    cases e : b p with
    | true =>
      rw [if_pos rfl]
      refine ⟨.inr p.1, rfl, ?_⟩
      have hn : p.1 ∉ acc.map Prod.fst := fun z => by
        rw [List.map_append, List.nodup_append] at nd
        exact nd.2.2 p.1 z p.1 (by simp) rfl
      rw [put_dicS, put_new hn]
      have e1 : acc ++ [(p.1, p.2)] ++ l = acc ++ p :: l := by simp
      refine colD_keep l (acc ++ [(p.1, p.2)]) (by rw [e1]; exact nd) (fun q hq => h q (List.mem_cons_of_mem _ hq)) ?_
      rw [List.filter_cons_of_pos (by exact e)] at hq
      have e2 : acc ++ [(p.1, p.2)] ++ l.filter b = acc ++ p :: l.filter b := by simp
      rw [e2]
      exact hq
    | false =>
      rw [if_neg Bool.false_ne_true]
      rw [List.filter_cons_of_neg (by rw [e]; exact Bool.false_ne_true)] at hq
      refine colD_keep l acc ?_ (fun q hq => h q (List.mem_cons_of_mem _ hq)) hq
      refine List.Nodup.sublist (List.Sublist.map _ (List.Sublist.append (List.Sublist.refl _) (List.sublist_cons_self ..))) nd
theorem okF_only_keys (T : TA K mg)  {f : Addr} {fd : FuncData} (F : Fun K "only_keys" "only_keys" s_only_keys f fd) : FnOk P w K mg base CX0 2 f fd ["known", "variables"] (liftF K psOnly) := by
  obtain ⟨f_pairs_of, d_pairs_of, Dpairs_of⟩ := T.D_pairs_of
  have Gpairs_of : FnOk P w K mg base CX0 1 f_pairs_of d_pairs_of _ (lift K psPairs) := ok_pairs_of T Dpairs_of.F
  refine F.ok sc_only_keys (liftF_len (k := 2) A2_len) (fun cdv A outer s H vs Q E hr h => ?_)
  have hl : vs.length = 2 := liftF_len (k := 2) A2_len vs H Q E h
  refine ⟨_, (pss_one (ps_ret (pe_dc (own := [("variable", 2), ("term", 3)]) (g := gTup K 2 (gCons (gName 2) (gCons (gName 3) gNil))) rfl sc_only_keys.nd (pi_listK (K := K) rfl (pe_call Gpairs_of (hr.mono (by decide)) (by rfl) Dpairs_of.g Dpairs_of.F.kp Dpairs_of.b .nil pass0 (pa_cons (pv 0) pa_nil))) (blkOk_by (N := n_only_keys) (sc := defScope s_only_keys) (by decide +kernel)) (fun _ _ _ _ _ => (pg_tup (by rfl) (n := 2) (pgs_cons (pg_name (i := 2) sc_only_keys.nd rfl (Or.inl rfl)) (pgs_cons (pg_name (i := 3) sc_only_keys.nd rfl (Or.inl rfl)) pgs_nil)))) (fun _ _ _ _ _ => pts_one (pt_cmpR (op_in_seqK (K := K) rfl) (pv 2) (pv 1) (by rfl))) (fun _ _ _ _ _ => (pv 2)) (fun _ _ _ _ _ => (pv 3))))), ?_⟩
  refine fn_simF rfl h (m := 2) (sf_dc (si_list (SimE.b (se_call0 (sa_val (se_var 0) sa_nil)))) (sg_tup (sgs_cons (sg_name 2) (sgs_cons (sg_name 3) sgs_nil))) (by decide) (st_of' (se_op sr_in (SimE.b (se_var 2)) (SimE.b (se_var 1)))) (se_var 2) (se_var 3)) (by rw [hl]; rfl) fun args n q x hp _ => ?_
  obtain ⟨a0, a1, rfl, hp⟩ := A2_of hp
  obtain ⟨m, ks, rfl, rfl, h, hl, hq⟩ := hp
  simp only [pDc, pSeq, pIfS, pOr, pAnd, pNot, pTst, pYes, pUn, pVar, pVarB, pC, pRet, pRetN, pRetB, pNext, pChain, pOp, pAndV, pOrV, pNotV, pIf, pSl, pPart, pNoPart, pNil, pCons, pStar, pLst, pTup, pLc, pItL, pItT, pItS, pRng1, pRng2, pAsg, pAsgF, pDrop, pApp, pExt, pFor, pAug, pPar, pFreeze, pgN, pgTup, pgLst, pgCons, pgNil, pMS, pJoined, pJs, paNil, paVal, paSrc, pCall0, pCall, pSortSg, elP, gI, gI0, gNeg, gAddS, gSS, gSg, gCat, gCatT, gIsN, isNo, gIxL, gIxT, gIxS, gSlL, gSlT, gSlS, gLen, gLenS, gInt, gStrI, gStrS, gAll, gAny, gList, gTuple, gIsi, gJoin, gFind, gSplit, gPart, gFmt, gSortS, gSortLP, gSortSet, gRev, gRepT, gRepS, itemsD, isS, wipeP, List.map_cons, List.map_nil, List.set_cons_zero, List.set_cons_succ, List.getElem?_cons_zero, List.getElem?_cons_succ, List.cons_append, List.nil_append, List.replicate_succ, List.replicate_zero, Bool.false_eq_true, Bool.not_true, Bool.not_false, if_true, if_false, Option.some.injEq, exists_eq_left', true_and, and_true, exists_and_left, exists_eq_left, V.str.injEq, V.int.injEq, isiD, tyD, isiT, tysOk, beq_self_eq_true, Bool.true_or, Bool.or_true, List.mem_cons, true_or, or_true, Option.isSome_some, id_eq, gEq, flD, scal, gLtT, pGet1, pGet2, pDPut, gDGet, gDIn, gSortD, gDictD, gListD, gDictP, isDic, dKey, pMakeQ, pMake0, pCallN, pickL, List.filterMap_cons, List.filterMap_nil, pLc2, pItQ, pWhile]
  refine pairs_go h ?_
  have hl := h.len
  refine ⟨by unfold prS; rw [List.length_map, List.length_map, ordS_len]; omega, ?_⟩
  refine colD_keep (b := fun p => decide (p.1 ∈ ks)) (ordS m) [] h.ord.nd (fun p hp k hk => ?_) hq
  simp only [elD, tupD, p2L, pSeq, pIfS, pOr, pAnd, pNot, pTst, pYes, pUn, pVar, pVarB, pC, pRet, pRetN, pRetB, pNext, pChain, pOp, pAndV, pOrV, pNotV, pIf, pSl, pPart, pNoPart, pNil, pCons, pStar, pLst, pTup, pLc, pItL, pItT, pItS, pRng1, pRng2, pAsg, pAsgF, pDrop, pApp, pExt, pFor, pAug, pPar, pFreeze, pgN, pgTup, pgLst, pgCons, pgNil, pMS, pJoined, pJs, paNil, paVal, paSrc, pCall0, pCall, pSortSg, elP, gI, gI0, gNeg, gAddS, gSS, gSg, gCat, gCatT, gIsN, isNo, gIxL, gIxT, gIxS, gSlL, gSlT, gSlS, gLen, gLenS, gInt, gStrI, gStrS, gAll, gAny, gList, gTuple, gIsi, gJoin, gFind, gSplit, gPart, gFmt, gSortS, gSortLP, gSortSet, gRev, gRepT, gRepS, itemsD, isS, wipeP, List.map_cons, List.map_nil, List.set_cons_zero, List.set_cons_succ, List.getElem?_cons_zero, List.getElem?_cons_succ, List.cons_append, List.nil_append, List.replicate_succ, List.replicate_zero, Bool.false_eq_true, Bool.not_true, Bool.not_false, if_true, if_false, Option.some.injEq, exists_eq_left', true_and, and_true, exists_and_left, exists_eq_left, V.str.injEq, V.int.injEq, isiD, tyD, isiT, tysOk, beq_self_eq_true, Bool.true_or, Bool.or_true, List.mem_cons, true_or, or_true, Option.isSome_some, id_eq, gEq, flD, scal, gLtT, pGet1, pGet2, pDPut, gDGet, gDIn, gSortD, gDictD, gListD, gDictP, isDic, dKey, pMakeQ, pMake0, pCallN, pickL, List.filterMap_cons, List.filterMap_nil, pLc2, pItQ, pWhile]
  refine ⟨rfl, in_strs ?_⟩
  show if (id (decide (p.1 ∈ ks))) = true then _ else _
  by_cases c : p.1 ∈ ks
  · rw [decide_eq_true c] at hk ⊢
    exact hk
  · rw [decide_eq_false c] at hk ⊢
    exact hk
theorem ok_only_keys (T : TA K mg) {f : Addr} {fd : FuncData} (F : Fun K "only_keys" "only_keys" s_only_keys f fd) : FnOk P w K mg base CX0 2 f fd ["known", "variables"] (lift K psOnly) := (okF_only_keys T F).imp fun _ _ _ _ h => lift_F nox_only h
end
end G39

namespace G39
open PySem PySem.Spec PyProof.Rows L2 Evl
section
variable {P : Program} {w : World} {K : PySem.W.Frag} {mg : Str → Option Value} {base : Heap}
theorem ok__law_pairs (T : TA K mg)  {f : Addr} {fd : FuncData} (F : Fun K "_law_pairs" "_law_pairs" s__law_pairs f fd) : FnOk P w K mg base CX0 1 f fd ["_law_known"] (lift K psPairs) := by
  have m_sorted := T.m_sorted
  have m_list := T.m_list
  refine F.ok sc__law_pairs (lift_len (k := 1) A1_len) (fun cdv A outer s H vs Q E hr h => ?_)
  have hl : vs.length = 1 := lift_len (k := 1) A1_len vs H Q E h
  refine ⟨_, (pss_one (ps_ret (pe_lc (own := [("_law_variable", 1)]) (g := gName 1) (tt := tYes) rfl sc__law_pairs.nd (pi_listK (K := K) rfl (pe_callB (cr_sortedSK (K := K) rfl) (by rfl) m_sorted (by decide +kernel) (pa_cons (pe_callTy (call_listD rfl) (by rfl) m_list (by decide +kernel) (pa_cons (pv 0) pa_nil)) pa_nil))) (blkOk_by (N := n__law_pairs) (sc := defScope s__law_pairs) (by decide +kernel)) (fun _ _ _ _ _ => pg_name (i := 1) sc__law_pairs.nd rfl (Or.inl rfl)) (fun _ _ _ _ _ => pts_nil) (fun _ _ _ _ _ => (pe_tup (pa_cons (pv 1) (pa_cons (pe_dget (Nat.lt_of_le_of_lt (Nat.add_le_add_left (by decide) _) hr.units) (pv 0) (pv 1) (fun _ _ => rfl)) pa_nil))))))), ?_⟩
  refine fn_sim h (W := fun cls dd _ H => E cls dd H) (m := 1) ((ss_ret (SimF.e (sf_lc (si_list (SimE.b (SimF.e (sf_cb scf_sortS (SimE.b (SimF.e (sf_cb scf_listD (SimE.b (se_var 0))))))))) (sg_name 1) (by decide) st_yes (se_tup (sl_cons (se_var 1) (sl_cons (se_dget (SimE.b (se_var 0)) (SimE.b (se_var 1))) sl_nil))))))) (fun _ _ _ _ z => z) (by rw [hl]; rfl) fun args n q x hp _ => ?_
  obtain ⟨a0, rfl, hp⟩ := A1_of hp
  obtain ⟨m, rfl, h, hq⟩ := hp
  simp only [dicS, pSeq, pIfS, pOr, pAnd, pNot, pTst, pYes, pUn, pVar, pVarB, pC, pRet, pRetN, pRetB, pNext, pChain, pOp, pAndV, pOrV, pNotV, pIf, pSl, pPart, pNoPart, pNil, pCons, pStar, pLst, pTup, pLc, pItL, pItT, pItS, pRng1, pRng2, pAsg, pAsgF, pDrop, pApp, pExt, pFor, pAug, pPar, pFreeze, pgN, pgTup, pgLst, pgCons, pgNil, pMS, pJoined, pJs, paNil, paVal, paSrc, pCall0, pCall, pSortSg, elP, gI, gI0, gNeg, gAddS, gSS, gSg, gCat, gCatT, gIsN, isNo, gIxL, gIxT, gIxS, gSlL, gSlT, gSlS, gLen, gLenS, gInt, gStrI, gStrS, gAll, gAny, gList, gTuple, gIsi, gJoin, gFind, gSplit, gPart, gFmt, gSortS, gSortLP, gSortSet, gRev, gRepT, gRepS, itemsD, isS, wipeP, List.map_cons, List.map_nil, List.set_cons_zero, List.set_cons_succ, List.getElem?_cons_zero, List.getElem?_cons_succ, List.cons_append, List.nil_append, List.replicate_succ, List.replicate_zero, Bool.false_eq_true, Bool.not_true, Bool.not_false, if_true, if_false, Option.some.injEq, exists_eq_left', true_and, and_true, exists_and_left, exists_eq_left, V.str.injEq, V.int.injEq, isiD, tyD, isiT, tysOk, beq_self_eq_true, Bool.true_or, Bool.or_true, List.mem_cons, true_or, or_true, Option.isSome_some, id_eq, gEq, flD, scal, gLtT, pGet1, pGet2, pDPut, gDGet, gDIn, gSortD, gDictD, gListD, gDictP, isDic, dKey, pMakeQ, pMake0, pCallN, pickL, List.filterMap_cons, List.filterMap_nil, pLc2, pItQ, pWhile]
  have hl := h.len
  rw [keys_dicS]
  refine ⟨_, strsD_map _, by rw [List.length_map]; omega, by rw [List.length_map, (srtS_perm _).length_eq, List.length_map]; omega, ?_⟩
  refine pairs_col h (fun z k hk hv => ?_) hq
  simp only [dicS, pSeq, pIfS, pOr, pAnd, pNot, pTst, pYes, pUn, pVar, pVarB, pC, pRet, pRetN, pRetB, pNext, pChain, pOp, pAndV, pOrV, pNotV, pIf, pSl, pPart, pNoPart, pNil, pCons, pStar, pLst, pTup, pLc, pItL, pItT, pItS, pRng1, pRng2, pAsg, pAsgF, pDrop, pApp, pExt, pFor, pAug, pPar, pFreeze, pgN, pgTup, pgLst, pgCons, pgNil, pMS, pJoined, pJs, paNil, paVal, paSrc, pCall0, pCall, pSortSg, elP, gI, gI0, gNeg, gAddS, gSS, gSg, gCat, gCatT, gIsN, isNo, gIxL, gIxT, gIxS, gSlL, gSlT, gSlS, gLen, gLenS, gInt, gStrI, gStrS, gAll, gAny, gList, gTuple, gIsi, gJoin, gFind, gSplit, gPart, gFmt, gSortS, gSortLP, gSortSet, gRev, gRepT, gRepS, itemsD, isS, wipeP, List.map_cons, List.map_nil, List.set_cons_zero, List.set_cons_succ, List.getElem?_cons_zero, List.getElem?_cons_succ, List.cons_append, List.nil_append, List.replicate_succ, List.replicate_zero, Bool.false_eq_true, Bool.not_true, Bool.not_false, if_true, if_false, Option.some.injEq, exists_eq_left', true_and, and_true, exists_and_left, exists_eq_left, V.str.injEq, V.int.injEq, isiD, tyD, isiT, tysOk, beq_self_eq_true, Bool.true_or, Bool.or_true, List.mem_cons, true_or, or_true, Option.isSome_some, id_eq, gEq, flD, scal, gLtT, pGet1, pGet2, pDPut, gDGet, gDIn, gSortD, gDictD, gListD, gDictP, isDic, dKey, pMakeQ, pMake0, pCallN, pickL, List.filterMap_cons, List.filterMap_nil, pLc2, pItQ, pWhile]
  exact ⟨_, hv, by simp, hk _ hv⟩
end
section
variable {P : Program} {w : World} {K : PySem.W.Frag} {mg : Str → Option Value} {base : Heap}
theorem pls_of : ∀ {l : List D}, (∀ z ∈ l, plD z = true ∧ dpD z ≤ 2) → plDs l = true ∧ dpDs l ≤ 2
  | [], _ => ⟨rfl, by simp [dpDs]⟩
  | m :: l, h => by
    obtain ⟨h1, h2⟩ := pls_of (l := l) fun m hm => h m (List.mem_cons_of_mem _ hm)
    obtain ⟨h3, h4⟩ := h m (List.mem_cons_self ..)
    exact ⟨by simp only [plDs, h1, h3, Bool.and_self], by simp only [dpDs]; omega⟩
def lpD (z : PPs) : D := .lst (z.map tupD)
theorem lpD_inj {a b : PPs} (h : lpD a = lpD b) : a = b := by
  unfold lpD at h
  injection h with h
  refine (List.map_inj_right fun x y e => ?_).mp h
  unfold tupD at e
  injection e with e
  exact (List.map_inj_right fun x y e => by injection e).mp e
theorem ok__law_ordered (T : TA K mg)  {f : Addr} {fd : FuncData} (F : Fun K "_law_ordered" "_law_ordered" s__law_ordered f fd) : FnOk P w K mg base CX0 2 f fd ["_law_several"] (lift K psOrdL) := by
  have m_sorted := T.m_sorted
  have m_dict := T.m_dict
  obtain ⟨f__law_pairs, d__law_pairs, D_law_pairs⟩ := T.D__law_pairs
  have G_law_pairs : FnOk P w K mg base CX0 1 f__law_pairs d__law_pairs _ (lift K psPairs) := ok__law_pairs T D_law_pairs.F
  refine F.ok sc__law_ordered (lift_len (k := 1) A1_len) (fun cdv A outer s H vs Q E hr h => ?_)
  have hl : vs.length = 1 := lift_len (k := 1) A1_len vs H Q E h
  refine ⟨_, (pss_cons (ps_set (i := 1) sc__law_ordered.nd rfl (Or.inl rfl) (pe_lst pa_nil))
      (pss_cons (ps_for PassesOwn.never rfl (pi_listK (K := K) rfl (pe_callB (cr_sortLP' (K := K) rfl (units20 hr)) (by rfl) m_sorted (by decide +kernel) (pa_cons (pe_lc (own := [("_law_known", 3)]) (g := gName 3) (tt := tYes) rfl sc__law_ordered.nd (pi_listK (K := K) rfl (pv 0)) (blkOk_by (N := n__law_ordered) (sc := defScope s__law_ordered) (by decide +kernel)) (fun _ _ _ _ _ => pg_name (i := 3) sc__law_ordered.nd rfl (Or.inl rfl)) (fun _ _ _ _ _ => pts_nil) (fun _ _ _ _ _ => (pe_call G_law_pairs (hr.mono (by decide)) (by rfl) D_law_pairs.g D_law_pairs.F.kp D_law_pairs.b .nil pass0 (pa_cons (pv 3) pa_nil)))) pa_nil))) (pg_name (i := 2) sc__law_ordered.nd rfl (Or.inl rfl)) (pss_one (ps_if (PW.pt (pw_or (pt_cmpR (op_eqDK (K := K) rfl hr.units) (pv 1) (pe_lst pa_nil) (nomark _)) (pw_or1 (pt_cmpR (op_neDK (K := K) rfl hr.units) (pe_ix (ix_listK (K := K) rfl) (pv 1) (pe_un un_neg pe_int) (fun _ _ => rfl)) (pv 2) (nomark _))))) (pss_one (ps_expr (pe_bm PySem.F.plainAttrs_list PySem.F.slot_list_append PySem.F.type_list_append mt_append (pv 1) (pa_cons (pv 2) pa_nil)))) pss_nil)))
      (pss_one (ps_ret (pe_lc (own := [("_law_pairs_here", 2)]) (g := gName 2) (tt := tYes) rfl sc__law_ordered.nd (pi_listK (K := K) rfl (pv 1)) (blkOk_by (N := n__law_ordered) (sc := defScope s__law_ordered) (by decide +kernel)) (fun _ _ _ _ _ => pg_name (i := 2) sc__law_ordered.nd rfl (Or.inl rfl)) (fun _ _ _ _ _ => pts_nil) (fun _ _ _ _ _ => (pe_callTy (call_dictPK (K := K) rfl rfl) (by rfl) m_dict (by decide +kernel) (pa_cons (pv 2) pa_nil)))))))), ?_⟩
  refine fn_sim h (W := fun cls dd _ H => E cls dd H) (m := 3) ((ss_seq (ss_asgF (i := 1) (sf_lst sl_nil))
      (ss_seq (ss_for (sj_list (SimF.e (sf_cb (scf_sortK (d := lpK)) (SimE.b (SimF.e (sf_lc (si_list (SimE.b (se_var 0))) (sg_name 3) (by decide) st_yes (se_call0 (sa_val (se_var 3) sa_nil)))))))) (sg_name 2) (ss_if (st_or (st_of' (se_op sr_eqD (sb_var 1) (SimE.b (SimF.e (sf_lst sl_nil))))) (st_of' (se_op sr_neD (SimE.b (se_op sr_ixL (sb_var 1) (SimE.b (se_un su_neg (SimE.b se_int))))) (SimE.b (se_var 2))))) (ss_app (se_var 2)) ss_next))
      (ss_ret (SimF.e (sf_lc (si_list (sb_var 1)) (sg_name 2) (by decide) st_yes (SimF.e (sf_cb scf_dictP (SimE.b (se_var 2)))))))))) (fun _ _ _ _ z => z) (by rw [hl]; rfl) fun args n q x hp _ => ?_
  obtain ⟨a0, rfl, hp⟩ := A1_of hp
  obtain ⟨ms, rfl, hm, hl, hq⟩ := hp
  simp only [pSeq, pIfS, pOr, pAnd, pNot, pTst, pYes, pUn, pVar, pVarB, pC, pRet, pRetN, pRetB, pNext, pChain, pOp, pAndV, pOrV, pNotV, pIf, pSl, pPart, pNoPart, pNil, pCons, pStar, pLst, pTup, pLc, pItL, pItT, pItS, pRng1, pRng2, pAsg, pAsgF, pDrop, pApp, pExt, pFor, pAug, pPar, pFreeze, pgN, pgTup, pgLst, pgCons, pgNil, pMS, pJoined, pJs, paNil, paVal, paSrc, pCall0, pCall, pSortSg, elP, gI, gI0, gNeg, gAddS, gSS, gSg, gCat, gCatT, gIsN, isNo, gIxL, gIxT, gIxS, gSlL, gSlT, gSlS, gLen, gLenS, gInt, gStrI, gStrS, gAll, gAny, gList, gTuple, gIsi, gJoin, gFind, gSplit, gPart, gFmt, gSortS, gSortLP, gSortSet, gRev, gRepT, gRepS, itemsD, isS, wipeP, List.map_cons, List.map_nil, List.set_cons_zero, List.set_cons_succ, List.getElem?_cons_zero, List.getElem?_cons_succ, List.cons_append, List.nil_append, List.replicate_succ, List.replicate_zero, Bool.false_eq_true, Bool.not_true, Bool.not_false, if_true, if_false, Option.some.injEq, exists_eq_left', true_and, and_true, exists_and_left, exists_eq_left, V.str.injEq, V.int.injEq, isiD, tyD, isiT, tysOk, beq_self_eq_true, Bool.true_or, Bool.or_true, List.mem_cons, true_or, or_true, Option.isSome_some, id_eq, gEq, flD, scal, gLtT, pGet1, pGet2, pDPut, gDGet, gDIn, gSortD, gDictD, gListD, gDictP, isDic, dKey, pMakeQ, pMake0, pCallN, pickL, List.filterMap_cons, List.filterMap_nil, pLc2, pItQ, pWhile]
  refine ⟨by simp, by rw [List.length_map]; omega, ?_⟩
  refine colP_map (g := fun m => lpD (prS m)) (fun m hmm k hk => ?_) ?_
  · simp only [pSeq, pIfS, pOr, pAnd, pNot, pTst, pYes, pUn, pVar, pVarB, pC, pRet, pRetN, pRetB, pNext, pChain, pOp, pAndV, pOrV, pNotV, pIf, pSl, pPart, pNoPart, pNil, pCons, pStar, pLst, pTup, pLc, pItL, pItT, pItS, pRng1, pRng2, pAsg, pAsgF, pDrop, pApp, pExt, pFor, pAug, pPar, pFreeze, pgN, pgTup, pgLst, pgCons, pgNil, pMS, pJoined, pJs, paNil, paVal, paSrc, pCall0, pCall, pSortSg, elP, gI, gI0, gNeg, gAddS, gSS, gSg, gCat, gCatT, gIsN, isNo, gIxL, gIxT, gIxS, gSlL, gSlT, gSlS, gLen, gLenS, gInt, gStrI, gStrS, gAll, gAny, gList, gTuple, gIsi, gJoin, gFind, gSplit, gPart, gFmt, gSortS, gSortLP, gSortSet, gRev, gRepT, gRepS, itemsD, isS, wipeP, List.map_cons, List.map_nil, List.set_cons_zero, List.set_cons_succ, List.getElem?_cons_zero, List.getElem?_cons_succ, List.cons_append, List.nil_append, List.replicate_succ, List.replicate_zero, Bool.false_eq_true, Bool.not_true, Bool.not_false, if_true, if_false, Option.some.injEq, exists_eq_left', true_and, and_true, exists_and_left, exists_eq_left, V.str.injEq, V.int.injEq, isiD, tyD, isiT, tysOk, beq_self_eq_true, Bool.true_or, Bool.or_true, List.mem_cons, true_or, or_true, Option.isSome_some, id_eq, gEq, flD, scal, gLtT, pGet1, pGet2, pDPut, gDGet, gDIn, gSortD, gDictD, gListD, gDictP, isDic, dKey, pMakeQ, pMake0, pCallN, pickL, List.filterMap_cons, List.filterMap_nil, pLc2, pItQ, pWhile]
    exact pairs_go (hm m hmm) hk
  refine ⟨ms.map prS, by rw [List.map_map]; rfl, ?_⟩
  show loopP _ _ _ ((srtK ltQ (ms.map prS)).map lpD) _ n
  have pw := srtK_pw tot_Q (ms.map prS)
  have mem : ∀ z, z ∈ srtK ltQ (ms.map prS) → plD (lpD z) = true ∧ dpD (lpD z) ≤ 2 := fun z hz => by
    obtain ⟨m, hmm, rfl⟩ := List.mem_map.mp ((srtK_perm _ _).mem_iff.mp hz)
    exact pl_pairs (hm m hmm)
  have sl : (srtK ltQ (ms.map prS)).length ≤ 70 := by rw [(srtK_perm _ _).length_eq, List.length_map]; exact hl
  generalize es : srtK ltQ (ms.map prS) = S at pw mem sl
  refine loopP_list (v := lpD) (fun done ρ n' => n' = n ∧ ∃ acc y2 y3, ρ = [.val (.lst (ms.map dicS)), .own (.lst (acc.map lpD)), y2, y3] ∧ acc.length ≤ done.length ∧ AdjOk ltQ done acc) ⟨rfl, [], _, _, rfl, Nat.le_refl _, ⟨fun _ => Iff.rfl, List.nodup_nil, .nil, rfl⟩⟩ ?_ ?_
  · rintro a done rest ρ n' k e ⟨rfl, acc, y2, y3, rfl, al, ok⟩ hk
    have pwd : (done ++ [a]).Pairwise (fun a b => (!ltQ b a) = true) := by
      have e1 : S = (done ++ [a]) ++ rest := by rw [e]; simp
      rw [e1] at pw
      exact (List.pairwise_append.mp pw).1
    have ok' := ok.step tot_Q pwd
    have ma : ∀ z ∈ acc, plD (lpD z) = true ∧ dpD (lpD z) ≤ 2 := fun z hz => mem z (by rw [e]; exact List.mem_append_left _ ((ok.mem z).mp hz))
    have me := mem a (by rw [e]; simp)
    obtain ⟨pa, da⟩ := pls_of (l := acc.map lpD) fun z hz => by
      obtain ⟨y, hy, rfl⟩ := List.mem_map.mp hz
      exact ma y hy
    have dl : done.length < 70 := by
      have := congrArg List.length e
      rw [List.length_append, List.length_cons] at this
      omega
    have al' : (adjK acc a).length ≤ (done ++ [a]).length := by
      unfold adjK
      split
      · simp; omega
      · simp; omega
    have yes : adjK acc a = acc ++ [a] → k [PV.val (D.lst (ms.map dicS)), PV.own (D.lst (acc.map lpD ++ [lpD a])), PV.val (lpD a), y3] n' := fun ea => hk _ _ ⟨rfl, adjK acc a, _, _, by rw [ea, List.map_append]; rfl, al', ok'⟩
    simp only [pSeq, pIfS, pOr, pAnd, pNot, pTst, pYes, pUn, pVar, pVarB, pC, pRet, pRetN, pRetB, pNext, pChain, pOp, pAndV, pOrV, pNotV, pIf, pSl, pPart, pNoPart, pNil, pCons, pStar, pLst, pTup, pLc, pItL, pItT, pItS, pRng1, pRng2, pAsg, pAsgF, pDrop, pApp, pExt, pFor, pAug, pPar, pFreeze, pgN, pgTup, pgLst, pgCons, pgNil, pMS, pJoined, pJs, paNil, paVal, paSrc, pCall0, pCall, pSortSg, elP, gI, gI0, gNeg, gAddS, gSS, gSg, gCat, gCatT, gIsN, isNo, gIxL, gIxT, gIxS, gSlL, gSlT, gSlS, gLen, gLenS, gInt, gStrI, gStrS, gAll, gAny, gList, gTuple, gIsi, gJoin, gFind, gSplit, gPart, gFmt, gSortS, gSortLP, gSortSet, gRev, gRepT, gRepS, itemsD, isS, wipeP, List.map_cons, List.map_nil, List.set_cons_zero, List.set_cons_succ, List.getElem?_cons_zero, List.getElem?_cons_succ, List.cons_append, List.nil_append, List.replicate_succ, List.replicate_zero, Bool.false_eq_true, Bool.not_true, Bool.not_false, if_true, if_false, Option.some.injEq, exists_eq_left', true_and, and_true, exists_and_left, exists_eq_left, V.str.injEq, V.int.injEq, isiD, tyD, isiT, tysOk, beq_self_eq_true, Bool.true_or, Bool.or_true, List.mem_cons, true_or, or_true, Option.isSome_some, id_eq, gEq, flD, scal, gLtT, pGet1, pGet2, pDPut, gDGet, gDIn, gSortD, gDictD, gListD, gDictP, isDic, dKey, pMakeQ, pMake0, pCallN, pickL, List.filterMap_cons, List.filterMap_nil, pLc2, pItQ, pWhile]
    refine ⟨by simp, nil_eq pa (by omega) ?_⟩
    dsimp only [id]
    rcases List.eq_nil_or_concat acc with rfl | ⟨r, z, e0⟩
    · exact if_yes rfl ⟨by simp, yes rfl⟩
    · rw [List.concat_eq_append] at e0
      subst e0
      refine if_no (by simp) ?_
      have rl : (r ++ [z]).length ≤ 70 := by omega
      have mz := ma z (by simp)
      refine ⟨lpD z, by rw [List.map_append]; exact at_last, gEqD_of mz.1 me.1 (by omega) (by omega) ?_⟩
      dsimp only
      have lg : (r ++ [z]).getLast? = some z := by simp
      by_cases c : z = a
      · subst c
        rw [decide_eq_true rfl]
        refine if_no rfl (hk _ _ ⟨rfl, adjK (r ++ [z]) z, .val (lpD z), y3, ?_, al', ok'⟩)
        have : adjK (r ++ [z]) z = r ++ [z] := by
          unfold adjK
          rw [if_neg]
          rintro (h | h)
          · simp at h
          · exact h lg
        rw [this]
      · have c' : lpD z ≠ lpD a := fun h => c (lpD_inj h)
        rw [decide_eq_false c']
        refine if_yes rfl ⟨by rw [List.length_map]; omega, yes ?_⟩
        unfold adjK
        rw [if_pos (.inr (by rw [lg]; exact fun h => c (Option.some.inj h)))]
  · rintro ρ n' ⟨rfl, acc, y2, y3, rfl, al, ok⟩
    simp only [pSeq, pIfS, pOr, pAnd, pNot, pTst, pYes, pUn, pVar, pVarB, pC, pRet, pRetN, pRetB, pNext, pChain, pOp, pAndV, pOrV, pNotV, pIf, pSl, pPart, pNoPart, pNil, pCons, pStar, pLst, pTup, pLc, pItL, pItT, pItS, pRng1, pRng2, pAsg, pAsgF, pDrop, pApp, pExt, pFor, pAug, pPar, pFreeze, pgN, pgTup, pgLst, pgCons, pgNil, pMS, pJoined, pJs, paNil, paVal, paSrc, pCall0, pCall, pSortSg, elP, gI, gI0, gNeg, gAddS, gSS, gSg, gCat, gCatT, gIsN, isNo, gIxL, gIxT, gIxS, gSlL, gSlT, gSlS, gLen, gLenS, gInt, gStrI, gStrS, gAll, gAny, gList, gTuple, gIsi, gJoin, gFind, gSplit, gPart, gFmt, gSortS, gSortLP, gSortSet, gRev, gRepT, gRepS, itemsD, isS, wipeP, List.map_cons, List.map_nil, List.set_cons_zero, List.set_cons_succ, List.getElem?_cons_zero, List.getElem?_cons_succ, List.cons_append, List.nil_append, List.replicate_succ, List.replicate_zero, Bool.false_eq_true, Bool.not_true, Bool.not_false, if_true, if_false, Option.some.injEq, exists_eq_left', true_and, and_true, exists_and_left, exists_eq_left, V.str.injEq, V.int.injEq, isiD, tyD, isiT, tysOk, beq_self_eq_true, Bool.true_or, Bool.or_true, List.mem_cons, true_or, or_true, Option.isSome_some, id_eq, gEq, flD, scal, gLtT, pGet1, pGet2, pDPut, gDGet, gDIn, gSortD, gDictD, gListD, gDictP, isDic, dKey, pMakeQ, pMake0, pCallN, pickL, List.filterMap_cons, List.filterMap_nil, pLc2, pItQ, pWhile]
    refine ⟨by rw [List.length_map]; omega, ?_⟩
    rw [← es] at ok
    have ea := adj_inOrd ok
    refine colP_map (g := fun z => dicS (mpQ z)) (fun z hz k hk => ?_) ?_
    · obtain ⟨m, hmm, rfl⟩ := List.mem_map.mp ((srtK_perm _ _).mem_iff.mp ((ok.mem z).mp hz))
      simp only [pSeq, pIfS, pOr, pAnd, pNot, pTst, pYes, pUn, pVar, pVarB, pC, pRet, pRetN, pRetB, pNext, pChain, pOp, pAndV, pOrV, pNotV, pIf, pSl, pPart, pNoPart, pNil, pCons, pStar, pLst, pTup, pLc, pItL, pItT, pItS, pRng1, pRng2, pAsg, pAsgF, pDrop, pApp, pExt, pFor, pAug, pPar, pFreeze, pgN, pgTup, pgLst, pgCons, pgNil, pMS, pJoined, pJs, paNil, paVal, paSrc, pCall0, pCall, pSortSg, elP, gI, gI0, gNeg, gAddS, gSS, gSg, gCat, gCatT, gIsN, isNo, gIxL, gIxT, gIxS, gSlL, gSlT, gSlS, gLen, gLenS, gInt, gStrI, gStrS, gAll, gAny, gList, gTuple, gIsi, gJoin, gFind, gSplit, gPart, gFmt, gSortS, gSortLP, gSortSet, gRev, gRepT, gRepS, itemsD, isS, wipeP, List.map_cons, List.map_nil, List.set_cons_zero, List.set_cons_succ, List.getElem?_cons_zero, List.getElem?_cons_succ, List.cons_append, List.nil_append, List.replicate_succ, List.replicate_zero, Bool.false_eq_true, Bool.not_true, Bool.not_false, if_true, if_false, Option.some.injEq, exists_eq_left', true_and, and_true, exists_and_left, exists_eq_left, V.str.injEq, V.int.injEq, isiD, tyD, isiT, tysOk, beq_self_eq_true, Bool.true_or, Bool.or_true, List.mem_cons, true_or, or_true, Option.isSome_some, id_eq, gEq, flD, scal, gLtT, pGet1, pGet2, pDPut, gDGet, gDIn, gSortD, gDictD, gListD, gDictP, isDic, dKey, pMakeQ, pMake0, pCallN, pickL, List.filterMap_cons, List.filterMap_nil, pLc2, pItQ, pWhile]
      have h1 : mpQ (prS m) = ordS m := mpQ_prS m
      rw [h1] at hk
      exact dictP_go (q := fun y n2 => k (some y) n2) (x := noX) (hm m hmm).ord.nd hk
    · have e2 : acc.map (fun z => dicS (mpQ z)) = (inOrd ms).map dicS := by rw [← ea, List.map_map]; rfl
      rw [e2]
      exact hq
end
section
variable {P : Program} {w : World} {K : PySem.W.Frag} {mg : Str → Option Value} {base : Heap}
theorem ok__law_map (T : TA K mg)  {f : Addr} {fd : FuncData} (F : Fun K "_law_map" "_law_map" s__law_map f fd) : FnOk P w K mg base CX0 2 f fd ["_law_source_here", "_law_pool_here", "_law_share"] (lift K psMapL) := by
  have m_range := T.m_range
  have m_dict := T.m_dict
  obtain ⟨f__law_pairs, d__law_pairs, D_law_pairs⟩ := T.D__law_pairs
  have G_law_pairs : FnOk P w K mg base CX0 1 f__law_pairs d__law_pairs _ (lift K psPairs) := ok__law_pairs T D_law_pairs.F
  obtain ⟨f__law_draw, d__law_draw, D_law_draw⟩ := T.D__law_draw
  have G_law_draw : FnOk P w K mg base CX0 1 f__law_draw d__law_draw _ (lift K psDraw) := ok__law_draw T D_law_draw.F
  refine F.ok sc__law_map (lift_len (k := 3) S2_len) (fun cdv A outer s H vs Q E hr h => ?_)
  have hl : vs.length = 3 := lift_len (k := 3) S2_len vs H Q E h
  refine ⟨_, (pss_cons (ps_set (i := 3) sc__law_map.nd rfl (Or.inl rfl) pe_dnewK)
      (pss_cons (ps_for PassesOwn.never rfl (pi_range1 rfl m_range (pa_cons pe_int pa_nil)) (pg_name (i := 4) sc__law_map.nd rfl (Or.inl rfl)) (pss_cons (ps_set (i := 5) sc__law_map.nd rfl (Or.inl rfl) (pe_ix (ix_listK (K := K) rfl) (pe_ix (ix_listK (K := K) rfl) (pv 1) pe_int (fun _ _ => rfl)) (pe_call G_law_draw (hr.mono (by decide)) (by rfl) D_law_draw.g D_law_draw.F.kp D_law_draw.b .nil pass0 (pa_cons (pv 0) (pa_cons pe_int pa_nil))) (fun _ _ => rfl)))
      (pss_one (ps_if (pt_cmpR op_lt (pe_call G_law_draw (hr.mono (by decide)) (by rfl) D_law_draw.g D_law_draw.F.kp D_law_draw.b .nil pass0 (pa_cons (pv 0) (pa_cons pe_int pa_nil))) (pv 2) (nomark _)) (pss_one (ps_dput (Nat.lt_of_le_of_lt (Nat.add_le_add_left (by decide) _) hr.units) (pv 3) (pv 5) (pe_ix (ix_listK (K := K) rfl) (pe_ix (ix_listK (K := K) rfl) (pv 1) pe_int (fun _ _ => rfl)) (pe_call G_law_draw (hr.mono (by decide)) (by rfl) D_law_draw.g D_law_draw.F.kp D_law_draw.b .nil pass0 (pa_cons (pv 0) (pa_cons pe_int pa_nil))) (fun _ _ => rfl)) (by rfl))) pss_nil))))
      (pss_one (ps_ret (pe_callTy (call_dictPK (K := K) rfl rfl) (by rfl) m_dict (by decide +kernel) (pa_cons (pe_call G_law_pairs (hr.mono (by decide)) (by rfl) D_law_pairs.g D_law_pairs.F.kp D_law_pairs.b .nil pass0 (pa_cons (pv 3) pa_nil)) pa_nil)))))), ?_⟩
  refine fn_sim h (W := fun cls dd _ H => E cls dd H) (m := 3) ((ss_seq (ss_asgF (i := 3) sf_dnew)
      (ss_seq (ss_for (sj_rng1 (sl_cons se_int sl_nil)) (sg_name 4) (ss_seq (ss_asg (se_op sr_ixL (SimE.b (se_op sr_ixL (SimE.b (se_var 1)) (SimE.b se_int))) (SimE.b (se_call0 (sa_src 0 (sa_val se_int sa_nil))))) (sg_name 5))
      (ss_if (st_of' (se_op sr_B0 (SimE.b (se_call0 (sa_src 0 (sa_val se_int sa_nil)))) (SimE.b (se_var 2)))) (ss_dput (se_op sr_ixL (SimE.b (se_op sr_ixL (SimE.b (se_var 1)) (SimE.b se_int))) (SimE.b (se_call0 (sa_src 0 (sa_val se_int sa_nil))))) (SimE.b (se_var 5))) ss_next)))
      (ss_freeze 3 (ss_ret (SimF.e (sf_cb scf_dictP (SimE.b (se_call0 (sa_val (se_var 3) sa_nil)))))))))) (fun _ _ _ _ z => z) (by rw [hl]; rfl) fun args n q x hp _ => ?_
  obtain ⟨a0, a1, rfl, hp⟩ := S2_of hp
  obtain ⟨rs, cs, xs, sh, rfl, rfl, po, hn, hq⟩ := hp
  simp only [pSeq, pIfS, pOr, pAnd, pNot, pTst, pYes, pUn, pVar, pVarB, pC, pRet, pRetN, pRetB, pNext, pChain, pOp, pAndV, pOrV, pNotV, pIf, pSl, pPart, pNoPart, pNil, pCons, pStar, pLst, pTup, pLc, pItL, pItT, pItS, pRng1, pRng2, pAsg, pAsgF, pDrop, pApp, pExt, pFor, pAug, pPar, pFreeze, pgN, pgTup, pgLst, pgCons, pgNil, pMS, pJoined, pJs, paNil, paVal, paSrc, pCall0, pCall, pSortSg, elP, gI, gI0, gNeg, gAddS, gSS, gSg, gCat, gCatT, gIsN, isNo, gIxL, gIxT, gIxS, gSlL, gSlT, gSlS, gLen, gLenS, gInt, gStrI, gStrS, gAll, gAny, gList, gTuple, gIsi, gJoin, gFind, gSplit, gPart, gFmt, gSortS, gSortLP, gSortSet, gRev, gRepT, gRepS, itemsD, isS, wipeP, List.map_cons, List.map_nil, List.set_cons_zero, List.set_cons_succ, List.getElem?_cons_zero, List.getElem?_cons_succ, List.cons_append, List.nil_append, List.replicate_succ, List.replicate_zero, Bool.false_eq_true, Bool.not_true, Bool.not_false, if_true, if_false, Option.some.injEq, exists_eq_left', true_and, and_true, exists_and_left, exists_eq_left, V.str.injEq, V.int.injEq, isiD, tyD, isiT, tysOk, beq_self_eq_true, Bool.true_or, Bool.or_true, List.mem_cons, true_or, or_true, Option.isSome_some, id_eq, gEq, flD, scal, gLtT, pGet1, pGet2, pDPut, gDGet, gDIn, gSortD, gDictD, gListD, gDictP, isDic, dKey, pMakeQ, pMake0, pCallN, pickL, List.filterMap_cons, List.filterMap_nil, pLc2, pItQ, pWhile]
  refine ⟨by decide, by decide, ?_⟩
  refine loopP_inv (fun i ρ n' => n' ≤ n + 3 * i ∧ ∃ m y4 y5, ρ = [.src, .val (poolD rs cs xs), .val (.int sh), .own (dicS m), y4, y5] ∧ MapL m i) ⟨by omega, [], _, _, rfl, ⟨List.nodup_nil, Nat.zero_le _, fun _ z => by cases z⟩⟩ ?_ ?_
  · rintro i d ρ n' k hd ⟨hn', m, y4, y5, rfl, hm⟩ hk
    obtain ⟨hi, rfl⟩ := rng_at hd
    have hi : i < 5 := by simpa using hi
    have ep : poolD rs cs xs = .lst [.lst (rs.map rowD), .lst (cs.map .str), .lst (xs.map .str)] := rfl
    simp only [ep, pSeq, pIfS, pOr, pAnd, pNot, pTst, pYes, pUn, pVar, pVarB, pC, pRet, pRetN, pRetB, pNext, pChain, pOp, pAndV, pOrV, pNotV, pIf, pSl, pPart, pNoPart, pNil, pCons, pStar, pLst, pTup, pLc, pItL, pItT, pItS, pRng1, pRng2, pAsg, pAsgF, pDrop, pApp, pExt, pFor, pAug, pPar, pFreeze, pgN, pgTup, pgLst, pgCons, pgNil, pMS, pJoined, pJs, paNil, paVal, paSrc, pCall0, pCall, pSortSg, elP, gI, gI0, gNeg, gAddS, gSS, gSg, gCat, gCatT, gIsN, isNo, gIxL, gIxT, gIxS, gSlL, gSlT, gSlS, gLen, gLenS, gInt, gStrI, gStrS, gAll, gAny, gList, gTuple, gIsi, gJoin, gFind, gSplit, gPart, gFmt, gSortS, gSortLP, gSortSet, gRev, gRepT, gRepS, itemsD, isS, wipeP, List.map_cons, List.map_nil, List.set_cons_zero, List.set_cons_succ, List.getElem?_cons_zero, List.getElem?_cons_succ, List.cons_append, List.nil_append, List.replicate_succ, List.replicate_zero, Bool.false_eq_true, Bool.not_true, Bool.not_false, if_true, if_false, Option.some.injEq, exists_eq_left', true_and, and_true, exists_and_left, exists_eq_left, V.str.injEq, V.int.injEq, isiD, tyD, isiT, tysOk, beq_self_eq_true, Bool.true_or, Bool.or_true, List.mem_cons, true_or, or_true, Option.isSome_some, id_eq, gEq, flD, scal, gLtT, pGet1, pGet2, pDPut, gDGet, gDIn, gSortD, gDictD, gListD, gDictP, isDic, dKey, pMakeQ, pMake0, pCallN, pickL, List.filterMap_cons, List.filterMap_nil, pLc2, pItQ, pWhile]
    have vl := po.vl
    have cl := po.cl
    refine ⟨_, rfl, draw_go (by omega) (by decide) (by decide) fun a ha => ?_⟩
    dsimp only
    have ha : a < xs.length := by omega
    refine ⟨_, at_map (f := D.str) ha, draw_go (by omega) (by decide) (by decide) fun b hb => ?_⟩
    dsimp only
    have sx : SOk xs[a] := term_sok (.inr (po.xn _ (List.getElem_mem _)))
    split
    · refine ⟨_, rfl, draw_go (by omega) (by decide) (by decide) fun c hc => ?_⟩
      dsimp only
      have hc : c < cs.length := by omega
      have sc : SOk cs[c] := term_sok (.inl (po.cn _ (List.getElem_mem _)))
      have ml := hm.len
      refine ⟨_, at_map (f := D.str) hc, _, rfl, by rw [List.length_map]; omega, hk _ _ ⟨by omega, putS m xs[a] cs[c], .val (.int (0 + (i : Int))), .val (.str xs[a]), ?_, hm.put sx sc⟩⟩
      rw [put_dicS]
      rfl
    · exact hk _ _ ⟨by omega, m, _, _, rfl, hm.nd, by have := hm.len; omega, hm.sok⟩
  · rintro ρ n' ⟨hn', m, y4, y5, rfl, hm⟩
    have e5 : (rngD 0 (Int.toNat 5)).length = 5 := rfl
    rw [e5] at hm hn'
    simp only [pSeq, pIfS, pOr, pAnd, pNot, pTst, pYes, pUn, pVar, pVarB, pC, pRet, pRetN, pRetB, pNext, pChain, pOp, pAndV, pOrV, pNotV, pIf, pSl, pPart, pNoPart, pNil, pCons, pStar, pLst, pTup, pLc, pItL, pItT, pItS, pRng1, pRng2, pAsg, pAsgF, pDrop, pApp, pExt, pFor, pAug, pPar, pFreeze, pgN, pgTup, pgLst, pgCons, pgNil, pMS, pJoined, pJs, paNil, paVal, paSrc, pCall0, pCall, pSortSg, elP, gI, gI0, gNeg, gAddS, gSS, gSg, gCat, gCatT, gIsN, isNo, gIxL, gIxT, gIxS, gSlL, gSlT, gSlS, gLen, gLenS, gInt, gStrI, gStrS, gAll, gAny, gList, gTuple, gIsi, gJoin, gFind, gSplit, gPart, gFmt, gSortS, gSortLP, gSortSet, gRev, gRepT, gRepS, itemsD, isS, wipeP, List.map_cons, List.map_nil, List.set_cons_zero, List.set_cons_succ, List.getElem?_cons_zero, List.getElem?_cons_succ, List.cons_append, List.nil_append, List.replicate_succ, List.replicate_zero, Bool.false_eq_true, Bool.not_true, Bool.not_false, if_true, if_false, Option.some.injEq, exists_eq_left', true_and, and_true, exists_and_left, exists_eq_left, V.str.injEq, V.int.injEq, isiD, tyD, isiT, tysOk, beq_self_eq_true, Bool.true_or, Bool.or_true, List.mem_cons, true_or, or_true, Option.isSome_some, id_eq, gEq, flD, scal, gLtT, pGet1, pGet2, pDPut, gDGet, gDIn, gSortD, gDictD, gListD, gDictP, isDic, dKey, pMakeQ, pMake0, pCallN, pickL, List.filterMap_cons, List.filterMap_nil, pLc2, pItQ, pWhile]
    have ok := hm.ok (by decide)
    exact pairs_go ok (dictP_go (x := x) ok.ord.nd (hq _ _ hm.ord (by omega)))
end
section
variable {P : Program} {w : World} {K : PySem.W.Frag} {mg : Str → Option Value} {base : Heap}
theorem ok__law_joined (T : TA K mg)  {f : Addr} {fd : FuncData} (F : Fun K "_law_joined" "_law_joined" s__law_joined f fd) : FnOk P w K mg base CX0 2 f fd ["_law_one", "_law_other"] (lift K psJoined) := by
  have m_dict := T.m_dict
  have m_list := T.m_list
  obtain ⟨f__law_pairs, d__law_pairs, D_law_pairs⟩ := T.D__law_pairs
  have G_law_pairs : FnOk P w K mg base CX0 1 f__law_pairs d__law_pairs _ (lift K psPairs) := ok__law_pairs T D_law_pairs.F
  refine F.ok sc__law_joined (lift_len (k := 2) A2_len) (fun cdv A outer s H vs Q E hr h => ?_)
  have hl : vs.length = 2 := lift_len (k := 2) A2_len vs H Q E h
  refine ⟨_, (pss_cons (ps_set (i := 2) sc__law_joined.nd rfl (Or.inl rfl) (pe_callTy call_dictD (by rfl) m_dict (by decide +kernel) (pa_cons (pv 0) pa_nil)))
      (pss_cons (ps_for PassesOwn.never rfl (pi_listK (K := K) rfl (pe_callTy (call_listD rfl) (by rfl) m_list (by decide +kernel) (pa_cons (pv 1) pa_nil))) (pg_name (i := 3) sc__law_joined.nd rfl (Or.inl rfl)) (pss_one (ps_dput (Nat.lt_of_le_of_lt (Nat.add_le_add_left (by decide) _) hr.units) (pv 2) (pv 3) (pe_dget (Nat.lt_of_le_of_lt (Nat.add_le_add_left (by decide) _) hr.units) (pv 1) (pv 3) (fun _ _ => rfl)) (by rfl))))
      (pss_one (ps_ret (pe_callTy (call_dictPK (K := K) rfl rfl) (by rfl) m_dict (by decide +kernel) (pa_cons (pe_call G_law_pairs (hr.mono (by decide)) (by rfl) D_law_pairs.g D_law_pairs.F.kp D_law_pairs.b .nil pass0 (pa_cons (pv 2) pa_nil)) pa_nil)))))), ?_⟩
  refine fn_sim h (W := fun cls dd _ H => E cls dd H) (m := 2) ((ss_seq (ss_asgF (i := 2) (sf_cb scf_dictD (SimE.b (se_var 0))))
      (ss_seq (ss_for (sj_list (SimF.e (sf_cb scf_listD (SimE.b (se_var 1))))) (sg_name 3) (ss_dput (se_dget (SimE.b (se_var 1)) (SimE.b (se_var 3))) (SimE.b (se_var 3))))
      (ss_freeze 2 (ss_ret (SimF.e (sf_cb scf_dictP (SimE.b (se_call0 (sa_val (se_var 2) sa_nil)))))))))) (fun _ _ _ _ z => z) (by rw [hl]; rfl) fun args n q x hp _ => ?_
  obtain ⟨a0, a1, rfl, hp⟩ := A2_of hp
  obtain ⟨m1, m2, rfl, rfl, h1, h2, hq⟩ := hp
  simp only [dicS, pSeq, pIfS, pOr, pAnd, pNot, pTst, pYes, pUn, pVar, pVarB, pC, pRet, pRetN, pRetB, pNext, pChain, pOp, pAndV, pOrV, pNotV, pIf, pSl, pPart, pNoPart, pNil, pCons, pStar, pLst, pTup, pLc, pItL, pItT, pItS, pRng1, pRng2, pAsg, pAsgF, pDrop, pApp, pExt, pFor, pAug, pPar, pFreeze, pgN, pgTup, pgLst, pgCons, pgNil, pMS, pJoined, pJs, paNil, paVal, paSrc, pCall0, pCall, pSortSg, elP, gI, gI0, gNeg, gAddS, gSS, gSg, gCat, gCatT, gIsN, isNo, gIxL, gIxT, gIxS, gSlL, gSlT, gSlS, gLen, gLenS, gInt, gStrI, gStrS, gAll, gAny, gList, gTuple, gIsi, gJoin, gFind, gSplit, gPart, gFmt, gSortS, gSortLP, gSortSet, gRev, gRepT, gRepS, itemsD, isS, wipeP, List.map_cons, List.map_nil, List.set_cons_zero, List.set_cons_succ, List.getElem?_cons_zero, List.getElem?_cons_succ, List.cons_append, List.nil_append, List.replicate_succ, List.replicate_zero, Bool.false_eq_true, Bool.not_true, Bool.not_false, if_true, if_false, Option.some.injEq, exists_eq_left', true_and, and_true, exists_and_left, exists_eq_left, V.str.injEq, V.int.injEq, isiD, tyD, isiT, tysOk, beq_self_eq_true, Bool.true_or, Bool.or_true, List.mem_cons, true_or, or_true, Option.isSome_some, id_eq, gEq, flD, scal, gLtT, pGet1, pGet2, pDPut, gDGet, gDIn, gSortD, gDictD, gListD, gDictP, isDic, dKey, pMakeQ, pMake0, pCallN, pickL, List.filterMap_cons, List.filterMap_nil, pLc2, pItQ, pWhile]
  rw [keys_dicS]
  have l2 := h2.len
  refine loopP_list (v := D.str) (fun done ρ n' => n' = n ∧ ∃ y3, ρ = [.val (dicS m1), .val (dicS m2), .own (dicS (mergS m1 (done.map fun k => (k, fillT m2 k)))), y3]) ⟨rfl, _, rfl⟩ ?_ ?_
  · rintro z done rest ρ n' k e ⟨rfl, y3, rfl⟩ hk
    have hz : z ∈ m2.map Prod.fst := by rw [e]; simp
    have hv : valD (m2.map dicE) (.inr z) = some (.str (fillT m2 z)) := by rw [val_dicS, get_some hz]; rfl
    have hd : done.length ≤ 20 := by
      have := congrArg List.length e
      rw [List.length_map, List.length_append] at this
      omega
    have hs : ∀ p ∈ done.map (fun k => (k, fillT m2 k)), SOk p.1 ∧ SOk p.2 := fun p hp => by
      obtain ⟨y, hy, rfl⟩ := List.mem_map.mp hp
      exact h2.sok _ (get_mem (get_some (by rw [e]; exact List.mem_append_left _ hy)))
    have hml := (h1.merg hs).len
    rw [List.length_map] at hml
    simp only [dicS, pSeq, pIfS, pOr, pAnd, pNot, pTst, pYes, pUn, pVar, pVarB, pC, pRet, pRetN, pRetB, pNext, pChain, pOp, pAndV, pOrV, pNotV, pIf, pSl, pPart, pNoPart, pNil, pCons, pStar, pLst, pTup, pLc, pItL, pItT, pItS, pRng1, pRng2, pAsg, pAsgF, pDrop, pApp, pExt, pFor, pAug, pPar, pFreeze, pgN, pgTup, pgLst, pgCons, pgNil, pMS, pJoined, pJs, paNil, paVal, paSrc, pCall0, pCall, pSortSg, elP, gI, gI0, gNeg, gAddS, gSS, gSg, gCat, gCatT, gIsN, isNo, gIxL, gIxT, gIxS, gSlL, gSlT, gSlS, gLen, gLenS, gInt, gStrI, gStrS, gAll, gAny, gList, gTuple, gIsi, gJoin, gFind, gSplit, gPart, gFmt, gSortS, gSortLP, gSortSet, gRev, gRepT, gRepS, itemsD, isS, wipeP, List.map_cons, List.map_nil, List.set_cons_zero, List.set_cons_succ, List.getElem?_cons_zero, List.getElem?_cons_succ, List.cons_append, List.nil_append, List.replicate_succ, List.replicate_zero, Bool.false_eq_true, Bool.not_true, Bool.not_false, if_true, if_false, Option.some.injEq, exists_eq_left', true_and, and_true, exists_and_left, exists_eq_left, V.str.injEq, V.int.injEq, isiD, tyD, isiT, tysOk, beq_self_eq_true, Bool.true_or, Bool.or_true, List.mem_cons, true_or, or_true, Option.isSome_some, id_eq, gEq, flD, scal, gLtT, pGet1, pGet2, pDPut, gDGet, gDIn, gSortD, gDictD, gListD, gDictP, isDic, dKey, pMakeQ, pMake0, pCallN, pickL, List.filterMap_cons, List.filterMap_nil, pLc2, pItQ, pWhile]
    refine ⟨_, hv, by rw [List.length_map]; omega, hk _ _ ⟨rfl, .val (.str z), ?_⟩⟩
    rw [put_dicS, List.map_append, List.map_cons, List.map_nil, merg_snoc]
    rfl
  · rintro ρ n' ⟨rfl, y3, rfl⟩
    rw [self_map h2.nd]
    simp only [pSeq, pIfS, pOr, pAnd, pNot, pTst, pYes, pUn, pVar, pVarB, pC, pRet, pRetN, pRetB, pNext, pChain, pOp, pAndV, pOrV, pNotV, pIf, pSl, pPart, pNoPart, pNil, pCons, pStar, pLst, pTup, pLc, pItL, pItT, pItS, pRng1, pRng2, pAsg, pAsgF, pDrop, pApp, pExt, pFor, pAug, pPar, pFreeze, pgN, pgTup, pgLst, pgCons, pgNil, pMS, pJoined, pJs, paNil, paVal, paSrc, pCall0, pCall, pSortSg, elP, gI, gI0, gNeg, gAddS, gSS, gSg, gCat, gCatT, gIsN, isNo, gIxL, gIxT, gIxS, gSlL, gSlT, gSlS, gLen, gLenS, gInt, gStrI, gStrS, gAll, gAny, gList, gTuple, gIsi, gJoin, gFind, gSplit, gPart, gFmt, gSortS, gSortLP, gSortSet, gRev, gRepT, gRepS, itemsD, isS, wipeP, List.map_cons, List.map_nil, List.set_cons_zero, List.set_cons_succ, List.getElem?_cons_zero, List.getElem?_cons_succ, List.cons_append, List.nil_append, List.replicate_succ, List.replicate_zero, Bool.false_eq_true, Bool.not_true, Bool.not_false, if_true, if_false, Option.some.injEq, exists_eq_left', true_and, and_true, exists_and_left, exists_eq_left, V.str.injEq, V.int.injEq, isiD, tyD, isiT, tysOk, beq_self_eq_true, Bool.true_or, Bool.or_true, List.mem_cons, true_or, or_true, Option.isSome_some, id_eq, gEq, flD, scal, gLtT, pGet1, pGet2, pDPut, gDGet, gDIn, gSortD, gDictD, gListD, gDictP, isDic, dKey, pMakeQ, pMake0, pCallN, pickL, List.filterMap_cons, List.filterMap_nil, pLc2, pItQ, pWhile]
    have ok := (h1.merg h2.sok).ok (by omega)
    exact pairs_go ok (dictP_go (x := x) ok.ord.nd hq)
end
end G39

namespace G39
open PySem PySem.Spec PyProof.Rows L2 Evl
section
variable {P : Program} {w : World} {K : PySem.W.Frag} {mg : Str → Option Value} {base : Heap}
theorem fil_all {α β : Type} (b : α → Bool) (f : α → β) (l : List α) : ((l.filter fun k => !b k).map f).isEmpty = l.all b := by
  induction l with
  | nil => rfl
  | cons a l ih =>
    rw [List.filter_cons]
    cases e : b a with
    | true => simpa [e] using ih
    | false => simp [e]
theorem keys_sok {m : List (Str × Str)} (h : MapOk m) : ∀ z ∈ m.map Prod.fst, SOk z := fun z hz => by
  obtain ⟨p, hp, rfl⟩ := List.mem_map.mp hz
  exact (h.sok p hp).1
theorem nil_strs {f : Bool → Bool} {l : List Str} {n : Nat} {q : D → Nat → Prop} {x : PX} (h : ∀ z ∈ l, SOk z) (k : q (.bl (f (l.map D.str).isEmpty)) n) : gEqD f (.lst (l.map D.str)) (.lst []) n q x := by
  obtain ⟨p1, p2⟩ := pl_strs' h
  exact nil_eq p1 (by omega) k
theorem two_tail {m1 m2 : List (Str × Str)} {n : Nat} {q : D → Nat → Prop} {x : PX} {f : Bool → Bool} (o1 : MapOk m1) (o2 : MapOk m2) (k : q (.bl (f true)) n) : gEqD f (.lst [.lst ((prS m1).map tupD), .lst ((prS m2).map tupD)]) (.lst [.lst ((prS m1).map tupD), .lst ((prS m2).map tupD)]) n q x := by
  obtain ⟨h1, h2⟩ := pl_pairs o1
  obtain ⟨h3, h4⟩ := pl_pairs o2
  have hp : plD (.lst [.lst ((prS m1).map tupD), .lst ((prS m2).map tupD)]) = true := by
    show (plD _ && (plD _ && true)) = true
    rw [h1, h3]
    rfl
  have hd : dpD (.lst [.lst ((prS m1).map tupD), .lst ((prS m2).map tupD)]) ≤ 50 := by
    show max (dpD _) (max (dpD _) 0) + 1 ≤ 50
    omega
  refine gEqD_of hp hp hd hd ?_
  rw [decide_eq_true rfl]
  exact k
theorem strs_eq {f : Bool → Bool} {l : List Str} {n : Nat} {q : D → Nat → Prop} {x : PX} (h : ∀ z ∈ l, SOk z) (k : q (.bl (f true)) n) : gEqD f (.lst (l.map D.str)) (.lst (l.map D.str)) n q x := by
  obtain ⟨p1, p2⟩ := pl_strs' h
  have hp : plD (.lst (l.map D.str)) = true := by simpa [plD] using p1
  have hd : dpD (.lst (l.map D.str)) ≤ 50 := by simp only [dpD]; omega
  refine gEqD_of hp hp hd hd ?_
  rw [decide_eq_true rfl]
  exact k
theorem if_tail {c : Prop} [Decidable c] {A B : Prop} (hB : B) (h : B → A) : if c then A else B := by
  split
  · exact h hB
  · exact hB
theorem MapL.up {m : List (Str × Str)} {a b : Nat} (h : MapL m a) (hab : a ≤ b) : MapL m b := ⟨h.nd, Nat.le_trans h.len hab, h.sok⟩
theorem nilL {a : Nat} : MapL [] a := ⟨List.nodup_nil, Nat.zero_le _, fun _ z => by cases z⟩
theorem inOrd_one (m : List (Str × Str)) : inOrd [m] = [ordS m] := by
  unfold inOrd
  have h1 : onceP ([m].map prS) = [prS m] := by simp [onceP]
  have h2 : srtK ltQ [prS m] = [prS m] := List.perm_singleton.mp (srtK_perm ltQ [prS m])
  rw [h1, h2, List.map_cons, List.map_nil, mpQ_prS]
theorem none_sok : SOk (Str.ofString "?none") := sok_of (by decide +kernel)
theorem ok__law_two (T : TA K mg)  {f : Addr} {fd : FuncData} (F : Fun K "_law_two" "_law_two" s__law_two f fd) : FnOk P w K mg base CX0 12 f fd ["_law_source_here", "_law_one", "_law_other"] (lift K psTwo) := by
  have m_list := T.m_list
  have m_sorted := T.m_sorted
  obtain ⟨f__law_joined, d__law_joined, D_law_joined⟩ := T.D__law_joined
  have G_law_joined : FnOk P w K mg base CX0 2 f__law_joined d__law_joined _ (lift K psJoined) := ok__law_joined T D_law_joined.F
  obtain ⟨f_only_keys, d_only_keys, Donly_keys⟩ := T.D_only_keys
  have Gonly_keys : FnOk P w K mg base CX0 2 f_only_keys d_only_keys _ (lift K psOnly) := ok_only_keys T Donly_keys.F
  have GFonly_keys : FnOk P w K mg base CX0 2 f_only_keys d_only_keys _ (liftF K psOnly) := okF_only_keys T Donly_keys.F
  obtain ⟨f__law_pairs, d__law_pairs, D_law_pairs⟩ := T.D__law_pairs
  have G_law_pairs : FnOk P w K mg base CX0 1 f__law_pairs d__law_pairs _ (lift K psPairs) := ok__law_pairs T D_law_pairs.F
  obtain ⟨f_joined, d_joined, Djoined⟩ := T.D_joined
  have Gjoined : FnOk P w K mg base CX0 3 f_joined d_joined _ (lift K psJoined) := ok_joined T Djoined.F
  have GFjoined : FnOk P w K mg base CX0 3 f_joined d_joined _ (liftF K psJoined) := okF_joined T Djoined.F
  obtain ⟨f_agree, d_agree, Dagree⟩ := T.D_agree
  have Gagree : FnOk P w K mg base CX0 1 f_agree d_agree _ (lift K psAgree) := ok_agree T Dagree.F
  obtain ⟨f_is_above, d_is_above, Dis_above⟩ := T.D_is_above
  have Gis_above : FnOk P w K mg base CX0 1 f_is_above d_is_above _ (lift K psAbove) := ok_is_above T Dis_above.F
  obtain ⟨f_in_order, d_in_order, Din_order⟩ := T.D_in_order
  have Gin_order : FnOk P w K mg base CX0 2 f_in_order d_in_order _ (lift K psInOrder) := ok_in_order T Din_order.F
  have GFin_order : FnOk P w K mg base CX0 2 f_in_order d_in_order _ (liftFF K psInOrder) := okF_in_order T Din_order.F
  obtain ⟨f__law_draw, d__law_draw, D_law_draw⟩ := T.D__law_draw
  have G_law_draw : FnOk P w K mg base CX0 1 f__law_draw d__law_draw _ (lift K psDraw) := ok__law_draw T D_law_draw.F
  refine F.ok sc__law_two (lift_len (k := 3) S2_len) (fun cdv A outer s H vs Q E hr h => ?_)
  have hl : vs.length = 3 := lift_len (k := 3) S2_len vs H Q E h
  refine ⟨_, (pss_cons (ps_set (i := 3) sc__law_two.nd rfl (Or.inl rfl) (pe_lst (pa_cons (pe_call G_law_pairs (hr.mono (by decide)) (by rfl) D_law_pairs.g D_law_pairs.F.kp D_law_pairs.b .nil pass0 (pa_cons (pv 1) pa_nil)) (pa_cons (pe_call G_law_pairs (hr.mono (by decide)) (by rfl) D_law_pairs.g D_law_pairs.F.kp D_law_pairs.b .nil pass0 (pa_cons (pv 2) pa_nil)) pa_nil))))
      (pss_cons (ps_set (i := 4) sc__law_two.nd rfl (Or.inl rfl) (pe_cmpR (op_eqDK (K := K) rfl hr.units) (pe_lc (own := [("_law_variable", 9)]) (g := gName 9) rfl sc__law_two.nd (pi_listK (K := K) rfl (pe_callTy (call_listD rfl) (by rfl) m_list (by decide +kernel) (pa_cons (pv 1) pa_nil))) (blkOk_by (N := n__law_two) (sc := defScope s__law_two) (by decide +kernel)) (fun _ _ _ _ _ => pg_name (i := 9) sc__law_two.nd rfl (Or.inl rfl)) (fun _ _ _ _ _ => pts_one (pt_cmpR op_ne (pe_dget2 (Nat.lt_of_le_of_lt (Nat.add_le_add_left (by decide) _) hr.units) (pv 2) (pv 9) (pe_dget (Nat.lt_of_le_of_lt (Nat.add_le_add_left (by decide) _) hr.units) (pv 1) (pv 9) (fun _ _ => rfl)) ⟨rfl, rfl, rfl, rfl⟩) (pe_dget (Nat.lt_of_le_of_lt (Nat.add_le_add_left (by decide) _) hr.units) (pv 1) (pv 9) (fun _ _ => rfl)) (nomark _))) (fun _ _ _ _ _ => (pv 9))) (pe_lst pa_nil) (nomark _)))
      (pss_cons (ps_set (i := 5) sc__law_two.nd rfl (Or.inl rfl) (pe_cmpR (op_eqDK (K := K) rfl hr.units) (pe_lc (own := [("_law_variable", 9)]) (g := gName 9) rfl sc__law_two.nd (pi_listK (K := K) rfl (pe_callTy (call_listD rfl) (by rfl) m_list (by decide +kernel) (pa_cons (pv 2) pa_nil))) (blkOk_by (N := n__law_two) (sc := defScope s__law_two) (by decide +kernel)) (fun _ _ _ _ _ => pg_name (i := 9) sc__law_two.nd rfl (Or.inl rfl)) (fun _ _ _ _ _ => pts_one (pt_cmpR op_ne (pe_dget1 (Nat.lt_of_le_of_lt (Nat.add_le_add_left (by decide) _) hr.units) (pv 1) (pv 9) ⟨rfl, rfl, rfl, rfl⟩) (pe_dget (Nat.lt_of_le_of_lt (Nat.add_le_add_left (by decide) _) hr.units) (pv 2) (pv 9) (fun _ _ => rfl)) (nomark _))) (fun _ _ _ _ _ => (pv 9))) (pe_lst pa_nil) (nomark _)))
      (pss_cons (ps_if (PW.pt (pw_or (pt_cmpR op_ne (pe_call Gagree (hr.mono (by decide)) (by rfl) Dagree.g Dagree.F.kp Dagree.b .nil pass0 (pa_cons (pv 1) (pa_cons (pv 2) pa_nil))) (pv 4) (nomark _)) (pw_or (pt_cmpR op_ne (pe_call Gagree (hr.mono (by decide)) (by rfl) Dagree.g Dagree.F.kp Dagree.b .nil pass0 (pa_cons (pv 2) (pa_cons (pv 1) pa_nil))) (pv 4) (nomark _)) (pw_or1 (pt_cmpR op_ne (pe_call Gis_above (hr.mono (by decide)) (by rfl) Dis_above.g Dis_above.F.kp Dis_above.b .nil pass0 (pa_cons (pv 1) (pa_cons (pv 2) pa_nil))) (pv 5) (nomark _)))))) (pss_one (ps_ret pe_bl)) pss_nil)
      (pss_cons (ps_if (PW.pt (pw_or (pt_not (pt_val (pe_call Gis_above (hr.mono (by decide)) (by rfl) Dis_above.g Dis_above.F.kp Dis_above.b .nil pass0 (pa_cons (pv 1) (pa_cons pe_dnewK pa_nil))))) (pw_or (pt_not (pt_val (pe_call Gis_above (hr.mono (by decide)) (by rfl) Dis_above.g Dis_above.F.kp Dis_above.b .nil pass0 (pa_cons (pv 1) (pa_cons (pv 1) pa_nil))))) (pw_or1 (pt_not (pt_val (pe_call Gagree (hr.mono (by decide)) (by rfl) Dagree.g Dagree.F.kp Dagree.b .nil pass0 (pa_cons (pv 1) (pa_cons (pv 1) pa_nil))))))))) (pss_one (ps_ret pe_bl)) pss_nil)
      (pss_cons (ps_set (i := 6) sc__law_two.nd rfl (Or.inl rfl) (pe_call G_law_joined (hr.mono (by decide)) (by rfl) D_law_joined.g D_law_joined.F.kp D_law_joined.b .nil pass0 (pa_cons (pv 1) (pa_cons (pv 2) pa_nil))))
      (pss_cons (ps_if (PW.pt (pw_and (pt_val (pv 4)) (pw_and1 (PW.pt (pw_or (pt_cmpR (op_neX (K := K) rfl (obEq0 (m := 0)) (hr.mono (by decide))) (pe_call Gjoined (hr.mono (by decide)) (by rfl) Djoined.g Djoined.F.kp Djoined.b .nil pass0 (pa_cons (pv 1) (pa_cons (pv 2) pa_nil))) (pv 6) (nomark _)) (pw_or1 (pt_cmpR (op_neDK (K := K) rfl hr.units) (pe_callTy (call_listD rfl) (by rfl) m_list (by decide +kernel) (pa_cons (pe_call Gjoined (hr.mono (by decide)) (by rfl) Djoined.g Djoined.F.kp Djoined.b .nil pass0 (pa_cons (pv 1) (pa_cons (pv 2) pa_nil))) pa_nil)) (pe_callB (cr_sortedSK (K := K) rfl) (by rfl) m_sorted (by decide +kernel) (pa_cons (pe_callTy (call_listD rfl) (by rfl) m_list (by decide +kernel) (pa_cons (pv 6) pa_nil)) pa_nil)) (nomark _)))))))) (pss_one (ps_ret pe_bl)) pss_nil)
      (pss_cons (ps_set (i := 7) sc__law_two.nd rfl (Or.inr rfl) (pe_op op_cat (pe_lc (own := [("_law_variable", 9)]) (g := gName 9) rfl sc__law_two.nd (pi_listK (K := K) rfl (pe_op op_cat (pe_callTy (call_listD rfl) (by rfl) m_list (by decide +kernel) (pa_cons (pv 1) pa_nil)) (pe_callTy (call_listD rfl) (by rfl) m_list (by decide +kernel) (pa_cons (pv 2) pa_nil)))) (blkOk_by (N := n__law_two) (sc := defScope s__law_two) (by decide +kernel)) (fun _ _ _ _ _ => pg_name (i := 9) sc__law_two.nd rfl (Or.inl rfl)) (fun _ _ _ _ _ => pts_one (pt_cmpR op_eq (pe_call G_law_draw (hr.mono (by decide)) (by rfl) D_law_draw.g D_law_draw.F.kp D_law_draw.b .nil pass0 (pa_cons (pv 0) (pa_cons pe_int pa_nil))) pe_int (nomark _))) (fun _ _ _ _ _ => (pv 9))) (pe_lst (pa_cons pe_str pa_nil))))
      (pss_cons (ps_set (i := 8) sc__law_two.nd rfl (Or.inr rfl) (pe_call Gonly_keys (hr.mono (by decide)) (by rfl) Donly_keys.g Donly_keys.F.kp Donly_keys.b .nil pass0 (pa_cons (pv 1) (pa_cons (pv 7) pa_nil))))
      (pss_cons (ps_if (pt_cmpR (op_neDK (K := K) rfl hr.units) (pe_callTy (call_listD rfl) (by rfl) m_list (by decide +kernel) (pa_cons (pv 8) pa_nil)) (pe_lc (own := [("_law_variable", 9)]) (g := gName 9) rfl sc__law_two.nd (pi_listK (K := K) rfl (pe_callB (cr_sortedSK (K := K) rfl) (by rfl) m_sorted (by decide +kernel) (pa_cons (pe_callTy (call_listD rfl) (by rfl) m_list (by decide +kernel) (pa_cons (pv 1) pa_nil)) pa_nil))) (blkOk_by (N := n__law_two) (sc := defScope s__law_two) (by decide +kernel)) (fun _ _ _ _ _ => pg_name (i := 9) sc__law_two.nd rfl (Or.inl rfl)) (fun _ _ _ _ _ => pts_one (pt_cmpR (op_in_seqK (K := K) rfl) (pv 9) (pv 7) (by rfl))) (fun _ _ _ _ _ => (pv 9))) (nomark _)) (pss_one (ps_ret pe_bl)) pss_nil)
      (pss_cons (ps_if (pt_cmpR (op_neDK (K := K) rfl hr.units) (pe_lc (own := [("_law_variable", 9)]) (g := gName 9) rfl sc__law_two.nd (pi_listK (K := K) rfl (pe_callTy (call_listD rfl) (by rfl) m_list (by decide +kernel) (pa_cons (pv 8) pa_nil))) (blkOk_by (N := n__law_two) (sc := defScope s__law_two) (by decide +kernel)) (fun _ _ _ _ _ => pg_name (i := 9) sc__law_two.nd rfl (Or.inl rfl)) (fun _ _ _ _ _ => pts_one (pt_cmpR op_ne (pe_dget (Nat.lt_of_le_of_lt (Nat.add_le_add_left (by decide) _) hr.units) (pv 8) (pv 9) (fun _ _ => rfl)) (pe_dget (Nat.lt_of_le_of_lt (Nat.add_le_add_left (by decide) _) hr.units) (pv 1) (pv 9) (fun _ _ => rfl)) (nomark _))) (fun _ _ _ _ _ => (pv 9))) (pe_lst pa_nil) (nomark _)) (pss_one (ps_ret pe_bl)) pss_nil)
      (pss_cons (ps_for PassesOwn.never rfl (pi_listK (K := K) rfl (pe_lst (pa_cons (pe_call GFjoined (hr.mono (by decide)) (by rfl) Djoined.g Djoined.F.kp Djoined.b .nil pass0 (pa_cons (pv 1) (pa_cons pe_dnewK pa_nil))) (pa_cons (pe_call GFjoined (hr.mono (by decide)) (by rfl) Djoined.g Djoined.F.kp Djoined.b .nil pass0 (pa_cons pe_dnewK (pa_cons (pv 1) pa_nil))) (pa_cons (pe_call GFonly_keys (hr.mono (by decide)) (by rfl) Donly_keys.g Donly_keys.F.kp Donly_keys.b .nil pass0 (pa_cons (pv 1) (pa_cons (pe_callTy (call_listD rfl) (by rfl) m_list (by decide +kernel) (pa_cons (pv 1) pa_nil)) pa_nil))) (pa_cons (pe_ix (ix_listK (K := K) rfl) (pe_call GFin_order (hr.mono (by decide)) (by rfl) Din_order.g Din_order.F.kp Din_order.b .nil pass0 (pa_cons (pe_lst (pa_cons (pv 1) pa_nil)) pa_nil)) pe_int (fun _ _ => rfl)) pa_nil)))))) (pg_name (i := 8) sc__law_two.nd rfl (Or.inr rfl)) (pss_one (ps_dput (Nat.lt_of_le_of_lt (Nat.add_le_add_left (by decide) _) hr.units) (pv 8) pe_str pe_str (by rfl))))
      (pss_one (ps_ret (pe_cmpR (op_eqDK (K := K) rfl hr.units) (pe_lst (pa_cons (pe_call G_law_pairs (hr.mono (by decide)) (by rfl) D_law_pairs.g D_law_pairs.F.kp D_law_pairs.b .nil pass0 (pa_cons (pv 1) pa_nil)) (pa_cons (pe_call G_law_pairs (hr.mono (by decide)) (by rfl) D_law_pairs.g D_law_pairs.F.kp D_law_pairs.b .nil pass0 (pa_cons (pv 2) pa_nil)) pa_nil))) (pv 3) (nomark _)))))))))))))))), ?_⟩
  refine fn_sim h (W := fun cls dd _ H => E cls dd H) (m := 7) ((ss_seq (ss_asg (SimF.e (sf_lst (sl_cons (se_call0 (sa_val (se_var 1) sa_nil)) (sl_cons (se_call0 (sa_val (se_var 2) sa_nil)) sl_nil)))) (sg_name 3))
      (ss_seq (ss_asg (se_op sr_eqD (SimE.b (SimF.e (sf_lc (si_list (SimE.b (SimF.e (sf_cb scf_listD (SimE.b (se_var 1)))))) (sg_name 9) (by decide) (st_of' (se_op sr_ne (SimE.b (se_get2 (SimE.b (se_var 2)) (SimE.b (se_var 9)) (se_dget (SimE.b (se_var 1)) (SimE.b (se_var 9))))) (SimE.b (se_dget (SimE.b (se_var 1)) (SimE.b (se_var 9)))))) (se_var 9)))) (SimE.b (SimF.e (sf_lst sl_nil)))) (sg_name 4))
      (ss_seq (ss_asg (se_op sr_eqD (SimE.b (SimF.e (sf_lc (si_list (SimE.b (SimF.e (sf_cb scf_listD (SimE.b (se_var 2)))))) (sg_name 9) (by decide) (st_of' (se_op sr_ne (SimE.b (se_get1 (SimE.b (se_var 1)) (SimE.b (se_var 9)))) (SimE.b (se_dget (SimE.b (se_var 2)) (SimE.b (se_var 9)))))) (se_var 9)))) (SimE.b (SimF.e (sf_lst sl_nil)))) (sg_name 5))
      (ss_seq (ss_if (st_or (st_of' (se_op sr_ne (SimE.b (se_call0 (sa_val (se_var 1) (sa_val (se_var 2) sa_nil)))) (SimE.b (se_var 4)))) (st_or (st_of' (se_op sr_ne (SimE.b (se_call0 (sa_val (se_var 2) (sa_val (se_var 1) sa_nil)))) (SimE.b (se_var 4)))) (st_of' (se_op sr_ne (SimE.b (se_call0 (sa_val (se_var 1) (sa_val (se_var 2) sa_nil)))) (SimE.b (se_var 5)))))) (ss_ret se_bl) ss_next)
      (ss_seq (ss_if (st_or (st_not (st_val (se_call0 (sa_val (se_var 1) (sa_val (SimF.e sf_dnew) sa_nil))))) (st_or (st_not (st_val (se_call0 (sa_val (se_var 1) (sa_val (se_var 1) sa_nil))))) (st_not (st_val (se_call0 (sa_val (se_var 1) (sa_val (se_var 1) sa_nil))))))) (ss_ret se_bl) ss_next)
      (ss_seq (ss_asg (se_call0 (sa_val (se_var 1) (sa_val (se_var 2) sa_nil))) (sg_name 6))
      (ss_seq (ss_if (st_and (st_val (se_var 4)) (st_or (st_of' (se_op sr_eqX (SimE.b (se_call0 (sa_val (se_var 1) (sa_val (se_var 2) sa_nil)))) (SimE.b (se_var 6)))) (st_of' (se_op sr_neD (SimE.b (SimF.e (sf_cb scf_listD (SimE.b (se_call0 (sa_val (se_var 1) (sa_val (se_var 2) sa_nil))))))) (SimE.b (SimF.e (sf_cb scf_sortS (SimE.b (SimF.e (sf_cb scf_listD (SimE.b (se_var 6)))))))))))) (ss_ret se_bl) ss_next)
      (ss_seq (ss_asg (SimF.e (sf_op srf_cat (SimE.b (SimF.e (sf_lc (si_list (SimE.b (SimF.e (sf_op srf_cat (SimE.b (SimF.e (sf_cb scf_listD (SimE.b (se_var 1))))) (SimE.b (SimF.e (sf_cb scf_listD (SimE.b (se_var 2))))))))) (sg_name 9) (by decide) (st_of' (se_op sr_eq (SimE.b (se_call0 (sa_src 0 (sa_val se_int sa_nil)))) (SimE.b se_int))) (se_var 9)))) (SimE.b (SimF.e (sf_lst (sl_cons se_str sl_nil)))))) (sg_name 7))
      (ss_seq (ss_asg (se_call0 (sa_val (se_var 1) (sa_val (se_var 7) sa_nil))) (sg_name 8))
      (ss_seq (ss_if (st_of' (se_op sr_neD (SimE.b (SimF.e (sf_cb scf_listD (SimE.b (se_var 8))))) (SimE.b (SimF.e (sf_lc (si_list (SimE.b (SimF.e (sf_cb scf_sortS (SimE.b (SimF.e (sf_cb scf_listD (SimE.b (se_var 1))))))))) (sg_name 9) (by decide) (st_of' (se_op sr_in (SimE.b (se_var 9)) (SimE.b (se_var 7)))) (se_var 9)))))) (ss_ret se_bl) ss_next)
      (ss_seq (ss_if (st_of' (se_op sr_neD (SimE.b (SimF.e (sf_lc (si_list (SimE.b (SimF.e (sf_cb scf_listD (SimE.b (se_var 8)))))) (sg_name 9) (by decide) (st_of' (se_op sr_ne (SimE.b (se_dget (SimE.b (se_var 8)) (SimE.b (se_var 9)))) (SimE.b (se_dget (SimE.b (se_var 1)) (SimE.b (se_var 9)))))) (se_var 9)))) (SimE.b (SimF.e (sf_lst sl_nil))))) (ss_ret se_bl) ss_next)
      (ss_seq (ss_junk (fa_cons (sf_callF (sa_val (se_var 1) (sa_val (SimF.e sf_dnew) sa_nil))) (fa_cons (sf_callF (sa_val (SimF.e sf_dnew) (sa_val (se_var 1) sa_nil))) (fa_cons (sf_callF (sa_val (se_var 1) (sa_val (SimF.e (sf_cb scf_listD (SimE.b (se_var 1)))) sa_nil))) (fa_cons (sf_fst (sff_call (sa_val (SimF.e (sf_lst (sl_cons (se_var 1) sl_nil))) sa_nil))) fa_nil)))) (by decide))
      (ss_ret (se_op sr_eqD (SimE.b (SimF.e (sf_lst (sl_cons (se_call0 (sa_val (se_var 1) sa_nil)) (sl_cons (se_call0 (sa_val (se_var 2) sa_nil)) sl_nil))))) (SimE.b (se_var 3))))))))))))))))) (fun _ _ _ _ z => z) (by rw [hl]; rfl) fun args n q x hp _ => ?_
  obtain ⟨a0, a1, rfl, hp⟩ := S2_of hp
  obtain ⟨m1, m2, rfl, rfl, h1, h2, hn, hq⟩ := hp
  have o1 := h1.ok (by decide)
  have o2 := h2.ok (by decide)
  have l1 := h1.len
  have l2 := h2.len
  simp only [dicS, pJunk, faCons, faNil, pFst, keys_dicS, pSeq, pIfS, pOr, pAnd, pNot, pTst, pYes, pUn, pVar, pVarB, pC, pRet, pRetN, pRetB, pNext, pChain, pOp, pAndV, pOrV, pNotV, pIf, pSl, pPart, pNoPart, pNil, pCons, pStar, pLst, pTup, pLc, pItL, pItT, pItS, pRng1, pRng2, pAsg, pAsgF, pDrop, pApp, pExt, pFor, pAug, pPar, pFreeze, pgN, pgTup, pgLst, pgCons, pgNil, pMS, pJoined, pJs, paNil, paVal, paSrc, pCall0, pCall, pSortSg, elP, gI, gI0, gNeg, gAddS, gSS, gSg, gCat, gCatT, gIsN, isNo, gIxL, gIxT, gIxS, gSlL, gSlT, gSlS, gLen, gLenS, gInt, gStrI, gStrS, gAll, gAny, gList, gTuple, gIsi, gJoin, gFind, gSplit, gPart, gFmt, gSortS, gSortLP, gSortSet, gRev, gRepT, gRepS, itemsD, isS, wipeP, List.map_cons, List.map_nil, List.set_cons_zero, List.set_cons_succ, List.getElem?_cons_zero, List.getElem?_cons_succ, List.cons_append, List.nil_append, List.replicate_succ, List.replicate_zero, Bool.false_eq_true, Bool.not_true, Bool.not_false, if_true, if_false, Option.some.injEq, exists_eq_left', true_and, and_true, exists_and_left, exists_eq_left, V.str.injEq, V.int.injEq, isiD, tyD, isiT, tysOk, beq_self_eq_true, Bool.true_or, Bool.or_true, List.mem_cons, true_or, or_true, Option.isSome_some, id_eq, gEq, flD, scal, gLtT, pGet1, pGet2, pDPut, gDGet, gDIn, gSortD, gDictD, gListD, gDictP, isDic, dKey, pMakeQ, pMake0, pCallN, pickL, List.filterMap_cons, List.filterMap_nil, pLc2, pItQ, pWhile]
  refine pairs_go o1 (pairs_go o2 ⟨by simp, by rw [List.length_map, List.length_map]; omega, ?_⟩)
  refine colP_filter (g := D.str) (b := fun k => !decide ((getS m2 k).getD (fillT m1 k) = fillT m1 k)) (fun z hz k hk => ?_) ⟨by simp, nil_strs (fun z hz => keys_sok o1 z (List.mem_filter.mp hz).1) ?_⟩
  · have hv : valD (m1.map dicE) (.inr z) = some (.str (fillT m1 z)) := by rw [val_dicS, get_some hz]; rfl
    have e2 : (valD (m2.map dicE) (.inr z)).getD (.str (fillT m1 z)) = .str ((getS m2 z).getD (fillT m1 z)) := by
      rw [val_dicS]
      cases getS m2 z <;> rfl
    simp only [dicS, pSeq, pIfS, pOr, pAnd, pNot, pTst, pYes, pUn, pVar, pVarB, pC, pRet, pRetN, pRetB, pNext, pChain, pOp, pAndV, pOrV, pNotV, pIf, pSl, pPart, pNoPart, pNil, pCons, pStar, pLst, pTup, pLc, pItL, pItT, pItS, pRng1, pRng2, pAsg, pAsgF, pDrop, pApp, pExt, pFor, pAug, pPar, pFreeze, pgN, pgTup, pgLst, pgCons, pgNil, pMS, pJoined, pJs, paNil, paVal, paSrc, pCall0, pCall, pSortSg, elP, gI, gI0, gNeg, gAddS, gSS, gSg, gCat, gCatT, gIsN, isNo, gIxL, gIxT, gIxS, gSlL, gSlT, gSlS, gLen, gLenS, gInt, gStrI, gStrS, gAll, gAny, gList, gTuple, gIsi, gJoin, gFind, gSplit, gPart, gFmt, gSortS, gSortLP, gSortSet, gRev, gRepT, gRepS, itemsD, isS, wipeP, List.map_cons, List.map_nil, List.set_cons_zero, List.set_cons_succ, List.getElem?_cons_zero, List.getElem?_cons_succ, List.cons_append, List.nil_append, List.replicate_succ, List.replicate_zero, Bool.false_eq_true, Bool.not_true, Bool.not_false, if_true, if_false, Option.some.injEq, exists_eq_left', true_and, and_true, exists_and_left, exists_eq_left, V.str.injEq, V.int.injEq, isiD, tyD, isiT, tysOk, beq_self_eq_true, Bool.true_or, Bool.or_true, List.mem_cons, true_or, or_true, Option.isSome_some, id_eq, gEq, flD, scal, gLtT, pGet1, pGet2, pDPut, gDGet, gDIn, gSortD, gDictD, gListD, gDictP, isDic, dKey, pMakeQ, pMake0, pCallN, pickL, List.filterMap_cons, List.filterMap_nil, pLc2, pItQ, pWhile]
    refine ⟨_, hv, ?_⟩
    rw [e2]
    refine ⟨_, hv, _, rfl, _, rfl, rfl, ?_⟩
    rw [dec_str]
    split
    · rename_i c
      rw [if_pos c] at hk
      exact hk
    · rename_i c
      rw [if_neg c] at hk
      exact hk
  rw [fil_all]
  refine ⟨by rw [List.length_map, List.length_map]; omega, ?_⟩
  refine colP_filter (g := D.str) (b := fun k => !decide (getS m1 k = some (fillT m2 k))) (fun z hz k hk => ?_) ⟨by simp, nil_strs (fun z hz => keys_sok o2 z (List.mem_filter.mp hz).1) ?_⟩
  · have hv : valD (m2.map dicE) (.inr z) = some (.str (fillT m2 z)) := by rw [val_dicS, get_some hz]; rfl
    simp only [dicS, pSeq, pIfS, pOr, pAnd, pNot, pTst, pYes, pUn, pVar, pVarB, pC, pRet, pRetN, pRetB, pNext, pChain, pOp, pAndV, pOrV, pNotV, pIf, pSl, pPart, pNoPart, pNil, pCons, pStar, pLst, pTup, pLc, pItL, pItT, pItS, pRng1, pRng2, pAsg, pAsgF, pDrop, pApp, pExt, pFor, pAug, pPar, pFreeze, pgN, pgTup, pgLst, pgCons, pgNil, pMS, pJoined, pJs, paNil, paVal, paSrc, pCall0, pCall, pSortSg, elP, gI, gI0, gNeg, gAddS, gSS, gSg, gCat, gCatT, gIsN, isNo, gIxL, gIxT, gIxS, gSlL, gSlT, gSlS, gLen, gLenS, gInt, gStrI, gStrS, gAll, gAny, gList, gTuple, gIsi, gJoin, gFind, gSplit, gPart, gFmt, gSortS, gSortLP, gSortSet, gRev, gRepT, gRepS, itemsD, isS, wipeP, List.map_cons, List.map_nil, List.set_cons_zero, List.set_cons_succ, List.getElem?_cons_zero, List.getElem?_cons_succ, List.cons_append, List.nil_append, List.replicate_succ, List.replicate_zero, Bool.false_eq_true, Bool.not_true, Bool.not_false, if_true, if_false, Option.some.injEq, exists_eq_left', true_and, and_true, exists_and_left, exists_eq_left, V.str.injEq, V.int.injEq, isiD, tyD, isiT, tysOk, beq_self_eq_true, Bool.true_or, Bool.or_true, List.mem_cons, true_or, or_true, Option.isSome_some, id_eq, gEq, flD, scal, gLtT, pGet1, pGet2, pDPut, gDGet, gDIn, gSortD, gDictD, gListD, gDictP, isDic, dKey, pMakeQ, pMake0, pCallN, pickL, List.filterMap_cons, List.filterMap_nil, pLc2, pItQ, pWhile]
    refine ⟨_, hv, ?_⟩
    rw [val_dicS]
    cases e : getS m1 z with
    | none =>
      rw [e] at hk
      exact ⟨_, rfl, _, rfl, rfl, hk⟩
    | some y =>
      rw [e] at hk
      refine ⟨_, rfl, _, rfl, rfl, ?_⟩
      rw [dec_str]
      have e3 : decide (some y = some (fillT m2 z)) = decide (y = fillT m2 z) := decide_eq_decide.mpr ⟨fun h => by injection h, fun h => by rw [h]⟩
      rw [e3] at hk
      split
      · rename_i c
        rw [if_pos c] at hk
        exact hk
      · rename_i c
        rw [if_neg c] at hk
        exact hk
  rw [fil_all]
  have ef : ((m1.map Prod.fst).all fun k => decide ((getS m2 k).getD (fillT m1 k) = fillT m1 k)) = agreeS m1 m2 := rfl
  have ea : ((m2.map Prod.fst).all fun k => decide (getS m1 k = some (fillT m2 k))) = aboveS m1 m2 := rfl
  rw [ef, ea]
  dsimp only [id]
  refine agree_go o1 o2 ⟨_, rfl, _, rfl, rfl, if_no (by simp) ?_⟩
  refine agree_go o2 o1 ⟨_, rfl, _, rfl, rfl, if_no (by rw [agree_comm]; simp) ?_⟩
  refine above_go o1 o2 ⟨_, rfl, _, rfl, rfl, if_no (by simp) ?_⟩
  refine above_go (m2 := []) o1 (nilL (a := 0) |>.ok (by decide)) (if_no rfl ?_)
  refine above_go o1 o1 (if_no (by rw [above_self]; rfl) ?_)
  refine agree_go o1 o1 (if_no (by rw [agree_self]; rfl) ?_)
  have h1' := h1.up (show 10 ≤ 20 by decide)
  have h2' := h2.up (show 10 ≤ 20 by decide)
  have mo := (h1.merg h2.sok).ok (by omega)
  refine joined_go h1' h2' ?_
  refine if_tail ?_ fun tail => ?_
  rotate_left
  · refine joined_go h1' h2' (eqX_go 1 (by decide) (cmp_dicS mo.ord.nd) (if_no rfl ?_))
    refine joined_go h1' h2' ?_
    dsimp only [dicS]
    rw [keys_dicS, ordS_keys]
    have kl : (srtS ((mergS m1 m2).map Prod.fst)).length < 64 := by
      rw [(srtS_perm _).length_eq, List.length_map]
      have := mo.len
      omega
    refine ⟨_, strsD_map _, kl, ?_⟩
    rw [srtS_idem]
    refine strs_eq (fun z hz => keys_sok mo z ((srtS_perm _).mem_iff.mp hz)) (if_no rfl ?_)
    exact tail
  · refine ⟨by simp only [List.length_map]; omega, by simp only [List.length_append, List.length_map]; omega, ?_⟩
    refine colP_inv (fun i l n' => n' ≤ n + i ∧ ∃ tk : List Str, l = tk.map .str ∧ tk.length ≤ i ∧ ∀ z ∈ tk, SOk z) ⟨by omega, [], rfl, Nat.le_refl _, fun _ z => by cases z⟩ ?_ ?_
    · rintro i d l n' k hd ⟨hn', tk, rfl, tl, tok⟩ hk
      have il : i < 20 := by
        have := (List.getElem?_eq_some_iff.mp hd).1
        simp only [List.length_append, List.length_map] at this
        omega
      obtain ⟨z, rfl, hz⟩ : ∃ z, d = .str z ∧ SOk z := by
        rcases List.mem_append.mp (List.mem_of_getElem? hd) with h | h
        · obtain ⟨z, hz, rfl⟩ := List.mem_map.mp h
          exact ⟨z, rfl, keys_sok o1 z hz⟩
        · obtain ⟨z, hz, rfl⟩ := List.mem_map.mp h
          exact ⟨z, rfl, keys_sok o2 z hz⟩
      simp only [pSeq, pIfS, pOr, pAnd, pNot, pTst, pYes, pUn, pVar, pVarB, pC, pRet, pRetN, pRetB, pNext, pChain, pOp, pAndV, pOrV, pNotV, pIf, pSl, pPart, pNoPart, pNil, pCons, pStar, pLst, pTup, pLc, pItL, pItT, pItS, pRng1, pRng2, pAsg, pAsgF, pDrop, pApp, pExt, pFor, pAug, pPar, pFreeze, pgN, pgTup, pgLst, pgCons, pgNil, pMS, pJoined, pJs, paNil, paVal, paSrc, pCall0, pCall, pSortSg, elP, gI, gI0, gNeg, gAddS, gSS, gSg, gCat, gCatT, gIsN, isNo, gIxL, gIxT, gIxS, gSlL, gSlT, gSlS, gLen, gLenS, gInt, gStrI, gStrS, gAll, gAny, gList, gTuple, gIsi, gJoin, gFind, gSplit, gPart, gFmt, gSortS, gSortLP, gSortSet, gRev, gRepT, gRepS, itemsD, isS, wipeP, List.map_cons, List.map_nil, List.set_cons_zero, List.set_cons_succ, List.getElem?_cons_zero, List.getElem?_cons_succ, List.cons_append, List.nil_append, List.replicate_succ, List.replicate_zero, Bool.false_eq_true, Bool.not_true, Bool.not_false, if_true, if_false, Option.some.injEq, exists_eq_left', true_and, and_true, exists_and_left, exists_eq_left, V.str.injEq, V.int.injEq, isiD, tyD, isiT, tysOk, beq_self_eq_true, Bool.true_or, Bool.or_true, List.mem_cons, true_or, or_true, Option.isSome_some, id_eq, gEq, flD, scal, gLtT, pGet1, pGet2, pDPut, gDGet, gDIn, gSortD, gDictD, gListD, gDictP, isDic, dKey, pMakeQ, pMake0, pCallN, pickL, List.filterMap_cons, List.filterMap_nil, pLc2, pItQ, pWhile]
      refine draw_go (by omega) (by decide) (by decide) fun m hm => ⟨_, rfl, rfl, ?_⟩
      split
      · exact hk (some (.str z)) _ ⟨by omega, tk ++ [z], by simp, by simp; omega, fun y hy => by
          rcases List.mem_append.mp hy with hy | hy
          · exact tok y hy
          · rw [List.mem_singleton.mp hy]
            exact hz⟩
      · exact hk none _ ⟨by omega, tk, by simp, by omega, tok⟩
    · rintro l n' ⟨hn', tk, rfl, tl, tok⟩
      simp only [List.length_append, List.length_map] at tl hn'
      refine ⟨by simp, by simp; omega, ?_⟩
      have e1 : tk.map D.str ++ [D.str (Str.ofString "?none")] = (tk ++ [Str.ofString "?none"]).map D.str := by simp
      rw [e1]
      refine only_go o1 (by simp; omega) ?_
      generalize tk ++ [Str.ofString "?none"] = ks
      have ond := only_nd o1.nd ks
      have ool := only_len m1 ks
      dsimp only [dicS]
      rw [keys_dicS]
      refine ⟨_, strsD_map _, by rw [List.length_map]; omega, by rw [List.length_map, (srtS_perm _).length_eq, List.length_map]; omega, ?_⟩
      refine colP_filter (g := D.str) (b := fun k => decide (k ∈ ks)) (fun z hz k hk => ?_) ?_
      · simp only [pSeq, pIfS, pOr, pAnd, pNot, pTst, pYes, pUn, pVar, pVarB, pC, pRet, pRetN, pRetB, pNext, pChain, pOp, pAndV, pOrV, pNotV, pIf, pSl, pPart, pNoPart, pNil, pCons, pStar, pLst, pTup, pLc, pItL, pItT, pItS, pRng1, pRng2, pAsg, pAsgF, pDrop, pApp, pExt, pFor, pAug, pPar, pFreeze, pgN, pgTup, pgLst, pgCons, pgNil, pMS, pJoined, pJs, paNil, paVal, paSrc, pCall0, pCall, pSortSg, elP, gI, gI0, gNeg, gAddS, gSS, gSg, gCat, gCatT, gIsN, isNo, gIxL, gIxT, gIxS, gSlL, gSlT, gSlS, gLen, gLenS, gInt, gStrI, gStrS, gAll, gAny, gList, gTuple, gIsi, gJoin, gFind, gSplit, gPart, gFmt, gSortS, gSortLP, gSortSet, gRev, gRepT, gRepS, itemsD, isS, wipeP, List.map_cons, List.map_nil, List.set_cons_zero, List.set_cons_succ, List.getElem?_cons_zero, List.getElem?_cons_succ, List.cons_append, List.nil_append, List.replicate_succ, List.replicate_zero, Bool.false_eq_true, Bool.not_true, Bool.not_false, if_true, if_false, Option.some.injEq, exists_eq_left', true_and, and_true, exists_and_left, exists_eq_left, V.str.injEq, V.int.injEq, isiD, tyD, isiT, tysOk, beq_self_eq_true, Bool.true_or, Bool.or_true, List.mem_cons, true_or, or_true, Option.isSome_some, id_eq, gEq, flD, scal, gLtT, pGet1, pGet2, pDPut, gDGet, gDIn, gSortD, gDictD, gListD, gDictP, isDic, dKey, pMakeQ, pMake0, pCallN, pickL, List.filterMap_cons, List.filterMap_nil, pLc2, pItQ, pWhile]
        refine in_strs ?_
        by_cases c : z ∈ ks
        · rw [decide_eq_true c] at hk ⊢
          exact hk
        · rw [decide_eq_false c] at hk ⊢
          exact hk
      rw [only_keys_eq]
      refine strs_eq (fun z hz => keys_sok o1 z ((srtS_perm _).mem_iff.mp (List.mem_filter.mp hz).1)) (if_no rfl ?_)
      have hml := ((nilL (a := 0)).merg h1.sok).len
      refine ⟨by rw [List.length_map]; refine Nat.le_trans (List.length_filter_le _ _) ?_; rw [(srtS_perm _).length_eq, List.length_map]; omega, ?_⟩
      refine colP_filter (g := D.str) (b := fun _ => false) (fun z hz k hk => ?_) ⟨by simp, nil_strs (fun z hz => by simp at hz) ?_⟩
      · rw [← only_keys_eq] at hz
        have hz1 : z ∈ m1.map Prod.fst := by
          obtain ⟨p, hp, rfl⟩ := List.mem_map.mp hz
          exact List.mem_map.mpr ⟨p, only_mem o1.nd hp, rfl⟩
        have hv : valD (m1.map dicE) (.inr z) = some (.str (fillT m1 z)) := by rw [val_dicS, get_some hz1]; rfl
        have hv2 : valD ((onlyS m1 ks).map dicE) (.inr z) = some (.str (fillT m1 z)) := by
          rw [val_dicS, get_some hz, nd_val o1.nd (get_mem (get_some hz1)) (only_mem o1.nd (get_mem (get_some hz)))]
          rfl
        simp only [pSeq, pIfS, pOr, pAnd, pNot, pTst, pYes, pUn, pVar, pVarB, pC, pRet, pRetN, pRetB, pNext, pChain, pOp, pAndV, pOrV, pNotV, pIf, pSl, pPart, pNoPart, pNil, pCons, pStar, pLst, pTup, pLc, pItL, pItT, pItS, pRng1, pRng2, pAsg, pAsgF, pDrop, pApp, pExt, pFor, pAug, pPar, pFreeze, pgN, pgTup, pgLst, pgCons, pgNil, pMS, pJoined, pJs, paNil, paVal, paSrc, pCall0, pCall, pSortSg, elP, gI, gI0, gNeg, gAddS, gSS, gSg, gCat, gCatT, gIsN, isNo, gIxL, gIxT, gIxS, gSlL, gSlT, gSlS, gLen, gLenS, gInt, gStrI, gStrS, gAll, gAny, gList, gTuple, gIsi, gJoin, gFind, gSplit, gPart, gFmt, gSortS, gSortLP, gSortSet, gRev, gRepT, gRepS, itemsD, isS, wipeP, List.map_cons, List.map_nil, List.set_cons_zero, List.set_cons_succ, List.getElem?_cons_zero, List.getElem?_cons_succ, List.cons_append, List.nil_append, List.replicate_succ, List.replicate_zero, Bool.false_eq_true, Bool.not_true, Bool.not_false, if_true, if_false, Option.some.injEq, exists_eq_left', true_and, and_true, exists_and_left, exists_eq_left, V.str.injEq, V.int.injEq, isiD, tyD, isiT, tysOk, beq_self_eq_true, Bool.true_or, Bool.or_true, List.mem_cons, true_or, or_true, Option.isSome_some, id_eq, gEq, flD, scal, gLtT, pGet1, pGet2, pDPut, gDGet, gDIn, gSortD, gDictD, gListD, gDictP, isDic, dKey, pMakeQ, pMake0, pCallN, pickL, List.filterMap_cons, List.filterMap_nil, pLc2, pItQ, pWhile]
        refine ⟨_, hv2, _, hv, _, rfl, _, rfl, rfl, ?_⟩
        rw [decide_eq_true rfl]
        exact hk
      · refine if_no (by simp) ?_
        refine ⟨by simp, joined_go h1' nilL ⟨⟨_, rfl, by rw [List.length_map, ordS_len]; show m1.length ≤ 1000; omega⟩, ?_⟩⟩
        refine joined_go nilL h1' ⟨⟨_, rfl, by rw [List.length_map, ordS_len]; omega⟩, ?_⟩
        have okl := only_len m1 (m1.map Prod.fst)
        refine only_go o1 (by rw [List.length_map]; omega) ⟨⟨_, rfl, by rw [List.length_map]; omega⟩, by simp, ?_⟩
        refine inOrder_go (ms := [m1]) rfl (fun m hm => by rw [List.mem_singleton.mp hm]; exact o1) (by simp) ?_
        rw [inOrd_one]
        refine ⟨_, _, rfl, ⟨_, rfl, by rw [List.length_map, ordS_len]; omega⟩, ?_⟩
        exact pairs_go o1 (pairs_go o2 ⟨by simp, two_tail o1 o2 (hq _ (by omega))⟩)
end
end G39

namespace G39
open PySem PySem.Spec PyProof.Rows L2 Evl
section
variable {P : Program} {w : World} {K : PySem.W.Frag} {mg : Str → Option Value} {base : Heap}
theorem inOrd_nil : inOrd [] = [] := by
  have := inOrd_len []
  exact List.length_eq_zero_iff.mp (by simpa using this)
theorem cells_int {ns : List Int} (hb : ∀ z ∈ ns, Builtin.Int.intBits z ≤ 1048576) (k : Int) : ∀ d ∈ cutD (ns.map D.int) none (some k) ++ [D.int 0], ∃ c, d = .int c ∧ Builtin.Int.intBits c ≤ 1048576 := fun d hd => by
  rcases List.mem_append.mp hd with hd | hd
  · unfold cutD at hd
    obtain ⟨c, hc, rfl⟩ := List.mem_map.mp (List.mem_of_mem_drop (List.mem_of_mem_take hd))
    exact ⟨c, rfl, hb c hc⟩
  · rw [List.mem_singleton.mp hd]
    exact ⟨0, rfl, by decide⟩
theorem cells_len {ns : List Int} (hl : ns.length ≤ 63) (k : Int) : (cutD (ns.map D.int) none (some k)).length ≤ 63 := by
  unfold cutD
  rw [List.length_take, List.length_drop, List.length_map]
  omega
theorem MapL.rev {m : List (Str × Str)} {N : Nat} (h : MapL m N) : MapL (ordS m).reverse N := ⟨by rw [List.map_reverse]; exact (List.reverse_perm _).nodup_iff.mpr h.ord.nd, by rw [List.length_reverse]; exact h.ord.len, fun p hp => h.ord.sok p (List.mem_reverse.mp hp)⟩
theorem ok_law (T : TA K mg) {f : Addr} {fd : FuncData} (F : Fun K "law" "law" s_law f fd) : FnOk P w K mg base CX0 24 f fd ["_law_script"] (spLaw K) := by
  have m_range := T.m_range
  have m_dict := T.m_dict
  have m_tuple := T.m_tuple
  have m_list := T.m_list
  have m_sorted := T.m_sorted
  obtain ⟨f__law_source, d__law_source, D_law_source⟩ := T.D__law_source
  have G_law_source : FnOk P w K mg base CX0 1 f__law_source d__law_source _ spSource := ok_source D_law_source.F
  obtain ⟨f__law_pool, d__law_pool, D_law_pool⟩ := T.D__law_pool
  have G_law_pool : FnOk P w K mg base CX0 4 f__law_pool d__law_pool _ (lift K psPool) := ok__law_pool T D_law_pool.F
  obtain ⟨f_in_order, d_in_order, Din_order⟩ := T.D_in_order
  have Gin_order : FnOk P w K mg base CX0 2 f_in_order d_in_order _ (lift K psInOrder) := ok_in_order T Din_order.F
  have GFin_order : FnOk P w K mg base CX0 2 f_in_order d_in_order _ (liftFF K psInOrder) := okF_in_order T Din_order.F
  obtain ⟨f__law_pairs, d__law_pairs, D_law_pairs⟩ := T.D__law_pairs
  have G_law_pairs : FnOk P w K mg base CX0 1 f__law_pairs d__law_pairs _ (lift K psPairs) := ok__law_pairs T D_law_pairs.F
  obtain ⟨f__law_map, d__law_map, D_law_map⟩ := T.D__law_map
  have G_law_map : FnOk P w K mg base CX0 2 f__law_map d__law_map _ (lift K psMapL) := ok__law_map T D_law_map.F
  obtain ⟨f__law_draw, d__law_draw, D_law_draw⟩ := T.D__law_draw
  have G_law_draw : FnOk P w K mg base CX0 1 f__law_draw d__law_draw _ (lift K psDraw) := ok__law_draw T D_law_draw.F
  obtain ⟨f__law_joined, d__law_joined, D_law_joined⟩ := T.D__law_joined
  have G_law_joined : FnOk P w K mg base CX0 2 f__law_joined d__law_joined _ (lift K psJoined) := ok__law_joined T D_law_joined.F
  obtain ⟨f__law_two, d__law_two, D_law_two⟩ := T.D__law_two
  have G_law_two : FnOk P w K mg base CX0 12 f__law_two d__law_two _ (lift K psTwo) := ok__law_two T D_law_two.F
  obtain ⟨f__law_ordered, d__law_ordered, D_law_ordered⟩ := T.D__law_ordered
  have G_law_ordered : FnOk P w K mg base CX0 2 f__law_ordered d__law_ordered _ (lift K psOrdL) := ok__law_ordered T D_law_ordered.F
  refine (F.ok (k := 23) sc_law (lift_len (k := 1) law_len) (fun cdv A outer s H vs Q E hr h => ?_)).imp fun _ _ _ _ h => law_lift h
  have hl : vs.length = 1 := lift_len (k := 1) law_len vs H Q E h
  refine ⟨_, (pss_cons (ps_for PassesOwn.never rfl (pi_listK (K := K) rfl (pe_op op_cat (pe_slice (sl_listK (K := K) rfl) (pv 0) po_none (po_some pe_int)) (pe_lst (pa_cons pe_int pa_nil)))) (pg_name (i := 1) sc_law.nd rfl (Or.inl rfl)) (pss_cons (ps_set (i := 2) sc_law.nd rfl (Or.inl rfl) (pe_call G_law_source (hr.mono (by decide)) (by rfl) D_law_source.g D_law_source.F.kp D_law_source.b .nil pass0 (pa_cons (pv 1) pa_nil)))
      (pss_cons (ps_set (i := 3) sc_law.nd rfl (Or.inl rfl) (pe_call G_law_pool (hr.mono (by decide)) (by rfl) D_law_pool.g D_law_pool.F.kp D_law_pool.b .nil pass0 (pa_cons (pv 2) pa_nil)))
      (pss_cons (ps_set (i := 4) sc_law.nd rfl (Or.inl rfl) (pe_lst pa_nil))
      (pss_cons (ps_for PassesOwn.never rfl (pi_range1 rfl m_range (pa_cons pe_int pa_nil)) (pg_name (i := 5) sc_law.nd rfl (Or.inl rfl)) (pss_cons (ps_par (i := 6) (j := 7) (by rfl) sc_law.nd rfl rfl (by decide) rfl rfl (pa_cons (pe_call G_law_map (hr.mono (by decide)) (by rfl) D_law_map.g D_law_map.F.kp D_law_map.b .nil pass0 (pa_cons (pv 2) (pa_cons (pv 3) (pa_cons pe_int pa_nil)))) (pa_cons (pe_call G_law_map (hr.mono (by decide)) (by rfl) D_law_map.g D_law_map.F.kp D_law_map.b .nil pass0 (pa_cons (pv 2) (pa_cons (pv 3) (pa_cons pe_int pa_nil)))) pa_nil)) (by rfl))
      (pss_cons (ps_if (pt_cmpR op_eq (pe_call G_law_draw (hr.mono (by decide)) (by rfl) D_law_draw.g D_law_draw.F.kp D_law_draw.b .nil pass0 (pa_cons (pv 2) (pa_cons pe_int pa_nil))) pe_int (nomark _)) (pss_one (ps_set (i := 7) sc_law.nd rfl (Or.inl rfl) (pe_call G_law_joined (hr.mono (by decide)) (by rfl) D_law_joined.g D_law_joined.F.kp D_law_joined.b .nil pass0 (pa_cons (pv 7) (pa_cons (pv 6) pa_nil))))) pss_nil)
      (pss_cons (ps_if (PW.pt (pw_or (pt_not (pt_val (pe_call G_law_two (hr.mono (by decide)) (by rfl) D_law_two.g D_law_two.F.kp D_law_two.b .nil pass0 (pa_cons (pv 2) (pa_cons (pv 6) (pa_cons (pv 7) pa_nil)))))) (pw_or1 (pt_not (pt_val (pe_call G_law_two (hr.mono (by decide)) (by rfl) D_law_two.g D_law_two.F.kp D_law_two.b .nil pass0 (pa_cons (pv 2) (pa_cons (pe_callTy (call_dictPK (K := K) rfl rfl) (by rfl) m_dict (by decide +kernel) (pa_cons (pe_revLK (K := K) rfl (pe_call G_law_pairs (hr.mono (by decide)) (by rfl) D_law_pairs.g D_law_pairs.F.kp D_law_pairs.b .nil pass0 (pa_cons (pv 6) pa_nil))) pa_nil)) (pa_cons (pv 7) pa_nil))))))))) (pss_one (ps_ret pe_bl)) pss_nil)
      (pss_cons (ps_if (pt_not (pt_val (pe_call G_law_two (hr.mono (by decide)) (by rfl) D_law_two.g D_law_two.F.kp D_law_two.b .nil pass0 (pa_cons (pv 2) (pa_cons (pv 7) (pa_cons (pe_callTy (call_dictPK (K := K) rfl rfl) (by rfl) m_dict (by decide +kernel) (pa_cons (pe_revLK (K := K) rfl (pe_call G_law_pairs (hr.mono (by decide)) (by rfl) D_law_pairs.g D_law_pairs.F.kp D_law_pairs.b .nil pass0 (pa_cons (pv 6) pa_nil))) pa_nil)) pa_nil)))))) (pss_one (ps_ret pe_bl)) pss_nil)
      (pss_one (ps_set (i := 4) sc_law.nd rfl (Or.inl rfl) (pe_op op_cat (pe_op op_cat (pv 4) (pe_lst (pa_cons (pv 6) (pa_cons (pv 7) pa_nil)))) (pe_slice (sl_listK (K := K) rfl) (pe_lst (pa_cons (pv 6) pa_nil)) po_none (po_some (pe_call G_law_draw (hr.mono (by decide)) (by rfl) D_law_draw.g D_law_draw.F.kp D_law_draw.b .nil pass0 (pa_cons (pv 2) (pa_cons pe_int pa_nil)))))))))))))
      (pss_cons (ps_setLc (i := 8) (own := [("_law_known", 10)]) (g := gName 10) (tt := tYes) rfl sc_law.nd rfl rfl (sw_true rfl rfl rfl (by decide +kernel)) (pi_listK (K := K) rfl (pv 4)) (blkOk_by (N := n_law) (sc := defScope s_law) (by decide +kernel)) (fun _ _ _ _ _ => pg_name (i := 10) sc_law.nd rfl (Or.inl rfl)) (fun _ _ _ _ _ => pts_nil) (fun _ _ _ _ _ => (pe_call G_law_pairs (hr.mono (by decide)) (by rfl) D_law_pairs.g D_law_pairs.F.kp D_law_pairs.b .nil pass0 (pa_cons (pv 10) pa_nil))))
      (pss_cons (ps_set (i := 9) sc_law.nd rfl (Or.inl rfl) (pe_call GFin_order (hr.mono (by decide)) (by rfl) Din_order.g Din_order.F.kp Din_order.b .nil pass0 (pa_cons (pv 4) pa_nil)))
      (pss_cons (ps_if (PW.pt (pw_or (pt_cmpR (op_neX (K := K) rfl (obEq0 (m := 0)) (hr.mono (by decide))) (pv 9) (pe_call G_law_ordered (hr.mono (by decide)) (by rfl) D_law_ordered.g D_law_ordered.F.kp D_law_ordered.b .nil pass0 (pa_cons (pv 4) pa_nil)) (nomark _)) (pw_or (pt_cmpR (op_neX (K := K) rfl (obEq0 (m := 0)) (hr.mono (by decide))) (pe_call Gin_order (hr.mono (by decide)) (by rfl) Din_order.g Din_order.F.kp Din_order.b .nil pass0 (pa_cons (pe_callTy (call_tuple_ofK (K := K) rfl) (by rfl) m_tuple (by decide +kernel) (pa_cons (pe_revLK (K := K) rfl (pv 4)) pa_nil)) pa_nil)) (pv 9) (nomark _)) (pw_or1 (pt_cmpR (op_neX (K := K) rfl (obEq0 (m := 0)) (hr.mono (by decide))) (pe_call Gin_order (hr.mono (by decide)) (by rfl) Din_order.g Din_order.F.kp Din_order.b .nil pass0 (pa_cons (pe_lst pa_nil) pa_nil)) (pe_lst pa_nil) (nomark _)))))) (pss_one (ps_ret pe_bl)) pss_nil)
      (pss_cons (ps_for PassesOwn.never rfl (pi_listK (K := K) rfl (pv 9)) (pg_name (i := 10) sc_law.nd rfl (Or.inl rfl)) (pss_one (ps_expr (pe_dclear (pv 10)))))
      (pss_cons (ps_if (pt_cmpR (op_neX (K := K) rfl (obEq0 (m := 0)) (hr.mono (by decide))) (pe_lc (own := [("_law_known", 10)]) (g := gName 10) (tt := tYes) rfl sc_law.nd (pi_listK (K := K) rfl (pv 4)) (blkOk_by (N := n_law) (sc := defScope s_law) (by decide +kernel)) (fun _ _ _ _ _ => pg_name (i := 10) sc_law.nd rfl (Or.inl rfl)) (fun _ _ _ _ _ => pts_nil) (fun _ _ _ _ _ => (pe_call G_law_pairs (hr.mono (by decide)) (by rfl) D_law_pairs.g D_law_pairs.F.kp D_law_pairs.b .nil pass0 (pa_cons (pv 10) pa_nil)))) (pv 8) (nomark _)) (pss_one (ps_ret pe_bl)) pss_nil)
      (pss_cons (ps_set (i := 9) sc_law.nd rfl (Or.inl rfl) (pe_call Gin_order (hr.mono (by decide)) (by rfl) Din_order.g Din_order.F.kp Din_order.b .nil pass0 (pa_cons (pv 4) pa_nil)))
      (pss_one (ps_if (PW.pt (pw_or (pt_cmpR (op_neX (K := K) rfl (obEq0 (m := 0)) (hr.mono (by decide))) (pv 9) (pe_call G_law_ordered (hr.mono (by decide)) (by rfl) D_law_ordered.g D_law_ordered.F.kp D_law_ordered.b .nil pass0 (pa_cons (pv 4) pa_nil)) (nomark _)) (pw_or1 (pt_cmpR (op_neX (K := K) rfl (obEq0 (m := 0)) (hr.mono (by decide))) (pe_lc (own := [("_law_known", 10)]) (g := gName 10) rfl sc_law.nd (pi_listK (K := K) rfl (pv 9)) (blkOk_by (N := n_law) (sc := defScope s_law) (by decide +kernel)) (fun _ _ _ _ _ => pg_name (i := 10) sc_law.nd rfl (Or.inl rfl)) (fun _ _ _ _ _ => pts_one (pt_cmpR (op_neX (K := K) rfl (obEq0 (m := 0)) (hr.mono (by decide))) (pe_callTy (call_listD rfl) (by rfl) m_list (by decide +kernel) (pa_cons (pv 10) pa_nil)) (pe_callB (cr_sortedSK (K := K) rfl) (by rfl) m_sorted (by decide +kernel) (pa_cons (pe_callTy (call_listD rfl) (by rfl) m_list (by decide +kernel) (pa_cons (pv 10) pa_nil)) pa_nil)) (nomark _))) (fun _ _ _ _ _ => (pv 10))) (pe_lst pa_nil) (nomark _))))) (pss_one (ps_ret pe_bl)) pss_nil)))))))))))))
      (pss_one (ps_ret (pe_cmpR (op_eqX (K := K) rfl (obEq0 (m := 0)) (hr.mono (by decide))) (pe_call Gin_order (hr.mono (by decide)) (by rfl) Din_order.g Din_order.F.kp Din_order.b .nil pass0 (pa_cons (pe_lst (pa_cons (pe_disp (pps_cons pe_str pe_str (pps_cons pe_str pe_str pps_nil)) (by rfl) (by rfl) (fun z => by cases z) (by decide)) pa_nil)) pa_nil)) (pe_lst (pa_cons (pe_disp (pps_cons pe_str pe_str (pps_cons pe_str pe_str pps_nil)) (by rfl) (by rfl) (fun z => by cases z) (by decide)) pa_nil)) (nomark _))))), ?_⟩
  refine fn_sim h (W := fun cls dd _ H => E cls dd H) (m := 10) ((ss_seq (ss_for (sj_list (SimF.e (sf_op srf_cat (SimE.b (SimF.e (sf_scr so_none (so_some se_int)))) (SimE.b (SimF.e (sf_lst (sl_cons se_int sl_nil))))))) (sg_name 1) (ss_seq (ss_source (se_var 1))
      (ss_seq (ss_asg (se_call0 (sa_src 2 sa_nil)) (sg_name 3))
      (ss_seq (ss_asg (SimF.e (sf_lst sl_nil)) (sg_name 4))
      (ss_seq (ss_for (sj_rng1 (sl_cons se_int sl_nil)) (sg_name 5) (ss_seq (ss_par (i := 6) (j := 7) (sl_cons (se_call0 (sa_src 2 (sa_val (se_var 3) (sa_val se_int sa_nil)))) (sl_cons (se_call0 (sa_src 2 (sa_val (se_var 3) (sa_val se_int sa_nil)))) sl_nil)))
      (ss_seq (ss_if (st_of' (se_op sr_eq (SimE.b (se_call0 (sa_src 2 (sa_val se_int sa_nil)))) (SimE.b se_int))) (ss_asg (se_call0 (sa_val (se_var 7) (sa_val (se_var 6) sa_nil))) (sg_name 7)) ss_next)
      (ss_seq (ss_if (st_or (st_not (st_val (se_call0 (sa_src 2 (sa_val (se_var 6) (sa_val (se_var 7) sa_nil)))))) (st_not (st_val (se_call0 (sa_src 2 (sa_val (SimF.e (sf_cb scf_dictP (SimE.b (SimF.e (sf_rev (SimE.b (se_call0 (sa_val (se_var 6) sa_nil)))))))) (sa_val (se_var 7) sa_nil))))))) (ss_ret se_bl) ss_next)
      (ss_seq (ss_if (st_not (st_val (se_call0 (sa_src 2 (sa_val (se_var 7) (sa_val (SimF.e (sf_cb scf_dictP (SimE.b (SimF.e (sf_rev (SimE.b (se_call0 (sa_val (se_var 6) sa_nil)))))))) sa_nil)))))) (ss_ret se_bl) ss_next)
      (ss_asg (SimF.e (sf_op srf_cat (SimE.b (SimF.e (sf_op srf_cat (SimE.b (se_var 4)) (SimE.b (SimF.e (sf_lst (sl_cons (se_var 6) (sl_cons (se_var 7) sl_nil)))))))) (SimE.b (SimF.e (sf_slL (SimE.b (SimF.e (sf_lst (sl_cons (se_var 6) sl_nil)))) so_none (so_some (se_call0 (sa_src 2 (sa_val se_int sa_nil))))))))) (sg_name 4)))))))
      (ss_seq (ss_asg (SimF.e (sf_lc (si_list (SimE.b (se_var 4))) (sg_name 10) (by decide) st_yes (se_call0 (sa_val (se_var 10) sa_nil)))) (sg_name 8))
      (ss_scratch (i := 9) (j := 10) (sff_call (sa_val (se_var 4) sa_nil)) (st_or (st_of' (se_op sr_eqX (SimE.b (se_var 9)) (SimE.b (se_call0 (sa_val (se_var 4) sa_nil))))) (st_or (st_of' (se_op sr_eqX (SimE.b (se_call0 (sa_val (se_cb sc_tuple (SimE.b (SimF.e (sf_rev (SimE.b (se_var 4)))))) sa_nil))) (SimE.b (se_var 9)))) (st_of' (se_op sr_eqX (SimE.b (se_call0 (sa_val (SimF.e (sf_lst sl_nil)) sa_nil))) (SimE.b (SimF.e (sf_lst sl_nil))))))) (ss_ret se_bl)
      (ss_seq (ss_if (st_of' (se_op sr_eqX (SimE.b (SimF.e (sf_lc (si_list (SimE.b (se_var 4))) (sg_name 10) (by decide) st_yes (se_call0 (sa_val (se_var 10) sa_nil))))) (SimE.b (se_var 8)))) (ss_ret se_bl) ss_next)
      (ss_seq (ss_asg (se_call0 (sa_val (se_var 4) sa_nil)) (sg_name 9))
      (ss_if (st_or (st_of' (se_op sr_eqX (SimE.b (se_var 9)) (SimE.b (se_call0 (sa_val (se_var 4) sa_nil))))) (st_of' (se_op sr_eqX (SimE.b (SimF.e (sf_lc (si_list (SimE.b (se_var 9))) (sg_name 10) (by decide) (st_of' (se_op sr_eqX (SimE.b (SimF.e (sf_cb scf_listD (SimE.b (se_var 10))))) (SimE.b (SimF.e (sf_cb scf_sortS (SimE.b (SimF.e (sf_cb scf_listD (SimE.b (se_var 10)))))))))) (se_var 10)))) (SimE.b (SimF.e (sf_lst sl_nil)))))) (ss_ret se_bl) ss_next))))))))))
      (ss_ret (se_op sr_eqX (SimE.b (se_call0 (sa_val (SimF.e (sf_lst (sl_cons (SimF.e sf_disp2) sl_nil))) sa_nil))) (SimE.b (SimF.e (sf_lst (sl_cons (SimF.e sf_disp2) sl_nil)))))))) (fun _ _ _ _ z => z) (by rw [hl]; rfl) fun args n q x hp _ => ?_
  obtain ⟨ns, rfl, hb, hln, hq⟩ := hp
  simp only [pSource, pScr, pScratch, pSeq, pIfS, pOr, pAnd, pNot, pTst, pYes, pUn, pVar, pVarB, pC, pRet, pRetN, pRetB, pNext, pChain, pOp, pAndV, pOrV, pNotV, pIf, pSl, pPart, pNoPart, pNil, pCons, pStar, pLst, pTup, pLc, pItL, pItT, pItS, pRng1, pRng2, pAsg, pAsgF, pDrop, pApp, pExt, pFor, pAug, pPar, pFreeze, pgN, pgTup, pgLst, pgCons, pgNil, pMS, pJoined, pJs, paNil, paVal, paSrc, pCall0, pCall, pSortSg, elP, gI, gI0, gNeg, gAddS, gSS, gSg, gCat, gCatT, gIsN, isNo, gIxL, gIxT, gIxS, gSlL, gSlT, gSlS, gLen, gLenS, gInt, gStrI, gStrS, gAll, gAny, gList, gTuple, gIsi, gJoin, gFind, gSplit, gPart, gFmt, gSortS, gSortLP, gSortSet, gRev, gRepT, gRepS, itemsD, isS, wipeP, List.map_cons, List.map_nil, List.set_cons_zero, List.set_cons_succ, List.getElem?_cons_zero, List.getElem?_cons_succ, List.cons_append, List.nil_append, List.replicate_succ, List.replicate_zero, Bool.false_eq_true, Bool.not_true, Bool.not_false, if_true, if_false, Option.some.injEq, exists_eq_left', true_and, and_true, exists_and_left, exists_eq_left, V.str.injEq, V.int.injEq, isiD, tyD, isiT, tysOk, beq_self_eq_true, Bool.true_or, Bool.or_true, List.mem_cons, true_or, or_true, Option.isSome_some, id_eq, gEq, flD, scal, gLtT, pGet1, pGet2, pDPut, gDGet, gDIn, gSortD, gDictD, gListD, gDictP, isDic, dKey, pMakeQ, pMake0, pCallN, pickL, List.filterMap_cons, List.filterMap_nil, pLc2, pItQ, pWhile]
  have lc := cells_len hln 4
  have hint := cells_int hb 4
  refine ⟨by simp, by simp only [List.length_cons, List.length_nil]; omega, ?_⟩
  generalize cutD (ns.map D.int) none (some 4) ++ [D.int 0] = cells at hint
  refine loopP_inv (fun i ρ n' => ∃ y1 y2 y3 y4 y5 y6 y7 y8 y9 ya, ρ = [.scr ns, y1, y2, y3, y4, y5, y6, y7, y8, y9, ya] ∧ y1 ≠ .src ∧ y3 ≠ .src ∧ y4 ≠ .src ∧ y5 ≠ .src ∧ y6 ≠ .src ∧ y7 ≠ .src ∧ y8 ≠ .src ∧ y9 ≠ .src ∧ ya ≠ .src) ⟨_, _, _, _, _, _, _, _, _, _, rfl, by simp⟩ ?_ ?_
  · rintro i d ρ n' k hd ⟨y1, y2, y3, y4, y5, y6, y7, y8, y9, ya, rfl, z1, z3, z4, z5, z6, z7, z8, z9, za⟩ hk
    obtain ⟨c, rfl, hc⟩ := hint d (List.mem_of_getElem? hd)
    simp only [pSource, pScratch, pSeq, pIfS, pOr, pAnd, pNot, pTst, pYes, pUn, pVar, pVarB, pC, pRet, pRetN, pRetB, pNext, pChain, pOp, pAndV, pOrV, pNotV, pIf, pSl, pPart, pNoPart, pNil, pCons, pStar, pLst, pTup, pLc, pItL, pItT, pItS, pRng1, pRng2, pAsg, pAsgF, pDrop, pApp, pExt, pFor, pAug, pPar, pFreeze, pgN, pgTup, pgLst, pgCons, pgNil, pMS, pJoined, pJs, paNil, paVal, paSrc, pCall0, pCall, pSortSg, elP, gI, gI0, gNeg, gAddS, gSS, gSg, gCat, gCatT, gIsN, isNo, gIxL, gIxT, gIxS, gSlL, gSlT, gSlS, gLen, gLenS, gInt, gStrI, gStrS, gAll, gAny, gList, gTuple, gIsi, gJoin, gFind, gSplit, gPart, gFmt, gSortS, gSortLP, gSortSet, gRev, gRepT, gRepS, itemsD, isS, wipeP, List.map_cons, List.map_nil, List.set_cons_zero, List.set_cons_succ, List.getElem?_cons_zero, List.getElem?_cons_succ, List.cons_append, List.nil_append, List.replicate_succ, List.replicate_zero, Bool.false_eq_true, Bool.not_true, Bool.not_false, if_true, if_false, Option.some.injEq, exists_eq_left', true_and, and_true, exists_and_left, exists_eq_left, V.str.injEq, V.int.injEq, isiD, tyD, isiT, tysOk, beq_self_eq_true, Bool.true_or, Bool.or_true, List.mem_cons, true_or, or_true, Option.isSome_some, id_eq, gEq, flD, scal, gLtT, pGet1, pGet2, pDPut, gDGet, gDIn, gSortD, gDictD, gListD, gDictP, isDic, dKey, pMakeQ, pMake0, pCallN, pickL, List.filterMap_cons, List.filterMap_nil, pLc2, pItQ, pWhile]
    refine ⟨hc, ⟨0, ns, rfl⟩, fun j hj => ?_, ?_⟩
    · match j, hj with
      | 0, _ => simp
      | 1, _ => simp
      | 3, _ => simpa using z3
      | 4, _ => simpa using z4
      | 5, _ => simpa using z5
      | 6, _ => simpa using z6
      | 7, _ => simpa using z7
      | 8, _ => simpa using z8
      | 9, _ => simpa using z9
      | 10, _ => simpa using za
      | j + 11, _ => simp
    refine pool_go (by omega) fun rs cs xs n1 po hn1 => ?_
    refine ⟨by simp, by omega, by omega, ?_⟩
    refine loopP_inv (fun i ρ n' => n' ≤ 1000 + 200 * i ∧ ∃ ms y1 y5 y6 y7 y8 y9 ya, ρ = [.scr ns, y1, .src, .val (poolD rs cs xs), .val (.lst (ms.map dicS)), y5, y6, y7, y8, y9, ya] ∧ ms.length ≤ 3 * i ∧ (∀ m ∈ ms, MapL m 10) ∧ y1 ≠ .src ∧ y5 ≠ .src ∧ y6 ≠ .src ∧ y7 ≠ .src ∧ y8 ≠ .src ∧ y9 ≠ .src ∧ ya ≠ .src) ⟨by omega, [], _, _, _, _, _, _, _, rfl, Nat.le_refl _, (fun _ z => by cases z), by simp, z5, z6, z7, z8, z9, za⟩ ?_ ?_
    · rintro i d ρ n2 k hd ⟨hn2, ms, y1, y5, y6, y7, y8, y9, ya, rfl, ml, hms, z1, z5, z6, z7, z8, z9, za⟩ hk
      obtain ⟨hi, rfl⟩ := rng_at hd
      have hi : i < 4 := by simpa using hi
      simp only [pSeq, pIfS, pOr, pAnd, pNot, pTst, pYes, pUn, pVar, pVarB, pC, pRet, pRetN, pRetB, pNext, pChain, pOp, pAndV, pOrV, pNotV, pIf, pSl, pPart, pNoPart, pNil, pCons, pStar, pLst, pTup, pLc, pItL, pItT, pItS, pRng1, pRng2, pAsg, pAsgF, pDrop, pApp, pExt, pFor, pAug, pPar, pFreeze, pgN, pgTup, pgLst, pgCons, pgNil, pMS, pJoined, pJs, paNil, paVal, paSrc, pCall0, pCall, pSortSg, elP, gI, gI0, gNeg, gAddS, gSS, gSg, gCat, gCatT, gIsN, isNo, gIxL, gIxT, gIxS, gSlL, gSlT, gSlS, gLen, gLenS, gInt, gStrI, gStrS, gAll, gAny, gList, gTuple, gIsi, gJoin, gFind, gSplit, gPart, gFmt, gSortS, gSortLP, gSortSet, gRev, gRepT, gRepS, itemsD, isS, wipeP, List.map_cons, List.map_nil, List.set_cons_zero, List.set_cons_succ, List.getElem?_cons_zero, List.getElem?_cons_succ, List.cons_append, List.nil_append, List.replicate_succ, List.replicate_zero, Bool.false_eq_true, Bool.not_true, Bool.not_false, if_true, if_false, Option.some.injEq, exists_eq_left', true_and, and_true, exists_and_left, exists_eq_left, V.str.injEq, V.int.injEq, isiD, tyD, isiT, tysOk, beq_self_eq_true, Bool.true_or, Bool.or_true, List.mem_cons, true_or, or_true, Option.isSome_some, id_eq, gEq, flD, scal, gLtT, pGet1, pGet2, pDPut, gDGet, gDIn, gSortD, gDictD, gListD, gDictP, isDic, dKey, pMakeQ, pMake0, pCallN, pickL, List.filterMap_cons, List.filterMap_nil, pLc2, pItQ, pWhile]
      refine mapL_go po.toPoolW (by omega) fun m1 n3 h1 hn3 => ?_
      refine mapL_go po.toPoolW (by omega) fun m2 n4 h2 hn4 => ?_
      have h1' := h1.up (show 5 ≤ 10 by decide)
      have h2' := h2.up (show 5 ≤ 10 by decide)
      have o1 := h1.ok (by decide)
      have hrev : prsD ((prS m1).map tupD).reverse = some ((ordS m1).reverse.map dicE) := by
        have er : ((prS m1).map tupD).reverse = (((ordS m1).reverse).map p2L).map tupD := by
          unfold prS
          rw [← List.map_reverse, ← List.map_reverse]
        rw [er, prs_prS]
      have hmg := mergeD_nil h1'.rev.nd
      have l1 := h1.len
      have hjo := (h2.merg h1.sok).ord.up (show 5 + m1.length ≤ 10 by omega)
      refine draw_go (by omega) (by decide) (by decide) fun a ha => ⟨_, rfl, rfl, ?_⟩
      split
      · refine joined_go (h2.up (by decide)) (h1.up (by decide)) ?_
        refine two_go h1' hjo (by omega) fun n6 hn6 => if_no rfl ?_
        refine pairs_go o1 ⟨_, hrev, ?_⟩
        rw [hmg]
        refine two_go h1'.rev hjo (by omega) fun n7 hn7 => if_no rfl ?_
        refine pairs_go o1 ⟨_, hrev, ?_⟩
        rw [hmg]
        refine two_go hjo h1'.rev (by omega) fun n8 hn8 => if_no rfl ?_
        refine ⟨by simp, by simp; omega, by simp, draw_go (by omega) (by decide) (by decide) fun j hj => ?_⟩
        dsimp only
        have nw : ∀ m ∈ ms ++ [m1, ordS (mergS m2 m1)] ++ [m1], MapL m 10 := fun m hm => by
          rcases List.mem_append.mp hm with hm | hm
          · rcases List.mem_append.mp hm with hm | hm
            · exact hms m hm
            · rcases List.mem_cons.mp hm with rfl | hm
              · exact h1'
              · rw [List.mem_singleton.mp hm]
                exact hjo
          · rw [List.mem_singleton.mp hm]
            exact h1'
        obtain rfl | rfl : j = 0 ∨ j = 1 := by omega
        · have ec : ms.map dicS ++ [dicS m1, dicS (ordS (mergS m2 m1))] ++ cutD [dicS m1] none (some ((0 : Nat) : Int)) = (ms ++ [m1, ordS (mergS m2 m1)]).map dicS := by
            have : cutD [dicS m1] none (some ((0 : Nat) : Int)) = [] := rfl
            rw [this]
            simp
          have el : (cutD [dicS m1] none (some ((0 : Nat) : Int))).length = 0 := rfl
          rw [ec, el]
          refine ⟨by simp; omega, hk _ _ ⟨by omega, ms ++ [m1, ordS (mergS m2 m1)], _, _, _, _, _, _, _, rfl, by simp; omega, fun m hm => nw m (List.mem_append_left _ hm), z1, by simp, by simp, by simp, z8, z9, za⟩⟩
        · have ec : ms.map dicS ++ [dicS m1, dicS (ordS (mergS m2 m1))] ++ cutD [dicS m1] none (some ((1 : Nat) : Int)) = (ms ++ [m1, ordS (mergS m2 m1)] ++ [m1]).map dicS := by
            have : cutD [dicS m1] none (some ((1 : Nat) : Int)) = [dicS m1] := rfl
            rw [this]
            simp
          have el : (cutD [dicS m1] none (some ((1 : Nat) : Int))).length = 1 := rfl
          rw [ec, el]
          refine ⟨by simp; omega, hk _ _ ⟨by omega, ms ++ [m1, ordS (mergS m2 m1)] ++ [m1], _, _, _, _, _, _, _, rfl, by simp; omega, nw, z1, by simp, by simp, by simp, z8, z9, za⟩⟩
      · skip
        refine two_go h1' h2' (by omega) fun n6 hn6 => if_no rfl ?_
        refine pairs_go o1 ⟨_, hrev, ?_⟩
        rw [hmg]
        refine two_go h1'.rev h2' (by omega) fun n7 hn7 => if_no rfl ?_
        refine pairs_go o1 ⟨_, hrev, ?_⟩
        rw [hmg]
        refine two_go h2' h1'.rev (by omega) fun n8 hn8 => if_no rfl ?_
        refine ⟨by simp, by simp; omega, by simp, draw_go (by omega) (by decide) (by decide) fun j hj => ?_⟩
        dsimp only
        have nw : ∀ m ∈ ms ++ [m1, m2] ++ [m1], MapL m 10 := fun m hm => by
          rcases List.mem_append.mp hm with hm | hm
          · rcases List.mem_append.mp hm with hm | hm
            · exact hms m hm
            · rcases List.mem_cons.mp hm with rfl | hm
              · exact h1'
              · rw [List.mem_singleton.mp hm]
                exact h2'
          · rw [List.mem_singleton.mp hm]
            exact h1'
        obtain rfl | rfl : j = 0 ∨ j = 1 := by omega
        · have ec : ms.map dicS ++ [dicS m1, dicS (m2)] ++ cutD [dicS m1] none (some ((0 : Nat) : Int)) = (ms ++ [m1, m2]).map dicS := by
            have : cutD [dicS m1] none (some ((0 : Nat) : Int)) = [] := rfl
            rw [this]
            simp
          have el : (cutD [dicS m1] none (some ((0 : Nat) : Int))).length = 0 := rfl
          rw [ec, el]
          refine ⟨by simp; omega, hk _ _ ⟨by omega, ms ++ [m1, m2], _, _, _, _, _, _, _, rfl, by simp; omega, fun m hm => nw m (List.mem_append_left _ hm), z1, by simp, by simp, by simp, z8, z9, za⟩⟩
        · have ec : ms.map dicS ++ [dicS m1, dicS (m2)] ++ cutD [dicS m1] none (some ((1 : Nat) : Int)) = (ms ++ [m1, m2] ++ [m1]).map dicS := by
            have : cutD [dicS m1] none (some ((1 : Nat) : Int)) = [dicS m1] := rfl
            rw [this]
            simp
          have el : (cutD [dicS m1] none (some ((1 : Nat) : Int))).length = 1 := rfl
          rw [ec, el]
          refine ⟨by simp; omega, hk _ _ ⟨by omega, ms ++ [m1, m2] ++ [m1], _, _, _, _, _, _, _, rfl, by simp; omega, nw, z1, by simp, by simp, by simp, z8, z9, za⟩⟩
    · rintro ρ n2 ⟨hn2, ms, y1, y5, y6, y7, y8, y9, ya, rfl, ml, hms, z1, z5, z6, z7, z8, z9, za⟩
      have e4 : (rngD 0 (Int.toNat 4)).length = 4 := rfl
      rw [e4] at ml hn2
      have oms : ∀ m ∈ ms, MapOk m := fun m hm => (hms m hm).ok (by decide)
      have ind : ∀ m ∈ inOrd ms, (m.map Prod.fst).Nodup := fun m hm => by
        obtain ⟨m', h', rfl⟩ := inOrd_each hm
        exact (oms m' h').ord.nd
      obtain ⟨pp, pd⟩ := pls_pairs oms
      have kp : plD (.lst (ms.map fun m => .lst ((prS m).map tupD))) = true := by simpa [plD] using pp
      have kd : dpD (.lst (ms.map fun m => .lst ((prS m).map tupD))) ≤ 50 := by simp only [dpD]; omega
      simp only [pSeq, pIfS, pOr, pAnd, pNot, pTst, pYes, pUn, pVar, pVarB, pC, pRet, pRetN, pRetB, pNext, pChain, pOp, pAndV, pOrV, pNotV, pIf, pSl, pPart, pNoPart, pNil, pCons, pStar, pLst, pTup, pLc, pItL, pItT, pItS, pRng1, pRng2, pAsg, pAsgF, pDrop, pApp, pExt, pFor, pAug, pPar, pFreeze, pgN, pgTup, pgLst, pgCons, pgNil, pMS, pJoined, pJs, paNil, paVal, paSrc, pCall0, pCall, pSortSg, elP, gI, gI0, gNeg, gAddS, gSS, gSg, gCat, gCatT, gIsN, isNo, gIxL, gIxT, gIxS, gSlL, gSlT, gSlS, gLen, gLenS, gInt, gStrI, gStrS, gAll, gAny, gList, gTuple, gIsi, gJoin, gFind, gSplit, gPart, gFmt, gSortS, gSortLP, gSortSet, gRev, gRepT, gRepS, itemsD, isS, wipeP, List.map_cons, List.map_nil, List.set_cons_zero, List.set_cons_succ, List.getElem?_cons_zero, List.getElem?_cons_succ, List.cons_append, List.nil_append, List.replicate_succ, List.replicate_zero, Bool.false_eq_true, Bool.not_true, Bool.not_false, if_true, if_false, Option.some.injEq, exists_eq_left', true_and, and_true, exists_and_left, exists_eq_left, V.str.injEq, V.int.injEq, isiD, tyD, isiT, tysOk, beq_self_eq_true, Bool.true_or, Bool.or_true, List.mem_cons, true_or, or_true, Option.isSome_some, id_eq, gEq, flD, scal, gLtT, pGet1, pGet2, pDPut, gDGet, gDIn, gSortD, gDictD, gListD, gDictP, isDic, dKey, pMakeQ, pMake0, pCallN, pickL, List.filterMap_cons, List.filterMap_nil, pLc2, pItQ, pWhile]
      refine ⟨by rw [List.length_map]; omega, ?_⟩
      refine colP_map (g := fun m => .lst ((prS m).map tupD)) (fun m hmm k hk => ?_) ?_
      · simp only [pSeq, pIfS, pOr, pAnd, pNot, pTst, pYes, pUn, pVar, pVarB, pC, pRet, pRetN, pRetB, pNext, pChain, pOp, pAndV, pOrV, pNotV, pIf, pSl, pPart, pNoPart, pNil, pCons, pStar, pLst, pTup, pLc, pItL, pItT, pItS, pRng1, pRng2, pAsg, pAsgF, pDrop, pApp, pExt, pFor, pAug, pPar, pFreeze, pgN, pgTup, pgLst, pgCons, pgNil, pMS, pJoined, pJs, paNil, paVal, paSrc, pCall0, pCall, pSortSg, elP, gI, gI0, gNeg, gAddS, gSS, gSg, gCat, gCatT, gIsN, isNo, gIxL, gIxT, gIxS, gSlL, gSlT, gSlS, gLen, gLenS, gInt, gStrI, gStrS, gAll, gAny, gList, gTuple, gIsi, gJoin, gFind, gSplit, gPart, gFmt, gSortS, gSortLP, gSortSet, gRev, gRepT, gRepS, itemsD, isS, wipeP, List.map_cons, List.map_nil, List.set_cons_zero, List.set_cons_succ, List.getElem?_cons_zero, List.getElem?_cons_succ, List.cons_append, List.nil_append, List.replicate_succ, List.replicate_zero, Bool.false_eq_true, Bool.not_true, Bool.not_false, if_true, if_false, Option.some.injEq, exists_eq_left', true_and, and_true, exists_and_left, exists_eq_left, V.str.injEq, V.int.injEq, isiD, tyD, isiT, tysOk, beq_self_eq_true, Bool.true_or, Bool.or_true, List.mem_cons, true_or, or_true, Option.isSome_some, id_eq, gEq, flD, scal, gLtT, pGet1, pGet2, pDPut, gDGet, gDIn, gSortD, gDictD, gListD, gDictP, isDic, dKey, pMakeQ, pMake0, pCallN, pickL, List.filterMap_cons, List.filterMap_nil, pLc2, pItQ, pWhile]
        exact pairs_go (oms m hmm) hk
      refine ⟨by simp, by simp, by decide, inOrder_go rfl oms (by omega) ?_⟩
      refine ordL_go oms (by omega) (eqX_go 2 (by decide) (cmp_dics ind) (if_no rfl ?_))
      refine inOrder_go (ms := ms.reverse) (by rw [← List.map_reverse]; rfl) (fun m hm => oms m (List.mem_reverse.mp hm)) (by rw [List.length_reverse]; omega) ?_
      rw [inOrd_rev]
      refine eqX_go 2 (by decide) (cmp_dics ind) (if_no rfl ?_)
      refine ⟨by simp, inOrder_go (ms := []) rfl (fun _ z => by cases z) (by simp) ?_⟩
      rw [inOrd_nil]
      refine ⟨by simp, eqX_go 1 (by decide) (cmp_self rfl (by decide)) (if_no rfl ?_)⟩
      refine ⟨by rw [List.length_map]; omega, ?_⟩
      refine colP_map (g := fun m => .lst ((prS m).map tupD)) (fun m hmm k hk => ?_) ?_
      · simp only [pSeq, pIfS, pOr, pAnd, pNot, pTst, pYes, pUn, pVar, pVarB, pC, pRet, pRetN, pRetB, pNext, pChain, pOp, pAndV, pOrV, pNotV, pIf, pSl, pPart, pNoPart, pNil, pCons, pStar, pLst, pTup, pLc, pItL, pItT, pItS, pRng1, pRng2, pAsg, pAsgF, pDrop, pApp, pExt, pFor, pAug, pPar, pFreeze, pgN, pgTup, pgLst, pgCons, pgNil, pMS, pJoined, pJs, paNil, paVal, paSrc, pCall0, pCall, pSortSg, elP, gI, gI0, gNeg, gAddS, gSS, gSg, gCat, gCatT, gIsN, isNo, gIxL, gIxT, gIxS, gSlL, gSlT, gSlS, gLen, gLenS, gInt, gStrI, gStrS, gAll, gAny, gList, gTuple, gIsi, gJoin, gFind, gSplit, gPart, gFmt, gSortS, gSortLP, gSortSet, gRev, gRepT, gRepS, itemsD, isS, wipeP, List.map_cons, List.map_nil, List.set_cons_zero, List.set_cons_succ, List.getElem?_cons_zero, List.getElem?_cons_succ, List.cons_append, List.nil_append, List.replicate_succ, List.replicate_zero, Bool.false_eq_true, Bool.not_true, Bool.not_false, if_true, if_false, Option.some.injEq, exists_eq_left', true_and, and_true, exists_and_left, exists_eq_left, V.str.injEq, V.int.injEq, isiD, tyD, isiT, tysOk, beq_self_eq_true, Bool.true_or, Bool.or_true, List.mem_cons, true_or, or_true, Option.isSome_some, id_eq, gEq, flD, scal, gLtT, pGet1, pGet2, pDPut, gDGet, gDIn, gSortD, gDictD, gListD, gDictP, isDic, dKey, pMakeQ, pMake0, pCallN, pickL, List.filterMap_cons, List.filterMap_nil, pLc2, pItQ, pWhile]
        exact pairs_go (oms m hmm) hk
      refine eqX_go 1 (by decide) (cmp_self kp kd) (if_no rfl ?_)
      refine inOrder_go rfl oms (by omega) ?_
      refine ordL_go oms (by omega) (eqX_go 2 (by decide) (cmp_dics ind) (if_no rfl ?_))
      have iol := inOrd_len ms
      refine ⟨by rw [List.length_map]; omega, ?_⟩
      refine colP_filter (g := dicS) (b := fun _ => false) (fun m hm k hk => ?_) ?_
      · obtain ⟨m', h', rfl⟩ := inOrd_each hm
        have om := oms m' h'
        simp only [dicS, keys_dicS, pSeq, pIfS, pOr, pAnd, pNot, pTst, pYes, pUn, pVar, pVarB, pC, pRet, pRetN, pRetB, pNext, pChain, pOp, pAndV, pOrV, pNotV, pIf, pSl, pPart, pNoPart, pNil, pCons, pStar, pLst, pTup, pLc, pItL, pItT, pItS, pRng1, pRng2, pAsg, pAsgF, pDrop, pApp, pExt, pFor, pAug, pPar, pFreeze, pgN, pgTup, pgLst, pgCons, pgNil, pMS, pJoined, pJs, paNil, paVal, paSrc, pCall0, pCall, pSortSg, elP, gI, gI0, gNeg, gAddS, gSS, gSg, gCat, gCatT, gIsN, isNo, gIxL, gIxT, gIxS, gSlL, gSlT, gSlS, gLen, gLenS, gInt, gStrI, gStrS, gAll, gAny, gList, gTuple, gIsi, gJoin, gFind, gSplit, gPart, gFmt, gSortS, gSortLP, gSortSet, gRev, gRepT, gRepS, itemsD, isS, wipeP, List.map_cons, List.map_nil, List.set_cons_zero, List.set_cons_succ, List.getElem?_cons_zero, List.getElem?_cons_succ, List.cons_append, List.nil_append, List.replicate_succ, List.replicate_zero, Bool.false_eq_true, Bool.not_true, Bool.not_false, if_true, if_false, Option.some.injEq, exists_eq_left', true_and, and_true, exists_and_left, exists_eq_left, V.str.injEq, V.int.injEq, isiD, tyD, isiT, tysOk, beq_self_eq_true, Bool.true_or, Bool.or_true, List.mem_cons, true_or, or_true, Option.isSome_some, id_eq, gEq, flD, scal, gLtT, pGet1, pGet2, pDPut, gDGet, gDIn, gSortD, gDictD, gListD, gDictP, isDic, dKey, pMakeQ, pMake0, pCallN, pickL, List.filterMap_cons, List.filterMap_nil, pLc2, pItQ, pWhile]
        refine ⟨_, strsD_map _, by rw [List.length_map, ordS_len]; have := om.len; omega, ?_⟩
        rw [ordS_keys, srtS_idem]
        have sk : ∀ z ∈ srtS (m'.map Prod.fst), SOk z := fun z hz => by
          obtain ⟨p, hp, rfl⟩ := List.mem_map.mp ((srtS_perm _).mem_iff.mp hz)
          exact (om.sok p hp).1
        refine eqX_go 1 (by decide) (cmp_strs sk sk) ?_
        rw [decide_eq_true rfl]
        exact hk
      have ef : ((inOrd ms).filter fun _ => false).map dicS = [] := by simp
      rw [ef]
      refine ⟨by simp, eqX_go 1 (by decide) (cmp_self rfl (by decide)) (if_no rfl ?_)⟩
      exact hk _ _ ⟨_, _, _, _, _, _, _, _, _, _, rfl, z1, by simp, by simp, z5, z6, z7, by simp, by simp, by simp⟩
  · rintro ρ n2 ⟨y1, y2, y3, y4, y5, y6, y7, y8, y9, ya, rfl, z1, z3, z4, z5, z6, z7, z8, z9, za⟩
    simp only [pSeq, pIfS, pOr, pAnd, pNot, pTst, pYes, pUn, pVar, pVarB, pC, pRet, pRetN, pRetB, pNext, pChain, pOp, pAndV, pOrV, pNotV, pIf, pSl, pPart, pNoPart, pNil, pCons, pStar, pLst, pTup, pLc, pItL, pItT, pItS, pRng1, pRng2, pAsg, pAsgF, pDrop, pApp, pExt, pFor, pAug, pPar, pFreeze, pgN, pgTup, pgLst, pgCons, pgNil, pMS, pJoined, pJs, paNil, paVal, paSrc, pCall0, pCall, pSortSg, elP, gI, gI0, gNeg, gAddS, gSS, gSg, gCat, gCatT, gIsN, isNo, gIxL, gIxT, gIxS, gSlL, gSlT, gSlS, gLen, gLenS, gInt, gStrI, gStrS, gAll, gAny, gList, gTuple, gIsi, gJoin, gFind, gSplit, gPart, gFmt, gSortS, gSortLP, gSortSet, gRev, gRepT, gRepS, itemsD, isS, wipeP, List.map_cons, List.map_nil, List.set_cons_zero, List.set_cons_succ, List.getElem?_cons_zero, List.getElem?_cons_succ, List.cons_append, List.nil_append, List.replicate_succ, List.replicate_zero, Bool.false_eq_true, Bool.not_true, Bool.not_false, if_true, if_false, Option.some.injEq, exists_eq_left', true_and, and_true, exists_and_left, exists_eq_left, V.str.injEq, V.int.injEq, isiD, tyD, isiT, tysOk, beq_self_eq_true, Bool.true_or, Bool.or_true, List.mem_cons, true_or, or_true, Option.isSome_some, id_eq, gEq, flD, scal, gLtT, pGet1, pGet2, pDPut, gDGet, gDIn, gSortD, gDictD, gListD, gDictP, isDic, dKey, pMakeQ, pMake0, pCallN, pickL, List.filterMap_cons, List.filterMap_nil, pLc2, pItQ, pWhile]
    have e1 : mergS [] [(Str.ofString "?y", Str.ofString "a"), (Str.ofString "?x", Str.ofString "b")] = [(Str.ofString "?y", Str.ofString "a"), (Str.ofString "?x", Str.ofString "b")] := by decide +kernel
    have e2 : mergS [] [(Str.ofString "?x", Str.ofString "b"), (Str.ofString "?y", Str.ofString "a")] = [(Str.ofString "?x", Str.ofString "b"), (Str.ofString "?y", Str.ofString "a")] := by decide +kernel
    have e3 : srtS [Str.ofString "?y", Str.ofString "?x"] = [Str.ofString "?x", Str.ofString "?y"] := (srtS_eq (List.Perm.swap ..) (by decide +kernel)).symm
    have e4 : ordS [(Str.ofString "?y", Str.ofString "a"), (Str.ofString "?x", Str.ofString "b")] = [(Str.ofString "?x", Str.ofString "b"), (Str.ofString "?y", Str.ofString "a")] := by
      unfold ordS
      rw [List.map_cons, List.map_cons, List.map_nil, e3]
      decide +kernel
    rw [e1, e2]
    have sk : ∀ p ∈ [(Str.ofString "?y", Str.ofString "a"), (Str.ofString "?x", Str.ofString "b")], (∀ c ∈ p.1.cps.toList, c < 128) ∧ (∀ c ∈ p.2.cps.toList, c < 128) := by decide +kernel
    have ok : MapOk [(Str.ofString "?y", Str.ofString "a"), (Str.ofString "?x", Str.ofString "b")] := ⟨by decide +kernel, by decide, fun p hp => ⟨sok_of (sk p hp).1, sok_of (sk p hp).2⟩⟩
    refine ⟨by simp, inOrder_go (ms := [[(Str.ofString "?y", Str.ofString "a"), (Str.ofString "?x", Str.ofString "b")]]) rfl (fun m hm => by rw [List.mem_singleton.mp hm]; exact ok) (by simp) ?_⟩
    rw [inOrd_one, e4]
    refine ⟨by simp, ?_⟩
    refine eqX_go 2 (by decide) (cmp_dics (ms := [[(Str.ofString "?x", Str.ofString "b"), (Str.ofString "?y", Str.ofString "a")]]) fun m hm => ?_) (hq _)
    rw [List.mem_singleton.mp hm]
    decide +kernel
end
end G39

namespace G39
open PySem PySem.Spec PyProof.Rows L2 Evl
theorem exm_ref' {K : PySem.W.Frag} {C : Addr} {cls : Value} {b : Bool} (h1 : PySem.W.subIn K (.ref C) (.type "BaseException") = some true) (hd : PySem.W.hasDictIn K C = true) (ht : PySem.W.typeIn K (.ref C) = some (.type "type")) (h4 : PySem.W.subIn K cls (.ref C) = some b) : PySem.W.exmOne K cls (.ref C) = some b := by
  have hc : (PySem.W.clsIn K C).isSome = true := by
    unfold PySem.W.hasDictIn at hd
    cases h : PySem.W.clsIn K C with
    | none => rw [h] at hd; cases hd
    | some _ => rfl
  unfold PySem.W.exmOne
  rw [if_pos (by rw [h1]; rfl)]
  show (if ((PySem.W.clsIn K C).isSome && PySem.W.typeIn K (.ref C) == some (.type "type")) = true then PySem.W.subIn K cls (.ref C) else none) = _
  rw [if_pos (by rw [hc, ht]; simp)]
  exact h4
theorem mem2 {Pf : Str → Prop} {a b : Str} (h1 : Pf a) (h2 : Pf b) : ∀ f ∈ [a, b], Pf f := fun f hf => by
  rcases List.mem_cons.mp hf with e | e
  · rw [e]
    exact h1
  · rw [List.mem_singleton.mp e]
    exact h2
theorem mkD {K : PySem.W.Frag} {h : Heap} {mg : Str → Option Value} {x : Str} {ps : List Str} {st : Stmt} {f : Addr} {oc kV dc pm cd ct : Value} {od an : Option Addr} {sl : Array (Option Value)} (KX : K.In h) (G : h.Ns mainGlobals mg) (a : PySem.W.nsIn K mainGlobals x = some (some (.ref f)))
    (l : K.lookup f = some ⟨oc, od, .func (PySem.W.fnOf x x (defArgs st) (defBody st) (defScope st) .none kV dc pm an cd ct), sl⟩) (c : PySem.W.codeIn K cd x = true) (k : PySem.W.keepIn K (.ref f) = true)
    (hb : ∀ (kV doc pm : Value) (an : Option Addr) (cdv ct : Value) (us : List Value), us.length = ps.length → bindArgs (PySem.W.fnOf x x (defArgs st) (defBody st) (defScope st) .none kV doc pm an cdv ct) ⟨us, []⟩ = pure (ps.zip us)) :
    DefAt K mg x st ps f (PySem.W.fnOf x x (defArgs st) (defBody st) (defScope st) .none kV dc pm an cd ct) := by
  have F := fun_mk (st := st) l c k
  exact ⟨PySem.W.mg_of KX G a, F, F.binds hb⟩
theorem all_mk {l : PySem.W.OpenLaw} {w : World} {K : PySem.W.Frag} {h : Heap} {mg : Str → Option Value} {fa : Addr} (KX : K.In h) (G : h.Ns mainGlobals mg) (hfa : mg "law" = some (.ref fa))
    {fpairs_of : Addr} {ocpairs_of kVpairs_of dcpairs_of pmpairs_of cdpairs_of ctpairs_of : Value} {odpairs_of anpairs_of : Option Addr} {slpairs_of : Array (Option Value)}
    {fordered : Addr} {ocordered kVordered dcordered pmordered cdordered ctordered : Value} {odordered anordered : Option Addr} {slordered : Array (Option Value)}
    {fin_order : Addr} {ocin_order kVin_order dcin_order pmin_order cdin_order ctin_order : Value} {odin_order anin_order : Option Addr} {slin_order : Array (Option Value)}
    {fagree : Addr} {ocagree kVagree dcagree pmagree cdagree ctagree : Value} {odagree anagree : Option Addr} {slagree : Array (Option Value)}
    {fjoined : Addr} {ocjoined kVjoined dcjoined pmjoined cdjoined ctjoined : Value} {odjoined anjoined : Option Addr} {sljoined : Array (Option Value)}
    {fis_above : Addr} {ocis_above kVis_above dcis_above pmis_above cdis_above ctis_above : Value} {odis_above anis_above : Option Addr} {slis_above : Array (Option Value)}
    {fonly_keys : Addr} {oconly_keys kVonly_keys dconly_keys pmonly_keys cdonly_keys ctonly_keys : Value} {odonly_keys anonly_keys : Option Addr} {slonly_keys : Array (Option Value)}
    {f_law_source : Addr} {oc_law_source kV_law_source dc_law_source pm_law_source cd_law_source ct_law_source : Value} {od_law_source an_law_source : Option Addr} {sl_law_source : Array (Option Value)}
    {f_law_draw : Addr} {oc_law_draw kV_law_draw dc_law_draw pm_law_draw cd_law_draw ct_law_draw : Value} {od_law_draw an_law_draw : Option Addr} {sl_law_draw : Array (Option Value)}
    {f_law_name : Addr} {oc_law_name kV_law_name dc_law_name pm_law_name cd_law_name ct_law_name : Value} {od_law_name an_law_name : Option Addr} {sl_law_name : Array (Option Value)}
    {f_law_names : Addr} {oc_law_names kV_law_names dc_law_names pm_law_names cd_law_names ct_law_names : Value} {od_law_names an_law_names : Option Addr} {sl_law_names : Array (Option Value)}
    {f_law_pool : Addr} {oc_law_pool kV_law_pool dc_law_pool pm_law_pool cd_law_pool ct_law_pool : Value} {od_law_pool an_law_pool : Option Addr} {sl_law_pool : Array (Option Value)}
    {f_law_pairs : Addr} {oc_law_pairs kV_law_pairs dc_law_pairs pm_law_pairs cd_law_pairs ct_law_pairs : Value} {od_law_pairs an_law_pairs : Option Addr} {sl_law_pairs : Array (Option Value)}
    {f_law_ordered : Addr} {oc_law_ordered kV_law_ordered dc_law_ordered pm_law_ordered cd_law_ordered ct_law_ordered : Value} {od_law_ordered an_law_ordered : Option Addr} {sl_law_ordered : Array (Option Value)}
    {f_law_map : Addr} {oc_law_map kV_law_map dc_law_map pm_law_map cd_law_map ct_law_map : Value} {od_law_map an_law_map : Option Addr} {sl_law_map : Array (Option Value)}
    {f_law_joined : Addr} {oc_law_joined kV_law_joined dc_law_joined pm_law_joined cd_law_joined ct_law_joined : Value} {od_law_joined an_law_joined : Option Addr} {sl_law_joined : Array (Option Value)}
    {f_law_two : Addr} {oc_law_two kV_law_two dc_law_two pm_law_two cd_law_two ct_law_two : Value} {od_law_two an_law_two : Option Addr} {sl_law_two : Array (Option Value)}
    {flaw : Addr} {oclaw kVlaw dclaw pmlaw cdlaw ctlaw : Value} {odlaw anlaw : Option Addr} {sllaw : Array (Option Value)}
    (apairs_of : PySem.W.nsIn K mainGlobals "pairs_of" = some (some (.ref fpairs_of)))
    (lpairs_of : K.lookup fpairs_of = some ⟨ocpairs_of, odpairs_of, .func (PySem.W.fnOf "pairs_of" "pairs_of" (defArgs s_pairs_of) (defBody s_pairs_of) (defScope s_pairs_of) .none kVpairs_of dcpairs_of pmpairs_of anpairs_of cdpairs_of ctpairs_of), slpairs_of⟩)
    (ccpairs_of : PySem.W.codeIn K cdpairs_of "pairs_of" = true)
    (kfpairs_of : PySem.W.keepIn K (.ref fpairs_of) = true)
    (aordered : PySem.W.nsIn K mainGlobals "ordered" = some (some (.ref fordered)))
    (lordered : K.lookup fordered = some ⟨ocordered, odordered, .func (PySem.W.fnOf "ordered" "ordered" (defArgs s_ordered) (defBody s_ordered) (defScope s_ordered) .none kVordered dcordered pmordered anordered cdordered ctordered), slordered⟩)
    (ccordered : PySem.W.codeIn K cdordered "ordered" = true)
    (kfordered : PySem.W.keepIn K (.ref fordered) = true)
    (ain_order : PySem.W.nsIn K mainGlobals "in_order" = some (some (.ref fin_order)))
    (lin_order : K.lookup fin_order = some ⟨ocin_order, odin_order, .func (PySem.W.fnOf "in_order" "in_order" (defArgs s_in_order) (defBody s_in_order) (defScope s_in_order) .none kVin_order dcin_order pmin_order anin_order cdin_order ctin_order), slin_order⟩)
    (ccin_order : PySem.W.codeIn K cdin_order "in_order" = true)
    (kfin_order : PySem.W.keepIn K (.ref fin_order) = true)
    (aagree : PySem.W.nsIn K mainGlobals "agree" = some (some (.ref fagree)))
    (lagree : K.lookup fagree = some ⟨ocagree, odagree, .func (PySem.W.fnOf "agree" "agree" (defArgs s_agree) (defBody s_agree) (defScope s_agree) .none kVagree dcagree pmagree anagree cdagree ctagree), slagree⟩)
    (ccagree : PySem.W.codeIn K cdagree "agree" = true)
    (kfagree : PySem.W.keepIn K (.ref fagree) = true)
    (ajoined : PySem.W.nsIn K mainGlobals "joined" = some (some (.ref fjoined)))
    (ljoined : K.lookup fjoined = some ⟨ocjoined, odjoined, .func (PySem.W.fnOf "joined" "joined" (defArgs s_joined) (defBody s_joined) (defScope s_joined) .none kVjoined dcjoined pmjoined anjoined cdjoined ctjoined), sljoined⟩)
    (ccjoined : PySem.W.codeIn K cdjoined "joined" = true)
    (kfjoined : PySem.W.keepIn K (.ref fjoined) = true)
    (ais_above : PySem.W.nsIn K mainGlobals "is_above" = some (some (.ref fis_above)))
    (lis_above : K.lookup fis_above = some ⟨ocis_above, odis_above, .func (PySem.W.fnOf "is_above" "is_above" (defArgs s_is_above) (defBody s_is_above) (defScope s_is_above) .none kVis_above dcis_above pmis_above anis_above cdis_above ctis_above), slis_above⟩)
    (ccis_above : PySem.W.codeIn K cdis_above "is_above" = true)
    (kfis_above : PySem.W.keepIn K (.ref fis_above) = true)
    (aonly_keys : PySem.W.nsIn K mainGlobals "only_keys" = some (some (.ref fonly_keys)))
    (lonly_keys : K.lookup fonly_keys = some ⟨oconly_keys, odonly_keys, .func (PySem.W.fnOf "only_keys" "only_keys" (defArgs s_only_keys) (defBody s_only_keys) (defScope s_only_keys) .none kVonly_keys dconly_keys pmonly_keys anonly_keys cdonly_keys ctonly_keys), slonly_keys⟩)
    (cconly_keys : PySem.W.codeIn K cdonly_keys "only_keys" = true)
    (kfonly_keys : PySem.W.keepIn K (.ref fonly_keys) = true)
    (a_law_source : PySem.W.nsIn K mainGlobals "_law_source" = some (some (.ref f_law_source)))
    (l_law_source : K.lookup f_law_source = some ⟨oc_law_source, od_law_source, .func (PySem.W.fnOf "_law_source" "_law_source" (defArgs s__law_source) (defBody s__law_source) (defScope s__law_source) .none kV_law_source dc_law_source pm_law_source an_law_source cd_law_source ct_law_source), sl_law_source⟩)
    (cc_law_source : PySem.W.codeIn K cd_law_source "_law_source" = true)
    (kf_law_source : PySem.W.keepIn K (.ref f_law_source) = true)
    (a_law_draw : PySem.W.nsIn K mainGlobals "_law_draw" = some (some (.ref f_law_draw)))
    (l_law_draw : K.lookup f_law_draw = some ⟨oc_law_draw, od_law_draw, .func (PySem.W.fnOf "_law_draw" "_law_draw" (defArgs s__law_draw) (defBody s__law_draw) (defScope s__law_draw) .none kV_law_draw dc_law_draw pm_law_draw an_law_draw cd_law_draw ct_law_draw), sl_law_draw⟩)
    (cc_law_draw : PySem.W.codeIn K cd_law_draw "_law_draw" = true)
    (kf_law_draw : PySem.W.keepIn K (.ref f_law_draw) = true)
    (a_law_name : PySem.W.nsIn K mainGlobals "_law_name" = some (some (.ref f_law_name)))
    (l_law_name : K.lookup f_law_name = some ⟨oc_law_name, od_law_name, .func (PySem.W.fnOf "_law_name" "_law_name" (defArgs s__law_name) (defBody s__law_name) (defScope s__law_name) .none kV_law_name dc_law_name pm_law_name an_law_name cd_law_name ct_law_name), sl_law_name⟩)
    (cc_law_name : PySem.W.codeIn K cd_law_name "_law_name" = true)
    (kf_law_name : PySem.W.keepIn K (.ref f_law_name) = true)
    (a_law_names : PySem.W.nsIn K mainGlobals "_law_names" = some (some (.ref f_law_names)))
    (l_law_names : K.lookup f_law_names = some ⟨oc_law_names, od_law_names, .func (PySem.W.fnOf "_law_names" "_law_names" (defArgs s__law_names) (defBody s__law_names) (defScope s__law_names) .none kV_law_names dc_law_names pm_law_names an_law_names cd_law_names ct_law_names), sl_law_names⟩)
    (cc_law_names : PySem.W.codeIn K cd_law_names "_law_names" = true)
    (kf_law_names : PySem.W.keepIn K (.ref f_law_names) = true)
    (a_law_pool : PySem.W.nsIn K mainGlobals "_law_pool" = some (some (.ref f_law_pool)))
    (l_law_pool : K.lookup f_law_pool = some ⟨oc_law_pool, od_law_pool, .func (PySem.W.fnOf "_law_pool" "_law_pool" (defArgs s__law_pool) (defBody s__law_pool) (defScope s__law_pool) .none kV_law_pool dc_law_pool pm_law_pool an_law_pool cd_law_pool ct_law_pool), sl_law_pool⟩)
    (cc_law_pool : PySem.W.codeIn K cd_law_pool "_law_pool" = true)
    (kf_law_pool : PySem.W.keepIn K (.ref f_law_pool) = true)
    (a_law_pairs : PySem.W.nsIn K mainGlobals "_law_pairs" = some (some (.ref f_law_pairs)))
    (l_law_pairs : K.lookup f_law_pairs = some ⟨oc_law_pairs, od_law_pairs, .func (PySem.W.fnOf "_law_pairs" "_law_pairs" (defArgs s__law_pairs) (defBody s__law_pairs) (defScope s__law_pairs) .none kV_law_pairs dc_law_pairs pm_law_pairs an_law_pairs cd_law_pairs ct_law_pairs), sl_law_pairs⟩)
    (cc_law_pairs : PySem.W.codeIn K cd_law_pairs "_law_pairs" = true)
    (kf_law_pairs : PySem.W.keepIn K (.ref f_law_pairs) = true)
    (a_law_ordered : PySem.W.nsIn K mainGlobals "_law_ordered" = some (some (.ref f_law_ordered)))
    (l_law_ordered : K.lookup f_law_ordered = some ⟨oc_law_ordered, od_law_ordered, .func (PySem.W.fnOf "_law_ordered" "_law_ordered" (defArgs s__law_ordered) (defBody s__law_ordered) (defScope s__law_ordered) .none kV_law_ordered dc_law_ordered pm_law_ordered an_law_ordered cd_law_ordered ct_law_ordered), sl_law_ordered⟩)
    (cc_law_ordered : PySem.W.codeIn K cd_law_ordered "_law_ordered" = true)
    (kf_law_ordered : PySem.W.keepIn K (.ref f_law_ordered) = true)
    (a_law_map : PySem.W.nsIn K mainGlobals "_law_map" = some (some (.ref f_law_map)))
    (l_law_map : K.lookup f_law_map = some ⟨oc_law_map, od_law_map, .func (PySem.W.fnOf "_law_map" "_law_map" (defArgs s__law_map) (defBody s__law_map) (defScope s__law_map) .none kV_law_map dc_law_map pm_law_map an_law_map cd_law_map ct_law_map), sl_law_map⟩)
    (cc_law_map : PySem.W.codeIn K cd_law_map "_law_map" = true)
    (kf_law_map : PySem.W.keepIn K (.ref f_law_map) = true)
    (a_law_joined : PySem.W.nsIn K mainGlobals "_law_joined" = some (some (.ref f_law_joined)))
    (l_law_joined : K.lookup f_law_joined = some ⟨oc_law_joined, od_law_joined, .func (PySem.W.fnOf "_law_joined" "_law_joined" (defArgs s__law_joined) (defBody s__law_joined) (defScope s__law_joined) .none kV_law_joined dc_law_joined pm_law_joined an_law_joined cd_law_joined ct_law_joined), sl_law_joined⟩)
    (cc_law_joined : PySem.W.codeIn K cd_law_joined "_law_joined" = true)
    (kf_law_joined : PySem.W.keepIn K (.ref f_law_joined) = true)
    (a_law_two : PySem.W.nsIn K mainGlobals "_law_two" = some (some (.ref f_law_two)))
    (l_law_two : K.lookup f_law_two = some ⟨oc_law_two, od_law_two, .func (PySem.W.fnOf "_law_two" "_law_two" (defArgs s__law_two) (defBody s__law_two) (defScope s__law_two) .none kV_law_two dc_law_two pm_law_two an_law_two cd_law_two ct_law_two), sl_law_two⟩)
    (cc_law_two : PySem.W.codeIn K cd_law_two "_law_two" = true)
    (kf_law_two : PySem.W.keepIn K (.ref f_law_two) = true)
    (alaw : PySem.W.nsIn K mainGlobals "law" = some (some (.ref flaw)))
    (llaw : K.lookup flaw = some ⟨oclaw, odlaw, .func (PySem.W.fnOf "law" "law" (defArgs s_law) (defBody s_law) (defScope s_law) .none kVlaw dclaw pmlaw anlaw cdlaw ctlaw), sllaw⟩)
    (cclaw : PySem.W.codeIn K cdlaw "law" = true)
    (kflaw : PySem.W.keepIn K (.ref flaw) = true)
    (zall : PySem.W.nsIn K mainGlobals "all" = some none)
    (zdict : PySem.W.nsIn K mainGlobals "dict" = some none)
    (zint : PySem.W.nsIn K mainGlobals "int" = some none)
    (zlen : PySem.W.nsIn K mainGlobals "len" = some none)
    (zlist : PySem.W.nsIn K mainGlobals "list" = some none)
    (zrange : PySem.W.nsIn K mainGlobals "range" = some none)
    (zsorted : PySem.W.nsIn K mainGlobals "sorted" = some none)
    (zstr : PySem.W.nsIn K mainGlobals "str" = some none)
    (ztuple : PySem.W.nsIn K mainGlobals "tuple" = some none) :
    ∃ fd : FuncData, (∀ (s : Shared) (v : Value), BindsTo s fd ⟨[v], []⟩ [("_law_script", v)]) ∧ ∀ base : Heap, K.In base → base.Ns mainGlobals mg → FnOk l.prog w K mg base CX0 24 fa fd ["_law_script"] (spLaw K) := by
  have e := hfa.symm.trans (PySem.W.mg_of KX G alaw)
  cases e

  have T : TA K mg := { D_pairs_of := ⟨_, _, mkD (ps := ["known"]) (st := s_pairs_of) KX G apairs_of lpairs_of ccpairs_of kfpairs_of (fun _ _ _ _ _ _ us hl => match us, hl with | [_], _ => rfl)⟩, D_ordered := ⟨_, _, mkD (ps := ["known"]) (st := s_ordered) KX G aordered lordered ccordered kfordered (fun _ _ _ _ _ _ us hl => match us, hl with | [_], _ => rfl)⟩, D_in_order := ⟨_, _, mkD (ps := ["several"]) (st := s_in_order) KX G ain_order lin_order ccin_order kfin_order (fun _ _ _ _ _ _ us hl => match us, hl with | [_], _ => rfl)⟩, D_agree := ⟨_, _, mkD (ps := ["one", "other"]) (st := s_agree) KX G aagree lagree ccagree kfagree (fun _ _ _ _ _ _ us hl => match us, hl with | [_, _], _ => rfl)⟩, D_joined := ⟨_, _, mkD (ps := ["one", "other"]) (st := s_joined) KX G ajoined ljoined ccjoined kfjoined (fun _ _ _ _ _ _ us hl => match us, hl with | [_, _], _ => rfl)⟩, D_is_above := ⟨_, _, mkD (ps := ["one", "other"]) (st := s_is_above) KX G ais_above lis_above ccis_above kfis_above (fun _ _ _ _ _ _ us hl => match us, hl with | [_, _], _ => rfl)⟩, D_only_keys := ⟨_, _, mkD (ps := ["known", "variables"]) (st := s_only_keys) KX G aonly_keys lonly_keys cconly_keys kfonly_keys (fun _ _ _ _ _ _ us hl => match us, hl with | [_, _], _ => rfl)⟩, D__law_source := ⟨_, _, mkD (ps := ["_law_cell"]) (st := s__law_source) KX G a_law_source l_law_source cc_law_source kf_law_source (fun _ _ _ _ _ _ us hl => match us, hl with | [_], _ => rfl)⟩, D__law_draw := ⟨_, _, mkD (ps := ["_law_source_here", "_law_limit"]) (st := s__law_draw) KX G a_law_draw l_law_draw cc_law_draw kf_law_draw (fun _ _ _ _ _ _ us hl => match us, hl with | [_, _], _ => rfl)⟩, D__law_name := ⟨_, _, mkD (ps := ["_law_source_here"]) (st := s__law_name) KX G a_law_name l_law_name cc_law_name kf_law_name (fun _ _ _ _ _ _ us hl => match us, hl with | [_], _ => rfl)⟩, D__law_names := ⟨_, _, mkD (ps := ["_law_source_here", "_law_many"]) (st := s__law_names) KX G a_law_names l_law_names cc_law_names kf_law_names (fun _ _ _ _ _ _ us hl => match us, hl with | [_, _], _ => rfl)⟩, D__law_pool := ⟨_, _, mkD (ps := ["_law_source_here"]) (st := s__law_pool) KX G a_law_pool l_law_pool cc_law_pool kf_law_pool (fun _ _ _ _ _ _ us hl => match us, hl with | [_], _ => rfl)⟩, D__law_pairs := ⟨_, _, mkD (ps := ["_law_known"]) (st := s__law_pairs) KX G a_law_pairs l_law_pairs cc_law_pairs kf_law_pairs (fun _ _ _ _ _ _ us hl => match us, hl with | [_], _ => rfl)⟩, D__law_ordered := ⟨_, _, mkD (ps := ["_law_several"]) (st := s__law_ordered) KX G a_law_ordered l_law_ordered cc_law_ordered kf_law_ordered (fun _ _ _ _ _ _ us hl => match us, hl with | [_], _ => rfl)⟩, D__law_map := ⟨_, _, mkD (ps := ["_law_source_here", "_law_pool_here", "_law_share"]) (st := s__law_map) KX G a_law_map l_law_map cc_law_map kf_law_map (fun _ _ _ _ _ _ us hl => match us, hl with | [_, _, _], _ => rfl)⟩, D__law_joined := ⟨_, _, mkD (ps := ["_law_one", "_law_other"]) (st := s__law_joined) KX G a_law_joined l_law_joined cc_law_joined kf_law_joined (fun _ _ _ _ _ _ us hl => match us, hl with | [_, _], _ => rfl)⟩, D__law_two := ⟨_, _, mkD (ps := ["_law_source_here", "_law_one", "_law_other"]) (st := s__law_two) KX G a_law_two l_law_two cc_law_two kf_law_two (fun _ _ _ _ _ _ us hl => match us, hl with | [_, _, _], _ => rfl)⟩, m_all := PySem.W.mg_none_of KX G zall, m_dict := PySem.W.mg_none_of KX G zdict, m_int := PySem.W.mg_none_of KX G zint, m_len := PySem.W.mg_none_of KX G zlen, m_list := PySem.W.mg_none_of KX G zlist, m_range := PySem.W.mg_none_of KX G zrange, m_sorted := PySem.W.mg_none_of KX G zsorted, m_str := PySem.W.mg_none_of KX G zstr, m_tuple := PySem.W.mg_none_of KX G ztuple }
  have F := fun_mk (st := s_law) llaw cclaw kflaw
  exact ⟨_, fun s v => .of_eq rfl, fun base _ _ => ok_law T F⟩
theorem walk {l : PySem.W.OpenLaw} {q : Program} {loose : List Str} {XP : (Str → Option Value) → Heap → Prop} {YP : World → Heap → Prop} {d : DefRec} {K : Params → PySem.W.Frag} (hn : l.most = some 63) (hdf : d.params.defaults = [])
    (hY : ∀ (w : World) (h : Heap), YP w h → (K w.params).In h)
    (F : ∀ (w : World) (mg : Str → Option Value) (fa : Addr) (h : Heap), (K w.params).In h → h.Ns mainGlobals mg → mg d.name = some (.ref fa) →
      ∃ fd : FuncData, (∀ (s : Shared) (u : Value), BindsTo s fd ⟨[u], []⟩ [("_law_script", u)]) ∧ ∀ base : Heap, (K w.params).In base → base.Ns mainGlobals mg → FnOk l.prog w (K w.params) mg base CX0 24 fa fd ["_law_script"] (spLaw (K w.params))) :
    PySem.W.WalkO q loose XP YP l.row.toRowW d [] (fun f vs => PySem.call f vs) :=
  L2.walk_ofB (n := 63) (k := 24) (x := "_law_script") (CX := fun _ => CX0) (sp := fun w => spLaw (K w.params)) hn (by decide) hdf ⟨rfl, by decide, by decide⟩ hY F (fun w H a ns hl hb _ hS => ⟨a, ns, rfl, hS, hb, hl, fun _ => rfl⟩) fun _ _ _ _ _ z => z
end G39

open PySem PySem.W PyProof.Rows
set_option maxRecDepth 100000 in
set_option maxHeartbeats 0 in
theorem PySem.Challenge.cw_fullestrows_k07_maps_themselves_holds : PySem.Challenge.rw_fullestrows_k07_maps_themselves.Holds := by
  w_on; o_law; k_head; (case hw => w_witness2)
  k_fill
  refine G39.walk (l := PySem.Challenge.rw_fullestrows_k07_maps_themselves) rfl rfl (fun w h Y => PySem.W.kIn_of Y) ?F
  case F =>
    intro w mg fa h KX G hmg
    refine' G39.all_mk KX G hmg ?apairs_of ?lpairs_of ?ccpairs_of ?kfpairs_of ?aordered ?lordered ?ccordered ?kfordered ?ain_order ?lin_order ?ccin_order ?kfin_order ?aagree ?lagree ?ccagree ?kfagree ?ajoined ?ljoined ?ccjoined ?kfjoined ?ais_above ?lis_above ?ccis_above ?kfis_above ?aonly_keys ?lonly_keys ?cconly_keys ?kfonly_keys ?a_law_source ?l_law_source ?cc_law_source ?kf_law_source ?a_law_draw ?l_law_draw ?cc_law_draw ?kf_law_draw ?a_law_name ?l_law_name ?cc_law_name ?kf_law_name ?a_law_names ?l_law_names ?cc_law_names ?kf_law_names ?a_law_pool ?l_law_pool ?cc_law_pool ?kf_law_pool ?a_law_pairs ?l_law_pairs ?cc_law_pairs ?kf_law_pairs ?a_law_ordered ?l_law_ordered ?cc_law_ordered ?kf_law_ordered ?a_law_map ?l_law_map ?cc_law_map ?kf_law_map ?a_law_joined ?l_law_joined ?cc_law_joined ?kf_law_joined ?a_law_two ?l_law_two ?cc_law_two ?kf_law_two ?alaw ?llaw ?cclaw ?kflaw ?zall ?zdict ?zint ?zlen ?zlist ?zrange ?zsorted ?zstr ?ztuple
    (case apairs_of => k_is)
    (case lpairs_of => k_is)
    (case ccpairs_of => k_is)
    (case kfpairs_of => k_is)
    (case aordered => k_is)
    (case lordered => k_is)
    (case ccordered => k_is)
    (case kfordered => k_is)
    (case ain_order => k_is)
    (case lin_order => k_is)
    (case ccin_order => k_is)
    (case kfin_order => k_is)
    (case aagree => k_is)
    (case lagree => k_is)
    (case ccagree => k_is)
    (case kfagree => k_is)
    (case ajoined => k_is)
    (case ljoined => k_is)
    (case ccjoined => k_is)
    (case kfjoined => k_is)
    (case ais_above => k_is)
    (case lis_above => k_is)
    (case ccis_above => k_is)
    (case kfis_above => k_is)
    (case aonly_keys => k_is)
    (case lonly_keys => k_is)
    (case cconly_keys => k_is)
    (case kfonly_keys => k_is)
    (case a_law_source => k_is)
    (case l_law_source => k_is)
    (case cc_law_source => k_is)
    (case kf_law_source => k_is)
    (case a_law_draw => k_is)
    (case l_law_draw => k_is)
    (case cc_law_draw => k_is)
    (case kf_law_draw => k_is)
    (case a_law_name => k_is)
    (case l_law_name => k_is)
    (case cc_law_name => k_is)
    (case kf_law_name => k_is)
    (case a_law_names => k_is)
    (case l_law_names => k_is)
    (case cc_law_names => k_is)
    (case kf_law_names => k_is)
    (case a_law_pool => k_is)
    (case l_law_pool => k_is)
    (case cc_law_pool => k_is)
    (case kf_law_pool => k_is)
    (case a_law_pairs => k_is)
    (case l_law_pairs => k_is)
    (case cc_law_pairs => k_is)
    (case kf_law_pairs => k_is)
    (case a_law_ordered => k_is)
    (case l_law_ordered => k_is)
    (case cc_law_ordered => k_is)
    (case kf_law_ordered => k_is)
    (case a_law_map => k_is)
    (case l_law_map => k_is)
    (case cc_law_map => k_is)
    (case kf_law_map => k_is)
    (case a_law_joined => k_is)
    (case l_law_joined => k_is)
    (case cc_law_joined => k_is)
    (case kf_law_joined => k_is)
    (case a_law_two => k_is)
    (case l_law_two => k_is)
    (case cc_law_two => k_is)
    (case kf_law_two => k_is)
    (case alaw => k_is)
    (case llaw => k_is)
    (case cclaw => k_is)
    (case kflaw => k_is)
    (case zall => k_is)
    (case zdict => k_is)
    (case zint => k_is)
    (case zlen => k_is)
    (case zlist => k_is)
    (case zrange => k_is)
    (case zsorted => k_is)
    (case zstr => k_is)
    (case ztuple => k_is)
#print axioms PySem.Challenge.cw_fullestrows_k07_maps_themselves_holds
