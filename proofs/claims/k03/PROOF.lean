import PyProof.Rows.All
import Wide.All
import OpenK.AllK
import Wide.FinOn
import HandS.Set
import HandS.SetFor
import HandS.TupSets
import HandS.More
import HandS.SortInts
import HandS.ForMost
import HandS.IsInst
import HandS.Wide
import HandS.DictComp
import HandS.DeepEq
import HandS.Style
import HandS.Dict
import HandS.FStr
import HandS.ListItems
import HandS.SortRule
import HandS.HeadHook1
import HandS.ForExc
import HandS.CallSlots
import HandS.HeadWalk
import HandS.NamedTupGet
import HandS.Zip
import HandS.Iter
import HandS.Comp
import HandS.Small
import HandS.TryOnly
import HandS.Defaults
import HandS.HeadHook4
import HandS.EndBits
import HandS.HeadEnd
import HandS.Head0
import HandS.Head1
import HandS.Head2
import KE.KStateDown
import PySem.Challenge.RW_linkstead_k03_heaps_made
set_option Elab.async false
set_option linter.all false
set_option maxRecDepth 100000
set_option maxHeartbeats 0
/-! MP0: a set of texts made of a list or tuple, told in order, or counted. -/
namespace MP
open PySem PySem.Spec PyProof.Rows L2
/-- the members, each once, as they come -/
def addS (M : List Str) (z : Str) : List Str := if z ∈ M then M else z :: M
def dedS (xs : List Str) : List Str := xs.foldl addS []
theorem addS_mem {M : List Str} {z y : Str} : y ∈ addS M z ↔ y ∈ M ∨ y = z := by
  unfold addS
  split
  · rename_i h
    exact ⟨.inl, fun q => q.elim id fun e => e ▸ h⟩
  · rw [List.mem_cons]
    exact Or.comm
theorem addS_nd {M : List Str} {z : Str} (h : M.Nodup) : (addS M z).Nodup := by
  unfold addS
  split
  · exact h
  · rename_i q
    exact List.nodup_cons.mpr ⟨q, h⟩
theorem addS_len {M : List Str} {z : Str} : (addS M z).length ≤ M.length + 1 := by
  unfold addS
  split
  · exact Nat.le_succ _
  · exact Nat.le_refl _
theorem fold_mem : ∀ {xs M : List Str} {y : Str}, y ∈ xs.foldl addS M ↔ y ∈ M ∨ y ∈ xs
  | [], M, y => by simp
  | x :: r, M, y => by
    rw [List.foldl_cons, fold_mem, addS_mem, List.mem_cons, or_assoc]
theorem fold_nd : ∀ {xs M : List Str}, M.Nodup → (xs.foldl addS M).Nodup
  | [], _, h => h
  | x :: r, M, h => fold_nd (xs := r) (addS_nd h)
theorem fold_len : ∀ {xs M : List Str}, (xs.foldl addS M).length ≤ M.length + xs.length
  | [], _ => by simp
  | x :: r, M => by
    have h1 := fold_len (xs := r) (M := addS M x)
    have h2 := addS_len (M := M) (z := x)
    rw [List.foldl_cons, List.length_cons]
    omega
theorem dedS_mem {xs : List Str} {y : Str} : y ∈ dedS xs ↔ y ∈ xs := by
  unfold dedS
  rw [fold_mem]
  simp
theorem dedS_nd {xs : List Str} : (dedS xs).Nodup := fold_nd List.nodup_nil
theorem dedS_len {xs : List Str} : (dedS xs).length ≤ xs.length := by
  have := fold_len (xs := xs) (M := [])
  unfold dedS
  simpa using this
/-! ### the set at an address -/
def txOf (e : Int × Value) : Str := match e.2 with
  | .str z _ => z
  | _ => ⟨#[]⟩
def TxE (P : Program) (w : World) (e : Int × Value) : Prop := ∃ z u, e.2 = Value.str z u ∧ e.1 = (PySem.strKind P w).hash z
structure TxSet (P : Program) (w : World) (h : Heap) (a : Addr) (M : List Str) : Prop where
  ex : ∃ o es ep t, h.get? a = some o ∧ o.ExactSet ∧ o.data = .set es ep t ∧ (∀ e ∈ es.toList, TxE P w e) ∧ (es.toList.map txOf).Perm M ∧ M.Nodup ∧
    es.size < scanBound ∧ t.fits es.size = true ∧ Ris t.place.toList ∧ (w.params.followText "set-order" = true ∨ t.led = true)
section
variable {P : Program} {w : World} {h h' : Heap} {a : Addr} {M : List Str}
theorem TxSet.keep (R : TxSet P w h a M) (k : ∀ o, h.get? a = some o → h'.get? a = some o) : TxSet P w h' a M := by
  obtain ⟨o, es, ep, t, ho, r⟩ := R.ex
  exact ⟨o, es, ep, t, k o ho, r⟩
theorem txE_elems {l : List (Int × Value)} (g : ∀ e ∈ l, TxE P w e) : ElemsOf (PySem.strKind P w) l := fun e q => by
  obtain ⟨z, u, e1, e2⟩ := g e q
  exact ⟨⟨z, by rw [e1]; exact PySem.strKind_is P w z u, e2⟩, by rw [e1] <;> rfl⟩
theorem txE_is {e : Int × Value} (g : TxE P w e) (z : Str) : (PySem.strKind P w).is z e.2 = true ↔ txOf e = z := by
  obtain ⟨y, u, e1, _⟩ := g
  unfold txOf
  rw [e1]
  constructor
  · intro q
    obtain ⟨u2, e2⟩ := Value.isStrOf_shape (x := z) (v := .str y u) q
    injection e2
  · rintro rfl
    exact PySem.strKind_is P w _ u
theorem txE_mem {l : List (Int × Value)} (g : ∀ e ∈ l, TxE P w e) (z : Str) : z ∈ l.map txOf ↔ ∃ e ∈ l, (PySem.strKind P w).is z e.2 = true := by
  rw [List.mem_map]
  exact ⟨fun ⟨e, q, r⟩ => ⟨e, q, (txE_is (g e q) z).2 r⟩, fun ⟨e, q, r⟩ => ⟨e, q, (txE_is (g e q) z).1 r⟩⟩
end
section
variable {P : Program} {w : World} {A : Around} {E : Value → Shared → Prop} {s : Shared} {a : Addr} {M : List Str}
theorem txSet_tail {g : Bool → Sem Unit} (hg : ∀ (b : Bool) (s1 : Shared) (Q' : Unit → Shared → Prop), Q' () s1 → wpAny (model P w) A (g b) Q' E s1)
    {o : Obj} {es : Array (Int × Value)} {ep : Nat} {t : SetTable} (ho : s.heap.get? a = some o) (hex : o.ExactSet) (hd : o.data = .set es ep t)
    {ys : Array (Int × Value)} {tt : SetTable} {M' : List Str} (g1 : ∀ e ∈ ys.toList, TxE P w e) (m1 : (ys.toList.map txOf).Perm M') (nd1 : M'.Nodup)
    (hb : ys.size < scanBound) (hf : tt.fits ys.size = true) (hr : Ris tt.place.toList) (hl : w.params.followText "set-order" = true ∨ tt.led = true) {wasDummy : Bool} {R : Option Bool → Shared → Prop}
    (hR : ∀ k, Heap.SameBut a s.heap k → TxSet P w k a M' → R (some true) { s with heap := k }) :
    wpAny (model P w) A (do
        storeSet a ys tt
        if (!wasDummy && tt.tooFull) = true then do
          g (relayAll tt ys (SetTable.grown ys.size)).2.2
          storeSet a (relayAll tt ys (SetTable.grown ys.size)).1 (relayAll tt ys (SetTable.grown ys.size)).2.1
          pure (some true)
        else pure (some true)) R E s := by
  refine wpAny_bind (wpAny_storeSet_of ho hd ?_ (fits_of_scanBound hb))
  have at1 := store_at (es' := ys) (t' := tt) ho hd
  have but1 := Heap.SameBut.update s.heap a (Obj.putSet ys tt)
  split
  · have p2 := relayAll_perm tt ys (SetTable.grown ys.size)
    have f2 := relayAll_fits tt ys (SetTable.grown ys.size)
    have r2 := relayAll_ris tt ys (SetTable.grown ys.size)
    have l2 := relayAll_led tt ys (SetTable.grown ys.size)
    generalize relayAll tt ys (SetTable.grown ys.size) = Y at p2 f2 r2 l2 ⊢
    obtain ⟨zs, tz, gave⟩ := Y
    dsimp only at p2 f2 r2 l2 ⊢
    have sz : zs.size = ys.size := by rw [← Array.length_toList, p2.length_eq, Array.length_toList]
    have b2 : zs.size < scanBound := by rw [sz]; exact hb
    refine wpAny_bind (hg _ _ _ (wpAny_bind (wpAny_storeSet_of at1 rfl ?_ (fits_of_scanBound b2))))
    have at2 := store_at (es' := zs) (t' := tz) at1 rfl
    exact wpAny_pure (hR _ (but1.trans (Heap.SameBut.update _ a _)) ⟨_, zs, _, tz, at2, hex, rfl, fun e q => g1 e (p2.mem_iff.mp q), (p2.map txOf).trans m1, nd1, b2, f2, r2, hl.imp id fun z => by rw [l2]; exact z⟩)
  · exact wpAny_pure (hR _ but1 ⟨_, ys, _, tt, at1, hex, rfl, g1, m1, nd1, hb, hf, hr, hl⟩)
theorem txSet_add {z : Str} {u : Tok} {Q : Bool → Shared → Prop} (R : TxSet P w s.heap a M) (room : M.length + 1 < scanBound)
    (hQ : ∀ b k, Heap.SameBut a s.heap k → TxSet P w k a (addS M z) → Q b { s with heap := k }) : wpAny (model P w) A (setAddHashed a (.str z u) ((PySem.strKind P w).hash z)) Q E s := by
  obtain ⟨o, es, ep, t, ho, hex, hd, g, pm0, nd, hb, hf, hr, hl⟩ := R.ex
  have isz : (PySem.strKind P w).is z (.str z u) = true := PySem.strKind_is P w z u
  have sc : (Value.str z u).scannable = true := rfl
  have el : ElemsOf (PySem.strKind P w) es.toList := txE_elems g
  unfold setAddHashed setAddHashedIn
  refine wpAny_holding (wpAny_bind (wpAny_setState_of ho hd hf ?_))
  dsimp only
  rw [byScan_of sc hb el]
  simp only [↓reduceIte]
  unfold setAddByScan
  refine wpAny_bind (wpAny_bind (wpAny_rule (wpAny_bind (wpAny_setScan_of isz ho hd hf el ?_))))
  cases hfi : List.findIdx? (fun e => (PySem.strKind P w).is z e.2) es.toList with
  | some j =>
    dsimp only
    obtain ⟨hj, pj, _⟩ := List.findIdx?_eq_some_iff_getElem.mp hfi
    have inM : z ∈ M := pm0.mem_iff.mp ((txE_mem g z).2 ⟨es.toList[j], List.getElem_mem hj, pj⟩)
    have eM : addS M z = M := by unfold addS; rw [if_pos inM]
    exact wpAny_pure (wpAny_pure (hQ _ s.heap (Heap.SameBut.refl a s.heap) (by rw [eM]; exact R)))
  | none =>
    dsimp only
    have notM : z ∉ M := fun q => by
      obtain ⟨e, he, q2⟩ := (txE_mem g z).1 (pm0.mem_iff.mpr q)
      have c := List.findIdx?_eq_none_iff.mp hfi e he
      rw [q2] at c
      cases c
    have eM : addS M z = z :: M := by unfold addS; rw [if_neg notM]
    rw [eM] at hQ
    have gw : ∀ (b : Bool) {s1 : Shared} {Q' : Unit → Shared → Prop}, Q' () s1 → wpAny (model P w) A (match b with | true => rule "set.scan.the-table-gave-way" | false => pure ()) Q' E s1 := fun b s1 Q' q => by
      cases b
      · exact wpAny_pure q
      · exact wpAny_rule q
    have p1 := layNew_perm t es ((PySem.strKind P w).hash z) (.str z u)
    have f1 := layNew_fits t es ((PySem.strKind P w).hash z) (.str z u)
    have r1 := layNew_ris t es ((PySem.strKind P w).hash z) (.str z u) hr
    have l1 := layNew_led t es ((PySem.strKind P w).hash z) (.str z u)
    generalize layNew t es ((PySem.strKind P w).hash z) (.str z u) = Y at p1 f1 r1 l1 ⊢
    obtain ⟨ys, tt, wasDummy, gave⟩ := Y
    dsimp only at p1 f1 r1 l1 ⊢
    rw [Array.toList_push] at p1
    have pc : ys.toList.Perm (((PySem.strKind P w).hash z, Value.str z u) :: es.toList) := p1.trans (List.perm_append_singleton _ _)
    have pk : (ys.toList.map txOf).Perm (z :: M) := (pc.map txOf).trans (List.Perm.cons z pm0)
    have g1 : ∀ e ∈ ys.toList, TxE P w e := fun e he => by
      rcases List.mem_cons.mp (pc.mem_iff.mp he) with q | q
      · rw [q]; exact ⟨z, u, rfl, rfl⟩
      · exact g e q
    have nd1 : (z :: M).Nodup := List.nodup_cons.mpr ⟨notM, nd⟩
    have b1 : ys.size < scanBound := by
      have q := pk.length_eq
      rw [List.length_map, Array.length_toList, List.length_cons] at q
      omega
    have led1 : w.params.followText "set-order" = true ∨ tt.led = true := hl.imp id fun q => by rw [l1]; exact q
    have fin : ∀ k, Heap.SameBut a s.heap k → TxSet P w k a (z :: M) → Q true { s with heap := k } := fun k => hQ true k
    refine wpAny_bind (gw _ ?_)
    split
    · refine wpAny_bind ?_
      rw [hashByValue_scannable 8 sc]
      refine wpAny_pure (txSet_tail ?_ ho hex hd g1 pk nd1 b1 ?_ ?_ ?_ ?_)
      · intro b s1 Q' q
        cases b
        · exact wpAny_pure q
        · exact wpAny_rule q
      · first | (split <;> first | exact f1 | exact SetTable.fits_plain_off f1) | exact f1
      · first | (split <;> exact r1) | exact r1
      · first | (split <;> exact led1) | exact led1
      · intro k sb r
        dsimp only
        exact wpAny_pure (fin k sb r)
    · refine wpAny_bind (wpAny_pure ?_)
      simp only [↓reduceIte]
      refine txSet_tail ?_ ho hex hd g1 pk nd1 b1 f1 r1 led1 ?_
      · intro b s1 Q' q
        cases b
        · exact wpAny_pure q
        · exact wpAny_rule q
      · intro k sb r
        dsimp only
        exact wpAny_pure (fin k sb r)
theorem txSet_new {h : Heap} {a : Addr} (ho : h.get? a = some { cls := .type "set", dict := none, data := .set #[] 0 (.fresh 0 0 (!w.params.followText "set-order")) }) : TxSet P w h a [] :=
  ⟨_, #[], 0, _, ho, ⟨rfl, rfl, rfl⟩, rfl, (fun e he => by simp at he), List.Perm.nil, List.nodup_nil, (by decide), (by rfl), List.Pairwise.nil, by
    show _ ∨ (!w.params.followText "set-order") = true
    cases w.params.followText "set-order"
    · exact .inr rfl
    · exact .inl rfl⟩
/-- the loop of the making -/
theorem txSet_loop {I : Addr} {fp wr : List Addr} {G : Array GenState → Array GenState → Prop} {n : Nat} {Pv : Nat → Value → Prop} {St : Nat → Shared → Prop} {R : Result → Shared → Prop}
    (W : WalksS P w A.in1 I fp wr G n Pv St) (S : Addr) (hSf : S ∉ fp) (xs : List Str) (hn : n = xs.length) (room : xs.length + 1 < scanBound) (hval : ∀ i v, Pv i v → ∃ z u, xs[i]? = some z ∧ v = .str z u) :
    ∀ (k i : Nat) (s : Shared), n - i = k → i ≤ n → St i s → TxSet P w s.heap S ((xs.take i).foldl addS []) →
      (∀ s', Moved (S :: wr) G s s' → TxSet P w s'.heap S (dedS xs) → R (.ok (.ret .none)) s') →
      codeAny (model P w) A (.builtin "set.update.loop" ⟨[.ref S, .ref I], []⟩) R s := by
  have nw : S ∉ wr := fun h => hSf (W.sub _ h)
  have sub : ∀ b ∈ wr, b ∈ S :: wr := fun b hb => List.mem_cons_of_mem _ hb
  intro k
  induction k with
  | zero =>
    intro i s hk hi hst hS hR
    have hin : i = n := by omega
    subst hin
    refine codeAny_builtin F.entry_set_update_loop ?_
    rw [Around.under_plainId F.plain_set_update_loop _]
    show wpAny _ A.in1 (pyNext (.ref I) >>= _) _ _ s
    refine wpAny_bind (W.done s _ _ hst fun s' hm => ?_)
    show wpAny _ A.in1 (ret Value.none) _ _ s'
    refine wpAny_pure (hR s' (hm.mono sub) ?_)
    rw [hn, List.take_length] at hS
    exact hS.keep fun o e => hm.heap S o nw e
  | succ k ih =>
    intro i s hk hi hst hS hR
    have lt : i < n := by omega
    refine codeAny_builtin F.entry_set_update_loop ?_
    rw [Around.under_plainId F.plain_set_update_loop _]
    show wpAny _ A.in1 (pyNext (.ref I) >>= _) _ _ s
    refine wpAny_bind (W.item i s _ _ lt hst fun v s' hP hst' hm => ?_)
    obtain ⟨z, u, hz, rfl⟩ := hval i v hP
    have hS' := TxSet.keep (h' := s'.heap) hS fun o e => hm.heap S o nw e
    show wpAny _ A.in1 (holding [Value.str z u] (setAdd S (.str z u)) >>= _) _ _ s'
    refine wpAny_bind (wpAny_holding ?_)
    unfold setAdd
    refine wpAny_holding (wpAny_bind ((PySem.strKind P w).pyHash (k := z) (PySem.strKind_is P w z u) ?_))
    have len : ((xs.take i).foldl addS []).length ≤ i := by
      have q := fold_len (xs := xs.take i) (M := [])
      rw [List.length_take] at q
      simp only [List.length_nil] at q
      omega
    refine txSet_add (s := { s' with toks := s'.toks + 1 }) hS' (by omega) fun b h' hsb hS2 => ?_
    have e2 : addS ((xs.take i).foldl addS []) z = (xs.take (i + 1)).foldl addS [] := by
      rw [List.take_succ, hz]
      simp
    rw [e2] at hS2
    refine wpAny_pure ⟨plainId_quiet F.plain_set_update_loop _, ih (i + 1) _ (by omega) lt (W.frame _ s' _ _ hst' (Nat.le_succ _) fun b hb o e => ?_) hS2 fun s2 hm2 hS3 => ?_⟩
    · rw [hsb.2 b (fun h : b = S => hSf (by rw [← h]; exact hb))]
      exact e
    · refine hR s2 (Moved.trans W.gtrans ((hm.mono sub).then_heap (Nat.le_succ _) fun b o hb e => ?_) hm2) hS3
      rw [hsb.2 b (fun h : b = S => hb (by rw [h]; exact List.mem_cons_self))]
      exact e
end
/-! ### the making: over a list and over a tuple -/
section
variable {P : Program} {w : World} {A : Around} {E : Value → Shared → Prop} {s : Shared}
theorem strs_get : ∀ {us : List Value} {xs : List Str}, PyProof.Rows.StrsAre us xs → ∀ (i : Nat) (v : Value), us[i]? = some v → ∃ z u, xs[i]? = some z ∧ v = Value.str z u
  | _, _, .nil, i, v, h => by simp at h
  | _, _, .cons y u r, 0, v, h => by
    simp only [List.getElem?_cons_zero, Option.some.injEq] at h
    exact ⟨y, u, rfl, h.symm⟩
  | _, _, .cons y u r, i + 1, v, h => by
    simp only [List.getElem?_cons_succ] at h ⊢
    exact strs_get r i v h
theorem strs_len : ∀ {us : List Value} {xs : List Str}, PyProof.Rows.StrsAre us xs → us.length = xs.length
  | _, _, .nil => rfl
  | _, _, .cons _ _ r => congrArg Nat.succ (strs_len r)
def newSet (w : World) : Obj := { cls := .type "set", dict := none, data := .set #[] 0 (.fresh 0 0 (!w.params.followText "set-order")) }
set_option maxHeartbeats 3200000 in
theorem set_of_seq {l : Addr} {items : Array Value} {xs : List Str} {Q : Value → Shared → Prop} (hh : A.handled = none) (hl : s.heap.IsList l items ∨ s.heap.IsTuple l items) (hi : PyProof.Rows.StrsAre items.toList xs) (room : xs.length + 1 < scanBound)
    (h : ∀ (h' : Heap) (tk : Nat), TxSet P w h' s.heap.objs.size (dedS xs) → (∀ b o, s.heap.get? b = some o → h'.get? b = some o) → Q (.ref s.heap.objs.size) { s with heap := h', toks := tk }) :
    wpAny (model P w) A (call (.type "set") [.ref l]) Q E s := by
  have hn : items.size = xs.length := by rw [← strs_len hi, Array.length_toList]
  have hval : ∀ (i : Nat) (v : Value), items[i]? = some v → ∃ z u, xs[i]? = some z ∧ v = Value.str z u := fun i v hv => strs_get hi i v (by rw [Array.getElem?_toList]; exact hv)
  have keepOf : ∀ {s1 s2 : Shared} {G : Array GenState → Array GenState → Prop}, (∀ b o, s.heap.get? b = some o → s1.heap.get? b = some o) → Moved [s.heap.objs.size, (s.heap.push (newSet w)).objs.size] G s1 s2 → ∀ b o, s.heap.get? b = some o → s2.heap.get? b = some o := fun k hm b o e => by
    have hb0 : b < s.heap.objs.size := Heap.lt_size e
    refine hm.heap b o (fun z => ?_) (k b o e)
    rcases List.mem_cons.mp z with q | q
    · rw [q] at hb0
      exact Nat.lt_irrefl _ hb0
    · rw [List.mem_singleton.mp q, Heap.size_push] at hb0
      exact Nat.lt_irrefl _ (Nat.lt_of_succ_lt hb0)
  obtain ⟨c, tl, hmro⟩ := F.called_set.mro
  have hmade := F.called_set.made
  have hsub := F.called_set.sub
  refine wpAny_call (codeAny_of_tree ?_)
  show wpAny _ _ (callAny (.type "set") _) _ _ _
  refine wpAny_pure ⟨Code.quiet_builtin _ (by decide +kernel), codeAny_builtin F.entry_type_call ?_⟩
  rw [Around.under_plain (weight_type_call_type "set" [.ref l] []) rfl]
  have h1 := F.called_set.notType
  have h2 := F.called_set.canCreate
  have hct := F.typeCall_set_1 (.ref l)
  repeat (any_goals (first | assumption | wp_step))
  refine codeAny_mono (code_set_led1 (.ref l) (E := E) (Q₁ := fun obj s1 => obj = .ref s.heap.objs.size ∧ s1 = { s with heap := s.heap.push (newSet w) }) ⟨rfl, rfl⟩) fun r s1 hr => ?_
  cases r with
  | error e => exact hr
  | ok fl =>
    cases fl with
    | ret obj =>
      obtain ⟨rfl, rfl⟩ := hr
      have hS : (s.heap.push (newSet w)).get? s.heap.objs.size = some (newSet w) := Heap.get?_push_size _ rfl
      have hT : Shared.TypeIs { s with heap := s.heap.push (newSet w) } (.ref s.heap.objs.size) "set" := ⟨_, hS, rfl⟩
      have hli := F.called_set.init.lookup
      have hbi := F.called_set.init.bind (.ref s.heap.objs.size)
      repeat (any_goals (first | assumption | wp_step))
      refine codeAny_mono (codeAny_call_builtin (R := wants (fun r s2 => r = .none ∧ ∃ h' tk, s2 = { s with heap := h', toks := tk } ∧ TxSet P w h' s.heap.objs.size (dedS xs) ∧ (∀ b o, s.heap.get? b = some o → h'.get? b = some o)) E) F.called_set.init.plain F.entry_set_init (check_set_init_1 hT ?_)) fun r2 s2 hr2 => ?_
      · have hh3 : A.in1.in1.in1.handled = none := by simp [hh]
        have lseq : ∃ o, s.heap.get? l = some o := by
          rcases hl with ⟨o, q, _⟩ | ⟨o, q, _⟩
          · exact ⟨o, q⟩
          · exact ⟨o, q⟩
        have hlS : l < s.heap.objs.size := let ⟨o, q⟩ := lseq; Heap.lt_size q
        have hneI : l ≠ (s.heap.push (newSet w)).objs.size := by
          rw [Heap.size_push]
          exact Nat.ne_of_lt (Nat.lt_succ_of_lt hlS)
        have hSf : s.heap.objs.size ∉ [(s.heap.push (newSet w)).objs.size, l] := by
          rw [Heap.size_push]
          intro q
          rcases List.mem_cons.mp q with q | q
          · exact absurd q (Nat.ne_of_lt (Nat.lt_succ_self _))
          · exact absurd (List.mem_singleton.mp q) (Nat.ne_of_gt hlS)
        have fin : ∀ (s2 : Shared) (G : Array GenState → Array GenState → Prop) (k0 : Heap), True := fun _ _ _ => trivial
        have hne1 : (Value.type "list" == Value.type "dict") = false := by decide
        have hne2 : (Value.type "tuple" == Value.type "dict") = false := by decide
        rcases hl with hl | hl
        · obtain ⟨ol, hol, hcl, nl, hdl⟩ := hl
          obtain ⟨ocls, odict, odata, oslots⟩ := ol
          simp only at hcl hdl
          subst hcl; subst hdl
          have hol' : (s.heap.push (newSet w)).get? l = some { cls := .type "list", dict := odict, data := .seq items nl, slots := oslots } := Heap.get?_push_of_some _ hol
          have hsl1 := F.sub_list_set
          have hsl2 := F.sub_list_frozenset
          have hl1 : (s.heap.push (newSet w)).IsList l items := ⟨_, hol', rfl, nl, rfl⟩
          unfold Builtin.«set.__init__» noKeywords Builtin.Frozenset.updateFrom
          generalize hPI : pyIter = PI
          wp_walk
          subst hPI
          refine wpAny_pyIter_list hl1 (wpAny_bind (wpAny_runValue ?_))
          refine txSet_loop ((Walks.list hh3 _ l hneI items).toS) s.heap.objs.size hSf xs hn room hval (items.size - 0) 0 _ (by omega) (Nat.zero_le _) ⟨⟨_, Heap.get?_push_size _ rfl, rfl, rfl⟩, (hl1.push _)⟩ (txSet_new (Heap.get?_push_of_some _ hS)) fun s2 hm hS2 => ?_
          have kp := keepOf (fun b o e => Heap.get?_push_of_some _ (Heap.get?_push_of_some _ e)) hm
          obtain ⟨h', g2, d', tk', os'⟩ := s2
          have eg : g2 = s.gens := hm.gens
          have ed : d' = s.drawn := hm.drawn
          have eo : os' = s.os := hm.os
          subst eg; subst ed; subst eo
          show wpAny _ _ _ _ _ _
          refine wpAny_pure ?_
          show wpAny _ _ (ret Value.none) _ _ _
          exact wpAny_pure ⟨rfl, h', tk', rfl, hS2, kp⟩
        · obtain ⟨ol, hol, hcl, nl, hdl⟩ := hl
          obtain ⟨ocls, odict, odata, oslots⟩ := ol
          simp only at hcl hdl
          subst hcl; subst hdl
          have hol' : (s.heap.push (newSet w)).get? l = some { cls := .type "tuple", dict := odict, data := .seq items nl, slots := oslots } := Heap.get?_push_of_some _ hol
          have hsl1 := F.sub_tuple_set
          have hsl2 := F.sub_tuple_frozenset
          have hl1 : (s.heap.push (newSet w)).IsTuple l items := ⟨_, hol', rfl, nl, rfl⟩
          unfold Builtin.«set.__init__» noKeywords Builtin.Frozenset.updateFrom
          generalize hPI : pyIter = PI
          wp_walk
          subst hPI
          refine wpAny_pyIter_tuple hl1 (wpAny_bind (wpAny_runValue ?_))
          refine txSet_loop ((Walks.tuple hh3 _ l hneI items).toS) s.heap.objs.size hSf xs hn room hval (items.size - 0) 0 _ (by omega) (Nat.zero_le _) ⟨⟨_, Heap.get?_push_size _ rfl, rfl, rfl⟩, (hl1.push _)⟩ (txSet_new (Heap.get?_push_of_some _ hS)) fun s2 hm hS2 => ?_
          have kp := keepOf (fun b o e => Heap.get?_push_of_some _ (Heap.get?_push_of_some _ e)) hm
          obtain ⟨h', g2, d', tk', os'⟩ := s2
          have eg : g2 = s.gens := hm.gens
          have ed : d' = s.drawn := hm.drawn
          have eo : os' = s.os := hm.os
          subst eg; subst ed; subst eo
          show wpAny _ _ _ _ _ _
          refine wpAny_pure ?_
          show wpAny _ _ (ret Value.none) _ _ _
          exact wpAny_pure ⟨rfl, h', tk', rfl, hS2, kp⟩
      · cases r2 with
        | error e => exact hr2
        | ok fl2 =>
          cases fl2 with
          | ret r =>
            obtain ⟨rfl, h', tk, rfl, hS', hk'⟩ := hr2
            repeat (any_goals (first | assumption | wp_step))
            exact h _ _ hS' hk'
          | _ => exact hr2.elim
    | _ => exact hr.elim
end
end MP
/-! MP0b: sorted(set(xs)), len(set(xs)). -/
namespace MP
open PySem PySem.Spec PyProof.Rows L2
section
variable {P : Program} {w : World} {A : Around} {E : Value → Shared → Prop} {s : Shared}
theorem strs_all : ∀ (l : List Value), (∀ v ∈ l, ∃ z u, v = Value.str z u) → ∃ zs, PyProof.Rows.StrsAre l zs
  | [], _ => ⟨[], .nil⟩
  | v :: r, h => by
    obtain ⟨z, u, rfl⟩ := h v List.mem_cons_self
    obtain ⟨zs, q⟩ := strs_all r fun x hx => h x (List.mem_cons_of_mem _ hx)
    exact ⟨z :: zs, .cons z u q⟩
def vTx : Value → Str
  | .str z _ => z
  | _ => ⟨#[]⟩
theorem strs_map : ∀ {l : List Value} {zs : List Str}, PyProof.Rows.StrsAre l zs → l.map vTx = zs
  | _, _, .nil => rfl
  | _, _, .cons z u r => by rw [List.map_cons, strs_map r]; rfl
theorem sorted_txs {a : Addr} {M : List Str} {Q : Value → Shared → Prop} (R : TxSet P w s.heap a M) (hh : A.handled = none) (h64 : M.length < 64)
    (hQ : ∀ s' p (out : Array Value) (c : Nat) (ys : List Str), (∀ b o, s.heap.get? b = some o → s'.heap.get? b = some o) → s'.gens = s.gens → s'.os = s.os → s.heap.objs.size ≤ p →
      s'.heap.get? p = some (seqObj "list" out c) → PyProof.Rows.StrsAre out.toList ys → ys.Perm M → sortedS ys = true → Q (.ref p) s') :
    wpAny (model P w) A (call (.builtin "sorted") [.ref a]) Q E s := by
  obtain ⟨o, es, ep, t, ho, hex, hd, g, pm0, nd, hb, hf, hr, hl⟩ := R.ex
  refine Calls.call_function_entry kind_sorted plain_sorted entry_sorted (args_sorted1 _) ?_
  unfold Builtin.«sorted»
  refine wpAny_bind (m := checkCount "sorted" 1 1 _) (wpAny_pure (wpAny_bind (collect_set (A := A.in1) hh ⟨o, ho, hex.1, hd⟩ hf hb hr hl fun s1 vs k1 hz g1 o1 pm => ?_)))
  have sz : es.toList.length = M.length := by rw [← pm0.length_eq, List.length_map]
  have hvl : vs.length = M.length := by rw [pm.length_eq, List.length_map, sz]
  obtain ⟨zs, hS⟩ := strs_all vs fun v hv => by
    obtain ⟨e, he, q⟩ := List.mem_map.mp (pm.mem_iff.mp hv)
    obtain ⟨z, u, h1, _⟩ := g e he
    exact ⟨z, u, by rw [← q]; exact h1⟩
  have pz : zs.Perm M := by
    have q := pm.map vTx
    rw [strs_map hS, List.map_map] at q
    exact q.trans pm0
  refine wpAny_bind (wpAny_newList ?_ (by rw [hvl, sizeLine_eq]; omega))
  have hoL : (s1.heap.push (seqObj "list" vs.toArray 0)).get? s1.heap.objs.size = some (seqObj "list" vs.toArray 0) := Heap.get?_push_size _ rfl
  refine wpAny_bind (wpAny_holding (wpAny_call_entry slot_list_sort ⟨_, hoL, rfl⟩ entry_list_sort
    (list_sort_treeK strKind_oneLt (s := { s1 with heap := s1.heap.push (seqObj "list" vs.toArray 0) }) hoL hS.keysOf (fun v1 v2 rest e => keyKind_strs (by rw [← e]; exact hS)) (by rw [hvl]; exact h64) fun st' hp hs => ⟨_, rfl, ?_⟩) (args_list_sort _)))
  obtain ⟨ys, y1, y2, y3⟩ := sorted_out_str hS hp hs
  obtain ⟨c, hc⟩ := sortedHeap_at (vs := vs) (out := (arrOf st').map (·.2)) hoL
  refine wpAny_pure ⟨_, rfl, hQ _ s1.heap.objs.size _ c ys (fun b u e => ?_) g1 o1 hz hc y1 (y2.trans pz) y3⟩
  have q := k1 b u e
  have lt := Heap.lt_size q
  show (sortedHeap (s1.heap.push (seqObj "list" vs.toArray 0)) s1.heap.objs.size vs _).get? b = some u
  rw [sortedHeap_old (Nat.ne_of_lt lt) (by rw [size_push']; exact Nat.lt_succ_of_lt lt)]
  exact Heap.get?_push_of_some _ q
theorem len_txs {a : Addr} {M : List Str} {Q : Value → Shared → Prop} (R : TxSet P w s.heap a M) (h64 : M.length < 4000) (hQ : ∀ k t, Q (.int (M.length : Nat) t) { s with toks := k }) :
    wpAny (model P w) A (call (.builtin "len") [.ref a]) Q E s := by
  obtain ⟨o, es, ep, t, ho, hex, hd, g, pm0, nd, hb, hf, hr, hl⟩ := R.ex
  have sz : es.size = M.length := by rw [← pm0.length_eq, List.length_map, Array.length_toList]
  refine call_len_set ho hex hd hf (by rw [sz]; omega) ?_
  rw [sz]
  exact hQ _ _
end
section
variable {X : Cx} {a : Expr} {ta : TE} {p p2 q pos : Pos}
def IsTxs (K : PySem.W.Frag) (H : Hp) (x : V) (xs : List Str) : Prop := ∃ l, x = .ref l ∧ (SqL K H l (xs.map V.str) ∨ SqT K H l (xs.map V.str))
def rSortSet (K : PySem.W.Frag) : V → Hp → VK → Prop := fun x H Q => ∃ xs : List Str, IsTxs K H x xs ∧ (xs.length < 4000 ∧ (dedS xs).length < 64) ∧ ∀ ys l, ys.Perm (dedS xs) → sortedS ys = true → H l = none → Q (.ref l) (upd H l (.lst (ys.map V.str)))
def rLenSet (K : PySem.W.Frag) : V → Hp → VK → Prop := fun x H Q => ∃ xs : List Str, IsTxs K H x xs ∧ (xs.length < 4000 ∧ (dedS xs).length < 64) ∧ Q (.int (dedS xs).length) H
theorem set_here {pins : List (Addr × Obj)} {σ : L2.St} {H : Hp} {s : Shared} {x : V} {v : Value} {xs : List Str} {Q : Value → Shared → Prop} {E : Value → Shared → Prop} (hc : X.calm = true) (I : Inv X pins σ H s) (r : RelV x v) (h : IsTxs X.K H x xs) (h64 : xs.length < 4000)
    (k : ∀ a s', Inv X pins σ H s' → TxSet X.prog X.w s'.heap a (dedS xs) → Q (.ref a) s') : wpAny (model X.prog X.w) X.A (call (.type "set") [v]) Q E s := by
  obtain ⟨l, rfl, hq⟩ := h
  cases r
  rcases hq with hq | hq
  · obtain ⟨its, rv, pl, hz⟩ := I.list hq
    exact set_of_seq (I.ok.hd hc) (.inl pl.isList) (xs := xs) (by simpa using rv.strs) (by unfold scanBound; omega) fun h' tk hS hk => k _ _ (I.kept hk) hS
  · obtain ⟨its, rv, pl, hz⟩ := I.tuple hq
    exact set_of_seq (I.ok.hd hc) (.inr pl) (xs := xs) (by simpa using rv.strs) (by unfold scanBound; omega) fun h' tk hS hk => k _ _ (I.kept hk) hS
theorem pe_sortSet (hc : X.calm = true) (hg : Gl X "sorted") (hm : X.mg "sorted" = none) (hg2 : Gl X "set") (hm2 : X.mg "set" = none) (ha : PE X a ta)
    (na : starEach [a] X.env = (false, eval a X.env) :: starEach [] X.env := by rfl) : PE X (.Call (.Name "sorted" p) [.Call (.Name "set" p2) [a] [] q] [] pos) (fun σ H Q => ta σ H fun x H1 => rSortSet X.K x H1 Q) := by
  refine ⟨fun pins s σ H Q I h => ?_⟩
  refine Call_ (ld_blt I hg hm PyProof.Rows.boot_sorted (PyProof.Rows.callWith_builtin1 (PyProof.Rows.args_cons ?_ rfl) rfl rfl))
  refine Call_ (ld_blt I hg2 hm2 PyProof.Rows.boot_set (PyProof.Rows.callWith_type1 (PyProof.Rows.args_cons (thn (ha.run pins s σ H _ I h) fun v s1 ⟨x, H1, I1, r1, q1⟩ => PyProof.Rows.args_nil ?_) na) na rfl))
  obtain ⟨xs, hx, h64, q1⟩ := q1
  refine set_here hc I1 r1 hx h64.1 fun b s2 I2 hS => PyProof.Rows.args_nil ?_
  refine sorted_txs hS (I2.ok.hd hc) h64.2 fun s3 l out c ys k g o hp hob hS2 pm sd => ?_
  have hlen : (ys.map V.str).length ≤ sizeLine := by
    rw [List.length_map, pm.length_eq, sizeLine_eq]
    omega
  have hn : H1 l = none := I2.hok.fresh hp
  have J : Inv X pins σ (upd H1 l (.lst (ys.map V.str))) { s2 with heap := s3.heap, gens := s3.gens, drawn := s3.drawn, toks := s3.toks } :=
    I2.call (ch := []) (Un.laid k hp hn) (I2.hok.laid k hp ⟨hlen, out.toList, c, vals_of_strs hS2, hob⟩) (by rw [g]; exact I2.bare) (fun _ z => nomatch z)
  have e : s3 = { s2 with heap := s3.heap, gens := s3.gens, drawn := s3.drawn, toks := s3.toks } := by
    cases s3
    cases s2
    cases o
    rfl
  rw [e]
  exact ⟨.ref l, _, J, rfl, q1 ys l pm sd hn⟩
theorem pe_lenSetS (hc : X.calm = true) (hg : Gl X "len") (hm : X.mg "len" = none) (hg2 : Gl X "set") (hm2 : X.mg "set" = none) (ha : PE X a ta)
    (na : starEach [a] X.env = (false, eval a X.env) :: starEach [] X.env := by rfl) : PE X (.Call (.Name "len" p) [.Call (.Name "set" p2) [a] [] q] [] pos) (fun σ H Q => ta σ H fun x H1 => rLenSet X.K x H1 Q) := by
  refine ⟨fun pins s σ H Q I h => ?_⟩
  refine Call_ (ld_blt I hg hm PySem.boot_len (PyProof.Rows.callWith_builtin1 (PyProof.Rows.args_cons ?_ rfl) rfl rfl))
  refine Call_ (ld_blt I hg2 hm2 PyProof.Rows.boot_set (PyProof.Rows.callWith_type1 (PyProof.Rows.args_cons (thn (ha.run pins s σ H _ I h) fun v s1 ⟨x, H1, I1, r1, q1⟩ => PyProof.Rows.args_nil ?_) na) na rfl))
  obtain ⟨xs, hx, h64, q1⟩ := q1
  refine set_here hc I1 r1 hx h64.1 fun b s2 I2 hS => PyProof.Rows.args_nil ?_
  exact len_txs hS (by omega) fun k t => ⟨.int (dedS xs).length, H1, I2.tok _, ⟨t, rfl⟩, q1⟩
end
end MP
/-! MP0c: sorted(d) of a dict of any many keys, all ints. -/
namespace MP
open PySem PySem.Spec PyProof.Rows L2
variable {X : Cx}
def rSortedDN : List V → Hp → VK → Prop := fun xs H Q => ∃ (a : Addr) (kvs : List (Key × V)) (ks : List Int), xs = [.ref a] ∧ Rd H a (.dK kvs) ∧ kvs.map (·.1) = ks.map Sum.inl ∧ ks.length ≤ sizeLine ∧
  ∀ (ys : List Int) (p : Addr), ys.Perm ks → ys.Pairwise (· ≤ ·) → H p = none → Q (.ref p) (upd H p (.lst (ys.map V.int)))
theorem call_sortedDN (hcalm : X.calm = true) : CallR X (.builtin "sorted") rSortedDN := by
  intro pins s σ H xs us Q I r q
  obtain ⟨a, kvs, ks, ex, hd, hks, hsz, q⟩ := q
  subst ex
  obtain ⟨u, eu, rx⟩ := vals1 r
  subst eu
  cases rx
  obtain ⟨z, lo, vs, rel, dd⟩ := dk_rd I.hok hd
  obtain ⟨ep, hat⟩ := dd.dictAt
  have hkeys : vs.map (·.1) = ks.map Sum.inl := rel.keys.symm.trans hks
  have hl : vs.length = ks.length := by
    have e := congrArg List.length hkeys
    rw [List.length_map, List.length_map] at e
    exact e
  refine Calls.call_function_entry PyProof.Rows.kind_sorted PyProof.Rows.plain_sorted PyProof.Rows.entry_sorted (PyProof.Rows.args_sorted1 _) ?_
  unfold Builtin.«sorted»
  refine wpAny_bind (m := checkCount "sorted" 1 1 _) (wpAny_pure ?_)
  refine wpAny_bind (PySem.W.kdu_collect (A := X.A.in1) (PySem.W.kdl_dict (knd := mixKind X.prog X.w) (kvs := vs) (ep := ep) lo) (I.ok.hd hcalm) hat (by rw [hl]; exact hsz) fun h' tk acc hk hacc => ?_)
  have hal : acc.toList.length = ks.length := by rw [Array.length_toList, hacc.1, hl]
  have hS : IntsAre acc.toList ks := ints_each hal fun j v e => by
    obtain ⟨k, x, e1, e2⟩ := hacc.2 j v (by rw [← Array.getElem?_toList]; exact e)
    have e3 : (vs.map (·.1))[j]? = some k := by rw [List.getElem?_map, e1]; rfl
    rw [hkeys, List.getElem?_map] at e3
    cases e4 : ks[j]? with
    | none => rw [e4] at e3; cases e3
    | some y =>
      rw [e4] at e3
      have e5 : Sum.inl y = k := Option.some.inj e3
      subst e5
      rcases keyIs_shape (show keyIs (Sum.inl y) v = true from e2) with ⟨i, t, ek, ev⟩ | ⟨z, t, ek, ev⟩
      · cases ek
        exact ⟨y, t, rfl, ev⟩
      · cases ek
  have I1 : Inv X pins σ H { s with heap := h', toks := tk } := I.kept hk
  have hz : acc.toList.length ≤ sizeLine := by rw [hal]; exact hsz
  refine wpAny_bind (wpAny_newList ?_ hz)
  have hoL : (h'.push (seqObj "list" acc.toList.toArray 0)).get? h'.objs.size = some (seqObj "list" acc.toList.toArray 0) := Heap.get?_push_size _ rfl
  show wpAny _ _ _ _ _ { s with heap := h'.push (seqObj "list" acc.toList.toArray 0), toks := tk }
  refine wpAny_bind (wpAny_holding (wpAny_call_entry PyProof.Rows.slot_list_sort ⟨_, hoL, rfl⟩ PyProof.Rows.entry_list_sort
    (SrtO.list_sort_ord (s := { s with heap := h'.push (seqObj "list" acc.toList.toArray 0), toks := tk }) SrtO.swo_int hoL hz (fun h2 => SrtO.ints_sortable hS h2) fun out g1 g2 => ⟨_, rfl, ?_⟩) (PyProof.Rows.args_list_sort _)))
  obtain ⟨k1, k2, k3⟩ := SrtO.ints_out hS g1 g2
  obtain ⟨e', he'⟩ := PyProof.Rows.sortedHeap_at (vs := acc.toList) (out := out.toArray) hoL
  have hlen : ((out.map SrtO.iv).map V.int).length ≤ sizeLine := by
    rw [List.length_map, k2.length_eq]
    exact hsz
  refine wpAny_pure ⟨_, rfl, .ref h'.objs.size, upd H h'.objs.size (.lst ((out.map SrtO.iv).map V.int)), I1.laid (t' := tk) (fun b u e => ?_) (Nat.le_refl _)
    (show ObjOk X.prog X.w _ _ _ (.lst ((out.map SrtO.iv).map V.int)) from ⟨hlen, out, e', vals_of_ints k1, he'⟩), rfl, q _ _ k2 k3 (I1.hok.fresh (Nat.le_refl _))⟩
  have hb : b < h'.objs.size := Heap.lt_size e
  rw [PyProof.Rows.sortedHeap_old (Nat.ne_of_lt hb) (by rw [size_push']; exact Nat.lt_succ_of_lt hb)]
  exact Heap.get?_push_of_some _ e
end MP
/-! MP1: pure values D, owned trees T, what they stand for in the abstract heap. -/
namespace MP
open PySem PySem.Spec PyProof.Rows L2
inductive D where
  | non | bl (b : Bool) | int (i : Int) | str (x : Str)
  | tup (xs : List D) | lst (xs : List D)
  | dK (kvs : List (Key × D)) | dT (kvs : List (List Key × D))
  | obj (c : Str) (fs : List (Str × D))
  | glo (x : Str) | scr (ns : List Int)
  deriving Inhabited
inductive T where
  | sh (d : D) | lst (xs : List T) | tup (xs : List T)
  | dK (kvs : List (Key × T)) | dT (kvs : List (List Key × T))
  | obj (c : Str) (fs : List (Str × T)) | lk (n : Nat) (d : D)
  deriving Inhabited
mutual
def T.toD : T → D
  | .sh d => d
  | .lst xs => .lst (Ts.toD xs)
  | .tup xs => .tup (Ts.toD xs)
  | .dK kvs => .dK (Tk.toD kvs)
  | .dT kvs => .dT (Tt.toD kvs)
  | .obj c fs => .obj c (Tf.toD fs)
  | .lk _ d => d
def Ts.toD : List T → List D
  | [] => []
  | t :: r => t.toD :: Ts.toD r
def Tk.toD : List (Key × T) → List (Key × D)
  | [] => []
  | (k, t) :: r => (k, t.toD) :: Tk.toD r
def Tt.toD : List (List Key × T) → List (List Key × D)
  | [] => []
  | (k, t) :: r => (k, t.toD) :: Tt.toD r
def Tf.toD : List (Str × T) → List (Str × D)
  | [] => []
  | (k, t) :: r => (k, t.toD) :: Tf.toD r
end
/-! no locked node -/
mutual
def T.free : T → Bool
  | .sh _ => true
  | .lst xs => Ts.free xs
  | .tup xs => Ts.free xs
  | .dK kvs => Tk.free kvs
  | .dT kvs => Tt.free kvs
  | .obj _ fs => Tf.free fs
  | .lk _ _ => false
def Ts.free : List T → Bool
  | [] => true
  | t :: r => t.free && Ts.free r
def Tk.free : List (Key × T) → Bool
  | [] => true
  | (_, t) :: r => t.free && Tk.free r
def Tt.free : List (List Key × T) → Bool
  | [] => true
  | (_, t) :: r => t.free && Tt.free r
def Tf.free : List (Str × T) → Bool
  | [] => true
  | (_, t) :: r => t.free && Tf.free r
end
def isDict : HO → Bool
  | .dK _ => true
  | .dT _ => true
  | _ => false
/-- the reading order of abstract heaps: kept, or a dict that is locked -/
def Le (F H : Hp) : Prop := ∀ a o, F a = some o → H a = some o ∨ (isDict o = true ∧ ∃ x, H a = some (.frz x o))
theorem Le.refl {H : Hp} : Le H H := fun _ _ h => .inl h
theorem Le.trans {A B C : Hp} (x : Le A B) (y : Le B C) : Le A C := fun a o h => by
  rcases x a o h with h | ⟨d, z, h⟩
  · exact y a o h
  · rcases y a _ h with h | ⟨d2, _⟩
    · exact .inr ⟨d, z, h⟩
    · cases d2
theorem Le.upd_new {H : Hp} {p : Addr} {o : HO} (h : H p = none) : Le H (upd H p o) := fun a u r => .inl (by
  have ne : a ≠ p := fun e => by rw [e, h] at r; cases r
  rw [upd_ne ne]; exact r)
theorem Le.ex {F H : Hp} (l : Le F H) {a : Addr} {o : HO} (h : F a = some o) (n : isDict o = false) : H a = some o := by
  rcases l a o h with h | ⟨d, _⟩
  · exact h
  · rw [n] at d; cases d
theorem Le.rd {F H : Hp} (l : Le F H) {a : Addr} {o : HO} (h : Rd F a o) : Rd H a o := by
  rcases h with h | ⟨x, h⟩
  · rcases l a o h with h | ⟨_, x, h⟩
    · exact .inl h
    · exact .inr ⟨x, h⟩
  · exact .inr ⟨x, l.ex h rfl⟩
/-- what the values are read in: the written part, the classes' addresses, the globals', the locked ones' -/
structure Cv where
  K : PySem.W.Frag
  cl : Str → Addr
  gl : Str → Addr
section
variable (c : Cv)
mutual
def R (F : Hp) : D → V → Prop
  | .non, v => v = .non
  | .bl b, v => v = .bl b
  | .int i, v => v = .int i
  | .str x, v => v = .str x
  | .tup ds, v => ∃ a vs, v = .ref a ∧ SqT c.K F a vs ∧ RL F ds vs
  | .lst ds, v => ∃ a vs, v = .ref a ∧ F a = some (.lst vs) ∧ RL F ds vs
  | .dK kvs, v => ∃ a ks, v = .ref a ∧ Rd F a (.dK ks) ∧ RK F kvs ks
  | .dT kvs, v => ∃ a ks, v = .ref a ∧ Rd F a (.dT ks) ∧ RT' F kvs ks
  | .obj k fs, v => ∃ a dx ks, v = .ref a ∧ F a = some (.ins (c.cl k) dx ks) ∧ RF F fs ks
  | .glo x, v => v = .ref (c.gl x)
  | .scr ns, v => ∃ a, v = .ref a ∧ SqL c.K F a (ns.map V.int)
def RL (F : Hp) : List D → List V → Prop
  | [], vs => vs = []
  | d :: r, vs => ∃ v w, vs = v :: w ∧ R F d v ∧ RL F r w
def RK (F : Hp) : List (Key × D) → List (Key × V) → Prop
  | [], vs => vs = []
  | (k, d) :: r, vs => ∃ v w, vs = (k, v) :: w ∧ R F d v ∧ RK F r w
def RT' (F : Hp) : List (List Key × D) → List (List Key × V) → Prop
  | [], vs => vs = []
  | (k, d) :: r, vs => ∃ v w, vs = (k, v) :: w ∧ R F d v ∧ RT' F r w
def RF (F : Hp) : List (Str × D) → List (Str × V) → Prop
  | [], vs => vs = []
  | (k, d) :: r, vs => ∃ v w, vs = (k, v) :: w ∧ R F d v ∧ RF F r w
end
mutual
def RO (G : Nat → Option Addr) (F H : Hp) : T → V → List Addr → Prop
  | .sh d, v, L => L = [] ∧ R c F d v
  | .lst ts, v, L => ∃ a vs L1, v = .ref a ∧ H a = some (.lst vs) ∧ ROL G F H ts vs L1 ∧ L = a :: L1
  | .tup ts, v, L => ∃ a vs L1, v = .ref a ∧ H a = some (.tup vs) ∧ ROL G F H ts vs L1 ∧ L = a :: L1
  | .dK kvs, v, L => ∃ a ks L1, v = .ref a ∧ H a = some (.dK ks) ∧ ROK G F H kvs ks L1 ∧ L = a :: L1
  | .dT kvs, v, L => ∃ a ks L1, v = .ref a ∧ H a = some (.dT ks) ∧ ROT G F H kvs ks L1 ∧ L = a :: L1
  | .obj k fs, v, L => ∃ a dx ks L1, v = .ref a ∧ H a = some (.ins (c.cl k) dx ks) ∧ ROF G F H fs ks L1 ∧ L = a :: L1
  | .lk n d, v, L => L = [] ∧ ∃ a, G n = some a ∧ v = .ref a ∧ ((∃ ds vs, d = .lst ds ∧ H a = some (.lst vs) ∧ RL c F ds vs) ∨
      (∃ o ds vs, d = .dK ds ∧ H a = some (.frz o (.dK vs)) ∧ RK c F ds vs) ∨ (∃ o ds vs, d = .dT ds ∧ H a = some (.frz o (.dT vs)) ∧ RT' c F ds vs))
def ROL (G : Nat → Option Addr) (F H : Hp) : List T → List V → List Addr → Prop
  | [], vs, L => vs = [] ∧ L = []
  | t :: r, vs, L => ∃ v w L1 L2, vs = v :: w ∧ L = L1 ++ L2 ∧ RO G F H t v L1 ∧ ROL G F H r w L2
def ROK (G : Nat → Option Addr) (F H : Hp) : List (Key × T) → List (Key × V) → List Addr → Prop
  | [], vs, L => vs = [] ∧ L = []
  | (k, t) :: r, vs, L => ∃ v w L1 L2, vs = (k, v) :: w ∧ L = L1 ++ L2 ∧ RO G F H t v L1 ∧ ROK G F H r w L2
def ROT (G : Nat → Option Addr) (F H : Hp) : List (List Key × T) → List (List Key × V) → List Addr → Prop
  | [], vs, L => vs = [] ∧ L = []
  | (k, t) :: r, vs, L => ∃ v w L1 L2, vs = (k, v) :: w ∧ L = L1 ++ L2 ∧ RO G F H t v L1 ∧ ROT G F H r w L2
def ROF (G : Nat → Option Addr) (F H : Hp) : List (Str × T) → List (Str × V) → List Addr → Prop
  | [], vs, L => vs = [] ∧ L = []
  | (k, t) :: r, vs, L => ∃ v w L1 L2, vs = (k, v) :: w ∧ L = L1 ++ L2 ∧ RO G F H t v L1 ∧ ROF G F H r w L2
end
end
variable {c : Cv} {F F' H H' : Hp} {G : Nat → Option Addr}
theorem Le.sqT {K : PySem.W.Frag} (l : Le F F') {a : Addr} {vs : List V} (h : SqT K F a vs) : SqT K F' a vs := h.elim (fun x => .inl (l.rd x)) .inr
theorem Le.sqL {K : PySem.W.Frag} (l : Le F F') {a : Addr} {vs : List V} (h : SqL K F a vs) : SqL K F' a vs := h.elim (fun x => .inl (l.rd x)) .inr
mutual
theorem R.mono (l : Le F F') : ∀ {d : D} {v : V}, R c F d v → R c F' d v
  | .non, _, h => by simpa only [R] using h
  | .bl _, _, h => by simpa only [R] using h
  | .int _, _, h => by simpa only [R] using h
  | .str _, _, h => by simpa only [R] using h
  | .tup ds, _, h => by
    simp only [R] at h ⊢
    obtain ⟨a, vs, e, s, r⟩ := h
    exact ⟨a, vs, e, l.sqT s, RL.mono l r⟩
  | .lst ds, _, h => by
    simp only [R] at h ⊢
    obtain ⟨a, vs, e, s, r⟩ := h
    exact ⟨a, vs, e, l.ex s rfl, RL.mono l r⟩
  | .dK kvs, _, h => by
    simp only [R] at h ⊢
    obtain ⟨a, vs, e, s, r⟩ := h
    exact ⟨a, vs, e, l.rd s, RK.mono l r⟩
  | .dT kvs, _, h => by
    simp only [R] at h ⊢
    obtain ⟨a, vs, e, s, r⟩ := h
    exact ⟨a, vs, e, l.rd s, RT'.mono l r⟩
  | .obj k fs, _, h => by
    simp only [R] at h ⊢
    obtain ⟨a, dx, vs, e, s, r⟩ := h
    exact ⟨a, dx, vs, e, l.ex s rfl, RF.mono l r⟩
  | .glo _, _, h => by simpa only [R] using h
  | .scr _, _, h => by
    simp only [R] at h ⊢
    obtain ⟨a, e, s⟩ := h
    exact ⟨a, e, l.sqL s⟩
theorem RL.mono (l : Le F F') : ∀ {d : List D} {v : List V}, RL c F d v → RL c F' d v
  | [], _, h => by simpa only [RL] using h
  | d :: r, _, h => by
    simp only [RL] at h ⊢
    obtain ⟨v, w, e, x, y⟩ := h
    exact ⟨v, w, e, R.mono l x, RL.mono l y⟩
theorem RK.mono (l : Le F F') : ∀ {d : List (Key × D)} {v : List (Key × V)}, RK c F d v → RK c F' d v
  | [], _, h => by simpa only [RK] using h
  | (k, d) :: r, _, h => by
    simp only [RK] at h ⊢
    obtain ⟨v, w, e, x, y⟩ := h
    exact ⟨v, w, e, R.mono l x, RK.mono l y⟩
theorem RT'.mono (l : Le F F') : ∀ {d : List (List Key × D)} {v : List (List Key × V)}, RT' c F d v → RT' c F' d v
  | [], _, h => by simpa only [RT'] using h
  | (k, d) :: r, _, h => by
    simp only [RT'] at h ⊢
    obtain ⟨v, w, e, x, y⟩ := h
    exact ⟨v, w, e, R.mono l x, RT'.mono l y⟩
theorem RF.mono (l : Le F F') : ∀ {d : List (Str × D)} {v : List (Str × V)}, RF c F d v → RF c F' d v
  | [], _, h => by simpa only [RF] using h
  | (k, d) :: r, _, h => by
    simp only [RF] at h ⊢
    obtain ⟨v, w, e, x, y⟩ := h
    exact ⟨v, w, e, R.mono l x, RF.mono l y⟩
end
/-- the objects at the addresses of L, and the locked ones, are kept -/
def Kept (G : Nat → Option Addr) (L : List Addr) (H H' : Hp) : Prop := (∀ a ∈ L, H' a = H a) ∧ ∀ n a, G n = some a → H' a = H a
theorem Kept.left {L1 L2 : List Addr} (k : Kept G (L1 ++ L2) H H') : Kept G L1 H H' := ⟨fun a h => k.1 a (List.mem_append_left _ h), k.2⟩
theorem Kept.right {L1 L2 : List Addr} (k : Kept G (L1 ++ L2) H H') : Kept G L2 H H' := ⟨fun a h => k.1 a (List.mem_append_right _ h), k.2⟩
theorem Kept.tail {a : Addr} {L : List Addr} (k : Kept G (a :: L) H H') : Kept G L H H' := ⟨fun b h => k.1 b (List.mem_cons_of_mem _ h), k.2⟩
theorem Kept.head {a : Addr} {L : List Addr} (k : Kept G (a :: L) H H') : H' a = H a := k.1 a List.mem_cons_self
mutual
theorem RO.kept (l : Le F F') : ∀ {t : T} {v : V} {L : List Addr}, Kept G L H H' → RO c G F H t v L → RO c G F' H' t v L
  | .sh d, _, _, k, h => by
    simp only [RO] at h ⊢
    exact ⟨h.1, h.2.mono l⟩
  | .lst ts, _, _, k, h => by
    simp only [RO] at h ⊢
    obtain ⟨a, vs, L1, e, s, r, rfl⟩ := h
    exact ⟨a, vs, L1, e, k.head.trans s, ROL.kept l k.tail r, rfl⟩
  | .tup ts, _, _, k, h => by
    simp only [RO] at h ⊢
    obtain ⟨a, vs, L1, e, s, r, rfl⟩ := h
    exact ⟨a, vs, L1, e, k.head.trans s, ROL.kept l k.tail r, rfl⟩
  | .dK ts, _, _, k, h => by
    simp only [RO] at h ⊢
    obtain ⟨a, vs, L1, e, s, r, rfl⟩ := h
    exact ⟨a, vs, L1, e, k.head.trans s, ROK.kept l k.tail r, rfl⟩
  | .dT ts, _, _, k, h => by
    simp only [RO] at h ⊢
    obtain ⟨a, vs, L1, e, s, r, rfl⟩ := h
    exact ⟨a, vs, L1, e, k.head.trans s, ROT.kept l k.tail r, rfl⟩
  | .obj q ts, _, _, k, h => by
    simp only [RO] at h ⊢
    obtain ⟨a, dx, vs, L1, e, s, r, rfl⟩ := h
    exact ⟨a, dx, vs, L1, e, k.head.trans s, ROF.kept l k.tail r, rfl⟩
  | .lk n d, _, _, k, h => by
    simp only [RO] at h ⊢
    obtain ⟨e, a, g, e2, h⟩ := h
    refine ⟨e, a, g, e2, ?_⟩
    rw [k.2 n a g]
    rcases h with ⟨ds, vs, e3, s, r⟩ | ⟨o, ds, vs, e3, s, r⟩ | ⟨o, ds, vs, e3, s, r⟩
    · exact .inl ⟨ds, vs, e3, s, r.mono l⟩
    · exact .inr (.inl ⟨o, ds, vs, e3, s, r.mono l⟩)
    · exact .inr (.inr ⟨o, ds, vs, e3, s, r.mono l⟩)
theorem ROL.kept (l : Le F F') : ∀ {t : List T} {v : List V} {L : List Addr}, Kept G L H H' → ROL c G F H t v L → ROL c G F' H' t v L
  | [], _, _, _, h => by simpa only [ROL] using h
  | t :: r, _, _, k, h => by
    simp only [ROL] at h ⊢
    obtain ⟨v, w, L1, L2, e, rfl, x, y⟩ := h
    exact ⟨v, w, L1, L2, e, rfl, RO.kept l k.left x, ROL.kept l k.right y⟩
theorem ROK.kept (l : Le F F') : ∀ {t : List (Key × T)} {v : List (Key × V)} {L : List Addr}, Kept G L H H' → ROK c G F H t v L → ROK c G F' H' t v L
  | [], _, _, _, h => by simpa only [ROK] using h
  | (_, t) :: r, _, _, k, h => by
    simp only [ROK] at h ⊢
    obtain ⟨v, w, L1, L2, e, rfl, x, y⟩ := h
    exact ⟨v, w, L1, L2, e, rfl, RO.kept l k.left x, ROK.kept l k.right y⟩
theorem ROT.kept (l : Le F F') : ∀ {t : List (List Key × T)} {v : List (List Key × V)} {L : List Addr}, Kept G L H H' → ROT c G F H t v L → ROT c G F' H' t v L
  | [], _, _, _, h => by simpa only [ROT] using h
  | (_, t) :: r, _, _, k, h => by
    simp only [ROT] at h ⊢
    obtain ⟨v, w, L1, L2, e, rfl, x, y⟩ := h
    exact ⟨v, w, L1, L2, e, rfl, RO.kept l k.left x, ROT.kept l k.right y⟩
theorem ROF.kept (l : Le F F') : ∀ {t : List (Str × T)} {v : List (Str × V)} {L : List Addr}, Kept G L H H' → ROF c G F H t v L → ROF c G F' H' t v L
  | [], _, _, _, h => by simpa only [ROF] using h
  | (_, t) :: r, _, _, k, h => by
    simp only [ROF] at h ⊢
    obtain ⟨v, w, L1, L2, e, rfl, x, y⟩ := h
    exact ⟨v, w, L1, L2, e, rfl, RO.kept l k.left x, ROF.kept l k.right y⟩
end
/-! a tree read as a value in a heap Y that has what is frozen and what is owned -/
mutual
theorem RO.rd {Y : Hp} (l : Le F Y) (hf : ∀ n a u, G n = some a → H a = some u → Y a = some u) : ∀ {t : T} {v : V} {L : List Addr}, (∀ a ∈ L, ∀ u, H a = some u → Y a = some u) → RO c G F H t v L → R c Y t.toD v
  | .sh d, _, _, k, h => by
    simp only [RO] at h
    simp only [T.toD]
    exact h.2.mono l
  | .lst ts, _, _, k, h => by
    simp only [RO] at h
    simp only [T.toD, R]
    obtain ⟨a, vs, L1, e, s, r, rfl⟩ := h
    exact ⟨a, vs, e, k a List.mem_cons_self _ s, ROL.rd l hf (fun b hb => k b (List.mem_cons_of_mem _ hb)) r⟩
  | .tup ts, _, _, k, h => by
    simp only [RO] at h
    simp only [T.toD, R]
    obtain ⟨a, vs, L1, e, s, r, rfl⟩ := h
    exact ⟨a, vs, e, .inl (.inl (k a List.mem_cons_self _ s)), ROL.rd l hf (fun b hb => k b (List.mem_cons_of_mem _ hb)) r⟩
  | .dK ts, _, _, k, h => by
    simp only [RO] at h
    simp only [T.toD, R]
    obtain ⟨a, vs, L1, e, s, r, rfl⟩ := h
    exact ⟨a, vs, e, .inl (k a List.mem_cons_self _ s), ROK.rd l hf (fun b hb => k b (List.mem_cons_of_mem _ hb)) r⟩
  | .dT ts, _, _, k, h => by
    simp only [RO] at h
    simp only [T.toD, R]
    obtain ⟨a, vs, L1, e, s, r, rfl⟩ := h
    exact ⟨a, vs, e, .inl (k a List.mem_cons_self _ s), ROT.rd l hf (fun b hb => k b (List.mem_cons_of_mem _ hb)) r⟩
  | .obj q ts, _, _, k, h => by
    simp only [RO] at h
    simp only [T.toD, R]
    obtain ⟨a, dx, vs, L1, e, s, r, rfl⟩ := h
    exact ⟨a, dx, vs, e, k a List.mem_cons_self _ s, ROF.rd l hf (fun b hb => k b (List.mem_cons_of_mem _ hb)) r⟩
  | .lk n d, _, _, k, h => by
    simp only [RO] at h
    simp only [T.toD]
    obtain ⟨e, a, g, e2, h⟩ := h
    rcases h with ⟨ds, vs, rfl, s, r⟩ | ⟨o, ds, vs, rfl, s, r⟩ | ⟨o, ds, vs, rfl, s, r⟩
    · simp only [R]; exact ⟨a, vs, e2, hf n a _ g s, r.mono l⟩
    · simp only [R]; exact ⟨a, vs, e2, .inr ⟨o, hf n a _ g s⟩, r.mono l⟩
    · simp only [R]; exact ⟨a, vs, e2, .inr ⟨o, hf n a _ g s⟩, r.mono l⟩
theorem ROL.rd {Y : Hp} (l : Le F Y) (hf : ∀ n a u, G n = some a → H a = some u → Y a = some u) : ∀ {t : List T} {v : List V} {L : List Addr}, (∀ a ∈ L, ∀ u, H a = some u → Y a = some u) → ROL c G F H t v L → RL c Y (Ts.toD t) v
  | [], _, _, _, h => by
    simp only [ROL] at h
    simp only [Ts.toD, RL]
    exact h.1
  | t :: r, _, _, k, h => by
    simp only [ROL] at h
    simp only [Ts.toD, RL]
    obtain ⟨v, w, L1, L2, e, rfl, x, y⟩ := h
    exact ⟨v, w, e, RO.rd l hf (fun b hb => k b (List.mem_append_left _ hb)) x, ROL.rd l hf (fun b hb => k b (List.mem_append_right _ hb)) y⟩
theorem ROK.rd {Y : Hp} (l : Le F Y) (hf : ∀ n a u, G n = some a → H a = some u → Y a = some u) : ∀ {t : List (Key × T)} {v : List (Key × V)} {L : List Addr}, (∀ a ∈ L, ∀ u, H a = some u → Y a = some u) → ROK c G F H t v L → RK c Y (Tk.toD t) v
  | [], _, _, _, h => by
    simp only [ROK] at h
    simp only [Tk.toD, RK]
    exact h.1
  | (_, t) :: r, _, _, k, h => by
    simp only [ROK] at h
    simp only [Tk.toD, RK]
    obtain ⟨v, w, L1, L2, e, rfl, x, y⟩ := h
    exact ⟨v, w, e, RO.rd l hf (fun b hb => k b (List.mem_append_left _ hb)) x, ROK.rd l hf (fun b hb => k b (List.mem_append_right _ hb)) y⟩
theorem ROT.rd {Y : Hp} (l : Le F Y) (hf : ∀ n a u, G n = some a → H a = some u → Y a = some u) : ∀ {t : List (List Key × T)} {v : List (List Key × V)} {L : List Addr}, (∀ a ∈ L, ∀ u, H a = some u → Y a = some u) → ROT c G F H t v L → RT' c Y (Tt.toD t) v
  | [], _, _, _, h => by
    simp only [ROT] at h
    simp only [Tt.toD, RT']
    exact h.1
  | (_, t) :: r, _, _, k, h => by
    simp only [ROT] at h
    simp only [Tt.toD, RT']
    obtain ⟨v, w, L1, L2, e, rfl, x, y⟩ := h
    exact ⟨v, w, e, RO.rd l hf (fun b hb => k b (List.mem_append_left _ hb)) x, ROT.rd l hf (fun b hb => k b (List.mem_append_right _ hb)) y⟩
theorem ROF.rd {Y : Hp} (l : Le F Y) (hf : ∀ n a u, G n = some a → H a = some u → Y a = some u) : ∀ {t : List (Str × T)} {v : List (Str × V)} {L : List Addr}, (∀ a ∈ L, ∀ u, H a = some u → Y a = some u) → ROF c G F H t v L → RF c Y (Tf.toD t) v
  | [], _, _, _, h => by
    simp only [ROF] at h
    simp only [Tf.toD, RF]
    exact h.1
  | (_, t) :: r, _, _, k, h => by
    simp only [ROF] at h
    simp only [Tf.toD, RF]
    obtain ⟨v, w, L1, L2, e, rfl, x, y⟩ := h
    exact ⟨v, w, e, RO.rd l hf (fun b hb => k b (List.mem_append_left _ hb)) x, ROF.rd l hf (fun b hb => k b (List.mem_append_right _ hb)) y⟩
end
/-! without locked nodes -/
mutual
theorem RO.noG {G' : Nat → Option Addr} : ∀ {t : T} {v : V} {L : List Addr}, t.free = true → RO c G F H t v L → RO c G' F H t v L
  | .sh d, _, _, _, h => by simpa only [RO] using h
  | .lst ts, _, _, k, h => by
    simp only [RO] at h ⊢
    obtain ⟨a, vs, L1, e, s, r, q⟩ := h
    exact ⟨a, vs, L1, e, s, ROL.noG (by simpa only [T.free] using k) r, q⟩
  | .tup ts, _, _, k, h => by
    simp only [RO] at h ⊢
    obtain ⟨a, vs, L1, e, s, r, q⟩ := h
    exact ⟨a, vs, L1, e, s, ROL.noG (by simpa only [T.free] using k) r, q⟩
  | .dK ts, _, _, k, h => by
    simp only [RO] at h ⊢
    obtain ⟨a, vs, L1, e, s, r, q⟩ := h
    exact ⟨a, vs, L1, e, s, ROK.noG (by simpa only [T.free] using k) r, q⟩
  | .dT ts, _, _, k, h => by
    simp only [RO] at h ⊢
    obtain ⟨a, vs, L1, e, s, r, q⟩ := h
    exact ⟨a, vs, L1, e, s, ROT.noG (by simpa only [T.free] using k) r, q⟩
  | .obj _ ts, _, _, k, h => by
    simp only [RO] at h ⊢
    obtain ⟨a, dx, vs, L1, e, s, r, q⟩ := h
    exact ⟨a, dx, vs, L1, e, s, ROF.noG (by simpa only [T.free] using k) r, q⟩
  | .lk _ _, _, _, k, _ => by simp only [T.free] at k; cases k
theorem ROL.noG {G' : Nat → Option Addr} : ∀ {t : List T} {v : List V} {L : List Addr}, Ts.free t = true → ROL c G F H t v L → ROL c G' F H t v L
  | [], _, _, _, h => by simpa only [ROL] using h
  | t :: r, _, _, k, h => by
    simp only [ROL] at h ⊢
    simp only [Ts.free, Bool.and_eq_true] at k
    obtain ⟨v, w, L1, L2, e, q, x, y⟩ := h
    exact ⟨v, w, L1, L2, e, q, RO.noG k.1 x, ROL.noG k.2 y⟩
theorem ROK.noG {G' : Nat → Option Addr} : ∀ {t : List (Key × T)} {v : List (Key × V)} {L : List Addr}, Tk.free t = true → ROK c G F H t v L → ROK c G' F H t v L
  | [], _, _, _, h => by simpa only [ROK] using h
  | (_, t) :: r, _, _, k, h => by
    simp only [ROK] at h ⊢
    simp only [Tk.free, Bool.and_eq_true] at k
    obtain ⟨v, w, L1, L2, e, q, x, y⟩ := h
    exact ⟨v, w, L1, L2, e, q, RO.noG k.1 x, ROK.noG k.2 y⟩
theorem ROT.noG {G' : Nat → Option Addr} : ∀ {t : List (List Key × T)} {v : List (List Key × V)} {L : List Addr}, Tt.free t = true → ROT c G F H t v L → ROT c G' F H t v L
  | [], _, _, _, h => by simpa only [ROT] using h
  | (_, t) :: r, _, _, k, h => by
    simp only [ROT] at h ⊢
    simp only [Tt.free, Bool.and_eq_true] at k
    obtain ⟨v, w, L1, L2, e, q, x, y⟩ := h
    exact ⟨v, w, L1, L2, e, q, RO.noG k.1 x, ROT.noG k.2 y⟩
theorem ROF.noG {G' : Nat → Option Addr} : ∀ {t : List (Str × T)} {v : List (Str × V)} {L : List Addr}, Tf.free t = true → ROF c G F H t v L → ROF c G' F H t v L
  | [], _, _, _, h => by simpa only [ROF] using h
  | (_, t) :: r, _, _, k, h => by
    simp only [ROF] at h ⊢
    simp only [Tf.free, Bool.and_eq_true] at k
    obtain ⟨v, w, L1, L2, e, q, x, y⟩ := h
    exact ⟨v, w, L1, L2, e, q, RO.noG k.1 x, ROF.noG k.2 y⟩
end
/-! each owned address has an object -/
mutual
theorem RO.mem : ∀ {t : T} {v : V} {L : List Addr}, RO c G F H t v L → ∀ a ∈ L, ∃ o, H a = some o ∧ (∀ x u, o ≠ .frz x u)
  | .sh d, _, _, h, a, ha => by
    simp only [RO] at h
    rw [h.1] at ha; cases ha
  | .lst ts, _, _, h, b, hb => by
    simp only [RO] at h
    obtain ⟨a, vs, L1, e, s, r, rfl⟩ := h
    rcases List.mem_cons.mp hb with rfl | hb
    · exact ⟨_, s, fun _ _ q => by cases q⟩
    · exact ROL.mem r b hb
  | .tup ts, _, _, h, b, hb => by
    simp only [RO] at h
    obtain ⟨a, vs, L1, e, s, r, rfl⟩ := h
    rcases List.mem_cons.mp hb with rfl | hb
    · exact ⟨_, s, fun _ _ q => by cases q⟩
    · exact ROL.mem r b hb
  | .dK ts, _, _, h, b, hb => by
    simp only [RO] at h
    obtain ⟨a, vs, L1, e, s, r, rfl⟩ := h
    rcases List.mem_cons.mp hb with rfl | hb
    · exact ⟨_, s, fun _ _ q => by cases q⟩
    · exact ROK.mem r b hb
  | .dT ts, _, _, h, b, hb => by
    simp only [RO] at h
    obtain ⟨a, vs, L1, e, s, r, rfl⟩ := h
    rcases List.mem_cons.mp hb with rfl | hb
    · exact ⟨_, s, fun _ _ q => by cases q⟩
    · exact ROT.mem r b hb
  | .obj _ ts, _, _, h, b, hb => by
    simp only [RO] at h
    obtain ⟨a, dx, vs, L1, e, s, r, rfl⟩ := h
    rcases List.mem_cons.mp hb with rfl | hb
    · exact ⟨_, s, fun _ _ q => by cases q⟩
    · exact ROF.mem r b hb
  | .lk _ _, _, _, h, b, hb => by
    simp only [RO] at h
    rw [h.1] at hb; cases hb
theorem ROL.mem : ∀ {t : List T} {v : List V} {L : List Addr}, ROL c G F H t v L → ∀ a ∈ L, ∃ o, H a = some o ∧ (∀ x u, o ≠ .frz x u)
  | [], _, _, h, b, hb => by
    simp only [ROL] at h
    rw [h.2] at hb; cases hb
  | t :: r, _, _, h, b, hb => by
    simp only [ROL] at h
    obtain ⟨v, w, L1, L2, e, rfl, x, y⟩ := h
    exact (List.mem_append.mp hb).elim (RO.mem x b) (ROL.mem y b)
theorem ROK.mem : ∀ {t : List (Key × T)} {v : List (Key × V)} {L : List Addr}, ROK c G F H t v L → ∀ a ∈ L, ∃ o, H a = some o ∧ (∀ x u, o ≠ .frz x u)
  | [], _, _, h, b, hb => by
    simp only [ROK] at h
    rw [h.2] at hb; cases hb
  | (_, t) :: r, _, _, h, b, hb => by
    simp only [ROK] at h
    obtain ⟨v, w, L1, L2, e, rfl, x, y⟩ := h
    exact (List.mem_append.mp hb).elim (RO.mem x b) (ROK.mem y b)
theorem ROT.mem : ∀ {t : List (List Key × T)} {v : List (List Key × V)} {L : List Addr}, ROT c G F H t v L → ∀ a ∈ L, ∃ o, H a = some o ∧ (∀ x u, o ≠ .frz x u)
  | [], _, _, h, b, hb => by
    simp only [ROT] at h
    rw [h.2] at hb; cases hb
  | (_, t) :: r, _, _, h, b, hb => by
    simp only [ROT] at h
    obtain ⟨v, w, L1, L2, e, rfl, x, y⟩ := h
    exact (List.mem_append.mp hb).elim (RO.mem x b) (ROT.mem y b)
theorem ROF.mem : ∀ {t : List (Str × T)} {v : List (Str × V)} {L : List Addr}, ROF c G F H t v L → ∀ a ∈ L, ∃ o, H a = some o ∧ (∀ x u, o ≠ .frz x u)
  | [], _, _, h, b, hb => by
    simp only [ROF] at h
    rw [h.2] at hb; cases hb
  | (_, t) :: r, _, _, h, b, hb => by
    simp only [ROF] at h
    obtain ⟨v, w, L1, L2, e, rfl, x, y⟩ := h
    exact (List.mem_append.mp hb).elim (RO.mem x b) (ROF.mem y b)
end
end MP
/-! MP2: slots and temporaries, the state relation SR. -/
namespace MP
open PySem PySem.Spec PyProof.Rows L2
section
variable (c : Cv) (G : Nat → Option Addr)
def RSo (F H : Hp) : Option T → Option V → List Addr → Prop
  | none, _, L => L = []
  | some t, u, L => ∃ v, u = some v ∧ RO c G F H t v L
def RSl (F H : Hp) : List (Option T) → List (Option V) → List Addr → Prop
  | [], us, L => us = [] ∧ L = []
  | o :: r, us, L => ∃ u w L1 L2, us = u :: w ∧ L = L1 ++ L2 ∧ RSo c G F H o u L1 ∧ RSl F H r w L2
structure SR (Fr F H : Hp) (ρ : List (Option T)) (us : List (Option V)) (L : List Addr) : Prop where
  sl : RSl c G F H ρ us L
  nd : L.Nodup
  ap : ∀ a ∈ L, F a = none ∧ Fr a = none
  le : Le F H
  fr : ∀ a o, Fr a = some o → H a = some o
  gf : ∀ n a, G n = some a → Fr a ≠ none
  ff : ∀ a, Fr a ≠ none → F a = none
end
variable {c : Cv} {F F' H H' Fr : Hp} {G : Nat → Option Addr}
theorem RSo.kept (l : Le F F') {o : Option T} {u : Option V} {L : List Addr} (k : Kept G L H H') (h : RSo c G F H o u L) : RSo c G F' H' o u L := by
  cases o with
  | none => exact h
  | some t =>
    obtain ⟨v, e, r⟩ := h
    exact ⟨v, e, r.kept l k⟩
theorem RSl.kept (l : Le F F') : ∀ {ρ : List (Option T)} {us : List (Option V)} {L : List Addr}, Kept G L H H' → RSl c G F H ρ us L → RSl c G F' H' ρ us L
  | [], _, _, _, h => h
  | o :: r, _, _, k, ⟨u, w, L1, L2, e, q, x, y⟩ => by
    subst q
    exact ⟨u, w, L1, L2, e, rfl, x.kept l k.left, RSl.kept l k.right y⟩
theorem RSl.length : ∀ {ρ : List (Option T)} {us : List (Option V)} {L : List Addr}, RSl c G F H ρ us L → us.length = ρ.length
  | [], _, _, h => by rw [h.1]; rfl
  | o :: r, _, _, ⟨u, w, L1, L2, e, q, x, y⟩ => by rw [e, List.length_cons, List.length_cons, RSl.length y]
theorem RSo.mem {o : Option T} {u : Option V} {L : List Addr} (h : RSo c G F H o u L) : ∀ a ∈ L, ∃ o, H a = some o ∧ (∀ x u, o ≠ .frz x u) := by
  cases o with
  | none =>
    intro a ha
    have e : L = [] := h
    rw [e] at ha; cases ha
  | some t =>
    obtain ⟨v, e, r⟩ := h
    exact r.mem
theorem RSl.mem : ∀ {ρ : List (Option T)} {us : List (Option V)} {L : List Addr}, RSl c G F H ρ us L → ∀ a ∈ L, ∃ o, H a = some o ∧ (∀ x u, o ≠ .frz x u)
  | [], _, _, h, a, ha => by rw [h.2] at ha; cases ha
  | o :: r, _, _, ⟨u, w, L1, L2, e, q, x, y⟩, a, ha => by
    subst q
    exact (List.mem_append.mp ha).elim (x.mem a) (RSl.mem y a)
theorem RSl.app : ∀ {ρ ρ2 : List (Option T)} {us us2 : List (Option V)} {L L2 : List Addr}, RSl c G F H ρ us L → RSl c G F H ρ2 us2 L2 → RSl c G F H (ρ ++ ρ2) (us ++ us2) (L ++ L2)
  | [], _, _, _, _, _, ⟨e, q⟩, h => by subst e q; exact h
  | o :: r, _, _, _, _, _, ⟨u, w, L1, L2, e, q, x, y⟩, h => by
    subst e q
    exact ⟨u, _, L1, _, rfl, by rw [List.append_assoc], x, y.app h⟩
theorem RSl.split : ∀ {ρ ρ2 : List (Option T)} {us us2 : List (Option V)} {L : List Addr}, us.length = ρ.length → RSl c G F H (ρ ++ ρ2) (us ++ us2) L → ∃ L1 L2, L = L1 ++ L2 ∧ RSl c G F H ρ us L1 ∧ RSl c G F H ρ2 us2 L2
  | [], _, us, _, L, e, h => by
    cases us with
    | nil => exact ⟨[], L, rfl, ⟨rfl, rfl⟩, h⟩
    | cons _ _ => cases e
  | o :: r, _, us, _, L, e, h => by
    cases us with
    | nil => cases e
    | cons u0 us =>
      obtain ⟨u, w, L1, L2, e1, q, x, y⟩ := h
      injection e1 with e1 e2
      subst e1 e2 q
      obtain ⟨M1, M2, e3, a, b⟩ := y.split (by simpa using e)
      subst e3
      exact ⟨L1 ++ M1, M2, by rw [List.append_assoc], ⟨u0, us, L1, M1, rfl, rfl, x, a⟩, b⟩
/-- one slot looked at, and put otherwise -/
theorem RSl.at : ∀ {ρ : List (Option T)} {us : List (Option V)} {L : List Addr} {i : Nat} {o : Option T}, RSl c G F H ρ us L → ρ[i]? = some o →
    ∃ u L1 L2 L3, us[i]? = some u ∧ L = L1 ++ L2 ++ L3 ∧ RSo c G F H o u L2 ∧
      ∀ (F' H' : Hp) (o' : Option T) (u' : Option V) (L' : List Addr), Le F F' → Kept G (L1 ++ L3) H H' → RSo c G F' H' o' u' L' → RSl c G F' H' (ρ.set i o') (us.set i u') (L1 ++ L' ++ L3)
  | [], _, _, _, _, h, e => by simp at e
  | o :: r, _, _, 0, p, ⟨u, w, L1, L2, e, q, x, y⟩, h0 => by
    subst e q
    simp at h0
    subst h0
    refine ⟨u, [], L1, L2, rfl, rfl, x, fun F' H' o' u' L' l k z => ?_⟩
    exact ⟨u', w, L', L2, rfl, rfl, z, y.kept l k⟩
  | o :: r, _, _, i + 1, p, ⟨u, w, L1, L2, e, q, x, y⟩, h0 => by
    subst e q
    obtain ⟨u2, M1, M2, M3, a, b, d, f⟩ := y.at (i := i) (o := p) (by simpa using h0)
    subst b
    refine ⟨u2, L1 ++ M1, M2, M3, by simpa using a, by simp only [List.append_assoc], d, fun F' H' o' u' L' l k z => ?_⟩
    refine ⟨u, w.set i u', L1, M1 ++ L' ++ M3, rfl, by simp only [List.append_assoc], ?_, f F' H' o' u' L' l ?_ z⟩
    · exact x.kept l ⟨fun a ha => k.1 a (by simp [ha]), k.2⟩
    · exact ⟨fun a ha => k.1 a (by rcases List.mem_append.mp ha with ha | ha <;> simp [ha]), k.2⟩
theorem SR.len {ρ : List (Option T)} {us : List (Option V)} {L : List Addr} (s : SR c G Fr F H ρ us L) : us.length = ρ.length := s.sl.length
/-- the heap goes on: what is frozen, framed and owned is kept -/
theorem SR.to {ρ : List (Option T)} {us : List (Option V)} {L : List Addr} (s : SR c G Fr F H ρ us L) (k : ∀ a o, H a = some o → H' a = some o) : SR c G Fr F H' ρ us L where
  sl := s.sl.kept Le.refl ⟨fun a ha => by
    obtain ⟨o, e, _⟩ := s.sl.mem a ha
    rw [e, k a o e], fun n a g => by
    cases e : Fr a with
    | none => exact absurd e (s.gf n a g)
    | some o => rw [s.fr a o e, k a o (s.fr a o e)]⟩
  nd := s.nd
  ap := s.ap
  le := fun a o e => by
    rcases s.le a o e with e | ⟨d, x, e⟩
    · exact .inl (k _ _ e)
    · exact .inr ⟨d, x, k _ _ e⟩
  fr := fun a o e => k _ _ (s.fr a o e)
  gf := s.gf
  ff := s.ff
theorem SR.alloc {ρ : List (Option T)} {us : List (Option V)} {L : List Addr} {p : Addr} {o : HO} (s : SR c G Fr F H ρ us L) (h : H p = none) : SR c G Fr F (upd H p o) ρ us L :=
  s.to fun a u e => by
    have ne : a ≠ p := fun q => by rw [q, h] at e; cases e
    rw [upd_ne ne]; exact e
/-- a new value behind -/
theorem SR.snoc {ρ : List (Option T)} {us : List (Option V)} {L L' : List Addr} {t : T} {v : V} (s : SR c G Fr F H ρ us L) (r : RO c G F H t v L') (nd : (L ++ L').Nodup) (ap : ∀ a ∈ L', F a = none ∧ Fr a = none) :
    SR c G Fr F H (ρ ++ [some t]) (us ++ [some v]) (L ++ L') where
  sl := s.sl.app ⟨some v, [], L', [], rfl, by simp, ⟨v, rfl, r⟩, rfl, rfl⟩
  nd := nd
  ap := fun a ha => (List.mem_append.mp ha).elim (s.ap a) (ap a)
  le := s.le
  fr := s.fr
  gf := s.gf
  ff := s.ff
theorem SR.snocF {ρ : List (Option T)} {us : List (Option V)} {L : List Addr} {d : D} {v : V} (s : SR c G Fr F H ρ us L) (r : R c F d v) : SR c G Fr F H (ρ ++ [some (.sh d)]) (us ++ [some v]) L := by
  have z := s.snoc (L' := []) (t := .sh d) (v := v) (by simp only [RO]; exact ⟨trivial, r⟩) (by simpa using s.nd) (fun a ha => by cases ha)
  simpa using z
/-- a new object behind -/
theorem SR.snocN {ρ : List (Option T)} {us : List (Option V)} {L : List Addr} {t : T} {p : Addr} {o : HO} (s : SR c G Fr F H ρ us L) (hp : H p = none) (r : RO c G F (upd H p o) t (.ref p) [p]) :
    SR c G Fr F (upd H p o) (ρ ++ [some t]) (us ++ [some (.ref p)]) (L ++ [p]) := by
  refine (s.alloc hp).snoc r ?_ fun a ha => ?_
  · rw [List.nodup_append]
    refine ⟨s.nd, by simp, fun a ha b hb e => ?_⟩
    have : b = p := by simpa using hb
    subst this e
    obtain ⟨o, e, _⟩ := s.sl.mem a ha
    rw [hp] at e; cases e
  · have : a = p := by simpa using ha
    subst this
    constructor
    · cases e : F a with
      | none => rfl
      | some o =>
        rcases s.le a o e with e | ⟨_, _, e⟩ <;> (rw [hp] at e; cases e)
    · cases e : Fr a with
      | none => rfl
      | some o => have := s.fr a o e; rw [hp] at this; cases this
/-- what is frozen more: the objects of H at the addresses of L -/
def ext (F H : Hp) (L : List Addr) : Hp := fun a => if a ∈ L then H a else F a
theorem ext_le {L : List Addr} (ap : ∀ a ∈ L, F a = none) : Le F (ext F H L) := fun a o e => .inl (by
  unfold ext
  rw [if_neg (fun h => by rw [ap a h] at e; cases e)]
  exact e)
theorem ext_to {L : List Addr} (l : Le F H) : Le (ext F H L) H := fun a o e => by
  unfold ext at e
  split at e
  · exact .inl e
  · exact l a o e
/-- a tree is frozen -/
theorem RO.freeze {t : T} {v : V} {L : List Addr} (r : RO c G F H t v L) (fr : t.free = true) (ap : ∀ a ∈ L, F a = none) : R c (ext F H L) t.toD v :=
  RO.rd (G := fun _ => none) (ext_le ap) (fun n a u g => by cases g) (fun a ha u e => by unfold ext; rw [if_pos ha]; exact e) (r.noG fr)
/-- .. looked at -/
theorem RO.look {t : T} {v : V} {L : List Addr} (r : RO c G F H t v L) (l : Le F H) : R c H t.toD v :=
  RO.rd l (fun _ _ _ _ e => e) (fun _ _ _ e => e) r
theorem set_self {α : Type} : ∀ {l : List α} {i : Nat} {x : α}, l[i]? = some x → l.set i x = l
  | [], _, _, h => by simp at h
  | a :: r, 0, x, h => by simp at h; subst h; rfl
  | a :: r, i + 1, x, h => by rw [List.set_cons_succ, set_self (by simpa using h)]
/-- a slot is frozen -/
theorem SR.freeze {ρ : List (Option T)} {us : List (Option V)} {L : List Addr} {i : Nat} {t : T} (s : SR c G Fr F H ρ us L) (h : ρ[i]? = some (some t)) (fr : t.free = true) :
    ∃ F' L' v, Le F F' ∧ us[i]? = some (some v) ∧ R c F' t.toD v ∧ SR c G Fr F' H (ρ.set i (some (.sh t.toD))) us L' ∧ (∀ a ∈ L', a ∈ L) := by
  obtain ⟨u, L1, L2, L3, hu, rfl, x, f⟩ := s.sl.at h
  obtain ⟨v, rfl, r⟩ := x
  have ap2 : ∀ a ∈ L2, F a = none := fun a ha => (s.ap a (by simp [ha])).1
  have l := ext_le (H := H) ap2
  have rz := r.freeze fr ap2
  refine ⟨ext F H L2, L1 ++ [] ++ L3, v, l, hu, rz, ?_, fun a ha => ?_⟩
  · have z := f (ext F H L2) H (some (.sh t.toD)) (some v) [] l ⟨fun _ _ => rfl, fun _ _ _ => rfl⟩ ⟨v, rfl, by simp only [RO]; exact ⟨trivial, rz⟩⟩
    rw [set_self hu] at z
    refine ⟨z, ?_, fun a ha => ?_, ext_to s.le, s.fr, s.gf, fun a ha => ?_⟩
    · have nd := s.nd
      simp only [List.append_nil]
      rw [List.append_assoc] at nd
      rw [List.nodup_append] at nd ⊢
      refine ⟨nd.1, (List.nodup_append.mp nd.2.1).2.1, fun a ha b hb => nd.2.2 a ha b (List.mem_append_right _ hb)⟩
    · have ha' : a ∈ L1 ∨ a ∈ L3 := by simpa using ha
      have hL : a ∈ L1 ++ L2 ++ L3 := by rcases ha' with q | q <;> simp [q]
      refine ⟨?_, (s.ap a hL).2⟩
      unfold ext
      rw [if_neg, (s.ap a hL).1]
      intro h2
      have nd := s.nd
      rw [List.append_assoc] at nd
      obtain ⟨n1, n2, n3⟩ := List.nodup_append.mp nd
      rcases ha' with q | q
      · exact n3 a q a (List.mem_append_left _ h2) rfl
      · exact (List.nodup_append.mp n2).2.2 a h2 a q rfl
    · unfold ext
      rw [if_neg (fun h2 => ha (s.ap a (by simp [h2])).2)]
      exact s.ff a ha
  · have ha' : a ∈ L1 ∨ a ∈ L3 := by simpa using ha
    rcases ha' with q | q <;> simp [q]
/-- a slot is forgotten -/
theorem SR.drop {ρ : List (Option T)} {us : List (Option V)} {L : List Addr} {i : Nat} {u' : Option V} (s : SR c G Fr F H ρ us L) (h : i < ρ.length) :
    ∃ L', SR c G Fr F H (ρ.set i none) (us.set i u') L' ∧ (∀ a ∈ L', a ∈ L) := by
  obtain ⟨u, L1, L2, L3, hu, rfl, x, f⟩ := s.sl.at (List.getElem?_eq_getElem h)
  have z := f F H none u' [] Le.refl ⟨fun _ _ => rfl, fun _ _ _ => rfl⟩ rfl
  have nd := s.nd
  rw [List.append_assoc] at nd
  obtain ⟨n1, n2, n3⟩ := List.nodup_append.mp nd
  have sub : ∀ a ∈ L1 ++ [] ++ L3, a ∈ L1 ++ L2 ++ L3 := fun a ha => by
    have ha' : a ∈ L1 ∨ a ∈ L3 := by simpa using ha
    rcases ha' with q | q <;> simp [q]
  refine ⟨L1 ++ [] ++ L3, ⟨z, ?_, fun a ha => s.ap a (sub a ha), s.le, s.fr, s.gf, s.ff⟩, sub⟩
  simp only [List.append_nil]
  rw [List.nodup_append]
  exact ⟨n1, (List.nodup_append.mp n2).2.1, fun a ha b hb => n3 a ha b (List.mem_append_right _ hb)⟩
end MP
/-! MP3: the small language and its evaluator. -/
namespace MP
open PySem PySem.Spec PyProof.Rows L2
abbrev Env1 := List (Option T)
structure Exn where
  cls : Str
  fs : List (Str × D)
inductive Rs (α : Type) where
  | ok (a : α) (r : Env1) | ex (x : Exn) (r : Env1) | no
inductive Cr where
  | ok (t : T) (fin : Env1) | ex (x : Exn) (fin : Env1) | no
abbrev Fk := Str × Str
abbrev Ct := Fk → List T → Cr
/-! ### views -/
def asI : T → Option Int
  | .sh (.int i) => some i
  | _ => none
def asS : T → Option Str
  | .sh (.str x) => some x
  | _ => none
def asB : T → Option Bool
  | .sh (.bl b) => some b
  | _ => none
def asL : T → Option (List T)
  | .sh (.lst ds) => some (ds.map .sh)
  | .lst ts => some ts
  | .lk _ (.lst ds) => some (ds.map .sh)
  | _ => none
def asU : T → Option (List T)
  | .sh (.tup ds) => some (ds.map .sh)
  | .tup ts => some ts
  | _ => none
def asK : T → Option (List (Key × T))
  | .sh (.dK ds) => some (ds.map fun p => (p.1, .sh p.2))
  | .dK ts => some ts
  | .lk _ (.dK ds) => some (ds.map fun p => (p.1, .sh p.2))
  | _ => none
def asF : T → Option (Str × List (Str × T))
  | .sh (.obj c ds) => some (c, ds.map fun p => (p.1, .sh p.2))
  | .obj c ts => some (c, ts)
  | _ => none
def asD : T → Option D
  | .sh d => some d
  | _ => none
def allD : List T → Option (List D)
  | [] => some []
  | t :: r => match asD t, allD r with
    | some d, some ds => some (d :: ds)
    | _, _ => none
def allB : List T → Option (List Bool)
  | [] => some []
  | t :: r => match asB t, allB r with
    | some d, some ds => some (d :: ds)
    | _, _ => none
def allS : List T → Option (List Str)
  | [] => some []
  | t :: r => match asS t, allS r with
    | some d, some ds => some (d :: ds)
    | _, _ => none
/-- numbers, texts, truth values, None -/
def D.flat : D → Bool
  | .non => true
  | .bl _ => true
  | .int _ => true
  | .str _ => true
  | _ => false
/-- equality of flat values of one kind, or with None, or of a number and a text -/
def flatEq : D → D → Option Bool
  | .non, .non => some true
  | .bl a, .bl b => some (a == b)
  | .int a, .int b => some (decide (a = b))
  | .str a, .str b => some (decide (a = b))
  | .non, .bl _ => some false
  | .non, .int _ => some false
  | .non, .str _ => some false
  | .bl _, .non => some false
  | .int _, .non => some false
  | .str _, .non => some false
  | .int _, .str _ => some false
  | .str _, .int _ => some false
  | .bl _, .str _ => some false
  | .str _, .bl _ => some false
  | _, _ => none
mutual
def D.py : D → Option PyData
  | .non => some .none
  | .bl b => some (.bool b)
  | .int i => some (.int i)
  | .str x => some (.str x)
  | .lst ds => (Ds.py ds).map .list
  | .tup ds => (Ds.py ds).map .tuple
  | _ => none
def Ds.py : List D → Option (List PyData)
  | [] => some []
  | d :: r => match d.py, Ds.py r with
    | some a, some b => some (a :: b)
    | _, _ => none
end
def sameF : T → T → Bool
  | .sh (.int a), .sh (.int b) => decide (a = b)
  | .sh (.str a), .sh (.str b) => decide (a = b)
  | _, _ => false
def sameIn (k : Key) (t : T) (ls : List (Key × T)) : Bool := match ls.find? fun p => decide (p.1 = k) with
  | some q => sameF t q.2
  | none => false
/-- two dicts that are equal, their values numbers and texts -/
def dictEq (s t : T) : Option Bool := match asK s, asK t with
  | some ks, some ls => if ks.length = ls.length ∧ (ks.all fun p => sameIn p.1 p.2 ls) = true then some true else none
  | _, _ => none
/-- equality of nested values -/
def deepEq (s t : T) : Option Bool := match s.toD.py, t.toD.py with
  | some d, some e => if SeqAt.shaped d = true ∧ SeqAt.shaped e = true then some (PyData.eqv d e) else none
  | _, _ => dictEq s t
def itemEq (a b : T) : Bool := sameF a b || dictEq a b == some true
def itemsEq : List T → List T → Bool
  | [], [] => true
  | a :: r, b :: s => itemEq a b && itemsEq r s
  | _, _ => false
/-- two lists, two tuples, their items equal: numbers, texts, dicts of these -/
def seqEq (s t : T) : Bool := match asL s, asL t with
  | some xs, some ys => itemsEq xs ys
  | none, none => match asU s, asU t with
    | some xs, some ys => itemsEq xs ys
    | _, _ => false
  | _, _ => false
/-- a walk over one dict's items, each looked for in the other one -/
def dictHit (ls : List (Key × T)) : List (Key × T) → Option Bool
  | [] => some true
  | (k, t) :: r => match ls.find? fun p => decide (p.1 = k) with
    | none => some false
    | some q => match asD t, asD q.2, dictHit ls r with
      | some d, some e, some b => match flatEq d e with
        | some x => some (x && b)
        | none => none
      | _, _, _ => none
/-- two dicts that are unlike -/
def dictNe (s t : T) : Bool := match asK s, asK t with
  | some ks, some ls => decide (ks.length ≠ ls.length) || dictHit ls ks == some false
  | _, _ => false
def eqFl (s t : T) : Option Bool := match asD s, asD t with
  | some x, some y => flatEq x y
  | _, _ => none
def keyOf : T → Option Key
  | .sh (.int i) => some (.inl i)
  | .sh (.str x) => some (.inr x)
  | _ => none
def keyD : Key → D
  | .inl i => .int i
  | .inr x => .str x
inductive Op1 where
  | neg | len | strI | tupL | listL | allL | anyL | isN | notN | boolV
  | isinst (ts : List String)
  | revL
  | dictD | sortL | sortSet | lenSet | dictP
  | tab (x : Str) (kvs : List (Str × Key)) (df : Option Key)
  deriving DecidableEq
inductive Op2 where
  | add | sub | mul | fdiv | mod | pow
  | eq | ne | lt | le | gt | ge | inn | nin
  | idx | sliceF | sliceT | join
  deriving DecidableEq
inductive Op3 where
  | slice | get
  deriving DecidableEq
def tI (i : Int) : T := .sh (.int i)
def tB (b : Bool) : T := .sh (.bl b)
def tS (x : Str) : T := .sh (.str x)
def cutT {α : Type} (xs : List α) (lo hi : Option Int) : List α := (xs.drop (HT.sIx xs.length 0 lo)).take (HT.sIx xs.length xs.length hi - HT.sIx xs.length 0 lo)
def sliceOf (t : T) (lo hi : Option Int) : Option T :=
  match asS t with
  | some z => if z.length ≤ sizeLine then some (tS (cutS z lo hi)) else none
  | none => match asL t with
    | some ts => match allD ts with
      | some ds => some (.lst ((cutT ds lo hi).map .sh))
      | none => none
    | none => match t with
      | .sh (.scr ns) => some (.lst ((cutT ns lo hi).map tI))
      | _ => match asU t with
        | some ts => match allD ts with
          | some ds => if (cutT ds lo hi).length < ds.length then some (.tup ((cutT ds lo hi).map .sh)) else none
          | none => none
        | none => none
def typeOf1 : D → Option String
  | .non => some "NoneType"
  | .bl _ => some "bool"
  | .int _ => some "int"
  | .str _ => some "str"
  | .tup _ => some "tuple"
  | .lst _ => some "list"
  | .dK _ => some "dict"
  | _ => none
def leS (a b : Str) : Bool := !ltCps b.cps.toList a.cps.toList
def sortI (ns : List Int) : List Int := ns.mergeSort fun a b => decide (a ≤ b)
def sortS (xs : List Str) : List Str := xs.mergeSort leS
def asInts : List D → Option (List Int)
  | [] => some []
  | .int i :: r => (asInts r).map (i :: ·)
  | _ => none
def asStrs : List D → Option (List Str)
  | [] => some []
  | .str i :: r => (asStrs r).map (i :: ·)
  | _ => none
def keysI : List (Key × T) → Option (List Int)
  | [] => some []
  | (.inl i, _) :: r => (keysI r).map (i :: ·)
  | _ => none
def keysS : List (Key × T) → Option (List Str)
  | [] => some []
  | (.inr i, _) :: r => (keysS r).map (i :: ·)
  | _ => none
def allK : List (Key × T) → Option (List (Key × D))
  | [] => some []
  | (k, t) :: r => match asD t, allK r with
    | some d, some ds => some ((k, d) :: ds)
    | _, _ => none
def sortOf (ts : List T) : Option T := match allD ts with
  | some ds => match asInts ds with
    | some ns => some (.lst ((sortI ns).map fun i => .sh (.int i)))
    | none => match asStrs ds with
      | some xs => if xs.length < 64 then some (.lst ((sortS xs).map fun i => .sh (.str i))) else none
      | none => none
  | none => none
def sortKs (ks : List (Key × T)) : Option T := match keysS ks with
  | some xs => if xs.length < 64 then some (.lst ((sortS xs).map fun i => .sh (.str i))) else none
  | none => match keysI ks with
    | some ns => if ns.length ≤ sizeLine then some (.lst ((sortI ns).map fun i => .sh (.int i))) else none
    | none => none
def setOf (t : T) : Option (List Str) :=
  match asL t with
  | some ts => match allD ts with
    | some ds => match asStrs ds with
      | some xs => if xs.length < 4000 ∧ (dedS xs).length < 64 then some (dedS xs) else none
      | none => none
    | none => none
  | none => match asU t with
    | some ts => match allD ts with
      | some ds => match asStrs ds with
        | some xs => if xs.length < 4000 ∧ (dedS xs).length < 64 then some (dedS xs) else none
        | none => none
      | none => none
    | none => none
/-- a dict from numbers to numbers -/
def intsK : List (Key × D) → Option (List (Int × Int))
  | [] => some []
  | (.inl i, .int j) :: r => (intsK r).map ((i, j) :: ·)
  | _ => none
def leE (a b : Int × Int) : Bool := !(if b.1 = a.1 then decide (b.2 < a.2) else decide (b.1 < a.1))
def sortE (es : List (Int × Int)) : List (Int × Int) := es.mergeSort leE
def pairT (p : Int × Int) : T := .tup [.sh (.int p.1), .sh (.int p.2)]
/-- a list of pairs, as a dict's entries -/
def pairsD : List D → Option (List (Key × D))
  | [] => some []
  | .tup [a, b] :: r => match keyOf (.sh a), pairsD r with
    | some k, some ks => some ((k, b) :: ks)
    | _, _ => none
  | _ => none
def tabAt (kvs : List (Str × Key)) (df : Option Key) (z : Str) : Option Key := match kvs.find? fun p => decide (p.1 = z) with
  | some p => some p.2
  | none => df
def isOf (n : String) (ts : List String) : Bool := ts.any fun t => n == t || (n == "bool" && t == "int")
def isNon : T → Bool
  | .sh .non => true
  | _ => false
def ev1 : Op1 → T → Option T
  | .neg, t => (asI t).map fun i => tI (-i)
  | .len, t => match asS t with
    | some z => if z.length ≤ sizeLine then some (tI z.length) else none
    | none => match asL t with
      | some ts => some (tI ts.length)
      | none => match asU t with
        | some ts => some (tI ts.length)
        | none => match asK t with
          | some ks => some (tI ks.length)
          | none => match t with
            | .sh (.scr ns) => some (tI ns.length)
            | _ => none
  | .strI, t => match asI t with
    | some i => if i.natAbs.log2 < 1920 then some (tS (Str.ofString (toString i))) else none
    | none => none
  | .tupL, t => match asL t with
    | some ts => (allD ts).map fun ds => .tup (ds.map .sh)
    | none => match t with
      | .sh (.tup ds) => some (.sh (.tup ds))
      | _ => none
  | .listL, t => match asL t with
    | some ts => (allD ts).map fun ds => .lst (ds.map .sh)
    | none => match asU t with
      | some ts => (allD ts).map fun ds => .lst (ds.map .sh)
      | none => none
  | .allL, t => match asL t with
    | some ts => (allB ts).map fun bs => tB (bs.all id)
    | none => none
  | .anyL, t => match asL t with
    | some ts => (allB ts).map fun bs => tB (bs.any id)
    | none => none
  | .isN, t => some (tB (isNon t))
  | .notN, t => some (tB (!isNon t))
  | .boolV, t => (asB t).map tB
  | .isinst ts, t => match typeOf1 t.toD with
    | some n => some (tB (isOf n ts))
    | none => none
  | .revL, t => match asL t with
    | some ts => (allD ts).map fun ds => .lst (ds.reverse.map .sh)
    | none => none
  | .dictD, t => match asK t with
    | some ks => (allK ks).map fun ds => .dK (ds.map fun p => (p.1, .sh p.2))
    | none => none
  | .sortL, t => match asL t with
    | some ts => sortOf ts
    | none => match asK t with
      | some ks => sortKs ks
      | none => none
  | .sortSet, t => (setOf t).map fun xs => .lst ((sortS xs).map fun i => .sh (.str i))
  | .lenSet, t => (setOf t).map fun xs => tI xs.length
  | .dictP, t => match asL t with
    | some ts => match allD ts with
      | some ds => match pairsD ds with
        | some kvs => if (kvs.map (·.1)).Nodup then some (.dK (kvs.map fun p => (p.1, .sh p.2))) else none
        | none => none
      | none => none
    | none => none
  | .tab _ kvs df, t => match asS t with
    | some z => (tabAt kvs df z).map fun k => .sh (keyD k)
    | none => none
def cmpI (o : Op2) (i j : Int) : Option Bool := match o with
  | .lt => some (decide (i < j))
  | .le => some (decide (i ≤ j))
  | .gt => some (decide (j < i))
  | .ge => some (decide (j ≤ i))
  | _ => none
def ariI (o : Op2) (i j : Int) : Option Int := match o with
  | .add => some (i + j)
  | .sub => some (i - j)
  | .mul => if i.natAbs.log2 + j.natAbs.log2 < 1000000 then some (i * j) else none
  | .fdiv => if 0 < j ∧ j.natAbs.log2 < 9000 then some (i / j) else none
  | .mod => if 0 < j then some (i % j) else none
  | .pow => if 0 ≤ j ∧ j ≤ 1000000 ∧ i.natAbs < 2 ^ 64 then some (i ^ j.toNat) else none
  | _ => none
def inL (d : D) : List D → Option Bool
  | [] => some false
  | e :: r => match flatEq e d, inL d r with
    | some b, some c => some (b || c)
    | _, _ => none
def inT (a b : T) : Option Bool :=
  match asS a, asS b with
  | some x, some z => if x.length = 1 then some (match x.cps.toList with | [k] => decide (k ∈ z.cps.toList) | _ => false) else none
  | _, _ => match asL b with
    | some ts => match asD a, allD ts with
      | some d, some ds => if d.flat = true then inL d ds else none
      | _, _ => none
    | none => match asU b with
      | some ts => match asD a, allD ts with
        | some d, some ds => if d.flat = true then inL d ds else none
        | _, _ => none
      | none => match asK b with
        | some ks => match keyOf a with
          | some k => some (ks.any fun p => decide (p.1 = k))
          | none => none
        | none => none
def ev2 (o : Op2) (a b : T) : Option T :=
  match o with
  | .eq => match eqFl a b with
    | some q => some (tB q)
    | none => match deepEq a b with
      | some q => some (tB q)
      | none => if dictNe a b = true then some (tB false) else none
  | .ne => match eqFl a b with
    | some q => some (tB (!q))
    | none => match deepEq a b with
      | some q => some (tB (!q))
      | none => if seqEq a b = true then some (tB false) else if dictNe a b = true then some (tB true) else none
  | .inn => (inT a b).map tB
  | .nin => (inT a b).map fun q => tB (!q)
  | .idx => match asK a with
    | some ks => match keyOf b with
      | some k => (ks.find? fun p => decide (p.1 = k)).map (·.2)
      | none => none
    | none => match asI b with
      | some i => match asL a with
        | some ts => atI ts i
        | none => match asU a with
          | some ts => atI ts i
          | none => match asS a with
            | some z => if z.length ≤ sizeLine then (atI z.cps.toList i).map fun k => tS ⟨#[k]⟩ else none
            | none => none
      | none => none
  | .sliceF => match asI b with
    | some i => sliceOf a (some i) none
    | none => none
  | .sliceT => match asI b with
    | some i => sliceOf a none (some i)
    | none => none
  | .join => match asS a, asL b with
    | some x, some ts => match allS ts with
      | some ys => if (ys.map (·.length)).sum + ys.length * x.length ≤ 16777216 then some (tS (Txt.join x ys)) else none
      | none => none
    | _, _ => none
  | .add => match asI a, asI b with
    | some i, some j => some (tI (i + j))
    | _, _ => match asS a, asS b with
      | some x, some y => if x.length + y.length ≤ sizeLine then some (tS (x ++ y)) else none
      | _, _ => match asL a, asL b with
        | some xs, some ys => match allD xs, allD ys with
          | some ds, some es => if ds.length + es.length ≤ sizeLine then some (.lst ((ds ++ es).map .sh)) else none
          | _, _ => none
        | _, _ => match asU a, asU b with
          | some xs, some ys => match allD xs, allD ys with
            | some ds, some es => if ds.length + es.length ≤ sizeLine ∧ ds ≠ [] ∧ es ≠ [] then some (.tup ((ds ++ es).map .sh)) else none
            | _, _ => none
          | _, _ => none
  | .lt | .le | .gt | .ge => match asI a, asI b with
    | some i, some j => (cmpI o i j).map tB
    | _, _ => none
  | _ => match asI a, asI b with
    | some i, some j => (ariI o i j).map tI
    | _, _ => none
def ev3 (o : Op3) (a b d : T) : Option T :=
  match o with
  | .slice => match asI b, asI d with
    | some i, some j => sliceOf a (some i) (some j)
    | _, _ => none
  | .get => match asK a with
    | some ks => match keyOf b with
      | some k => some (match ks.find? fun p => decide (p.1 = k) with | some p => p.2 | none => d)
      | none => none
    | none => none
/-- truth -/
def tru (t : T) : Option Bool := match t with
  | .sh .non => some false
  | .sh (.bl b) => some b
  | .sh (.int i) => some (i != 0)
  | .sh (.str x) => if x.length ≤ sizeLine then some ((x.length : Int) != 0) else none
  | t => match asL t with
    | some ts => some (!ts.isEmpty)
    | none => match asU t with
      | some ts => some (!ts.isEmpty)
      | none => none
/-! ### pure expressions -/
inductive P where
  | lit (d : D) | glo (x : Str) (d : D) | var (i : Nat) | fld (p : P) (f : Str) (ks : List Str)
  | o1 (o : Op1) (a : P) | o2 (o : Op2) (a b : P) | o3 (o : Op3) (a b d : P)
  | fnil | fcons (a b : P)
/-- a part of an f-string -/
def fmtV : T → Option Str
  | .sh (.str x) => if x.length ≤ sizeLine then some x else none
  | .sh (.int i) => if i.natAbs.log2 < 1920 then some (Str.ofString (toString i)) else none
  | _ => none
def slot (r : Env1) (i : Nat) : Option T := match r[i]? with
  | some o => o
  | none => none
def evP (r : Env1) : P → Option T
  | .lit d => some (.sh d)
  | .glo _ d => some (.sh d)
  | .var i => slot r i
  | .fld p f cs => match evP r p with
    | some t => match asF t with
      | some (k, fs) => if k ∈ cs then (fs.find? fun q => decide (q.1 = f)).map (·.2) else none
      | none => none
    | none => none
  | .o1 o a => match evP r a with
    | some t => ev1 o t
    | none => none
  | .o2 o a b => match evP r a, evP r b with
    | some s, some t => ev2 o s t
    | _, _ => none
  | .o3 o a b d => match evP r a, evP r b, evP r d with
    | some s, some t, some u => ev3 o s t u
    | _, _, _ => none
  | .fnil => some (tS ⟨#[]⟩)
  | .fcons a b => match evP r a, evP r b with
    | some s, some t => match fmtV s, asS t with
      | some x, some y => if x.length + y.length ≤ sizeLine then some (tS (x ++ y)) else none
      | _, _ => none
    | _, _ => none
/-! ### targets -/
inductive Tg where
  | var (i : Nat) | nil | cons (a b : Tg)
  deriving DecidableEq
/-- a frozen value is put into a target (nil, cons: the parts of a tuple) -/
def bindT (kp : Nat → Bool) : Tg → D → Env1 → Option Env1
  | .var i, d, r => if kp i then none else if i < r.length then some (r.set i (some (.sh d))) else none
  | .nil, .tup [], r => some r
  | .cons a b, .tup (d :: ds), r => match bindT kp a d r with
    | some r' => bindT kp b (.tup ds) r'
    | none => none
  | _, _, _ => none
def Tg.slots : Tg → List Nat
  | .var i => [i]
  | .nil => []
  | .cons a b => a.slots ++ b.slots
/-! ### expressions -/
inductive E where
  | p (q : P) | fz (i : Nat) | mv (i : Nat) | bor (i : Nat) | frE (a : E)
  | o1 (o : Op1) (a : E) | o2 (o : Op2) (a b : E) | o3 (o : Op3) (a b d : E)
  | k2 (o : Op2) (a : E) (b : P)
  | chain (o o' : Op2) (a b d : P)
  | tup (es : E) | lst (es : E)
  | and (a b : E) | or (a b : E) | not (a : E) | ife (t a b : E)
  | call (f : Fk) (es : E) (df : List D) | new (k : Str) (es : E) (df : List D) | meth (m : Str) (ks : List Str) (a : E) (es : E) (df : List D)
  | lc (g : Tg) (it : E) (cond : E) (elt : E)
  | nil | cons (a b : E)
  -- what is walked
  | dnew | dlit (kvs : List (Key × D)) | sortIt (a : P)
  | vk (o : Op2) (i : Nat) (b : E) | n1 (o : Op1) (q : P)
  | lenO (ks : List Str) (a : E) | callP (f : Fk) (i n : Nat)
  | iv (a : E) | ip (a : P) | rng1 (a : E) | rng2 (a b : E) | zip (a b : E) | enum (a : E) | yes
/-- what is walked: frozen items -/
def items (d : D) : Option (List D) := match d with
  | .lst ds => some ds
  | .tup ds => some ds
  | .str x => some (x.cps.toList.map fun k => .str ⟨#[k]⟩)
  | .scr ns => some (ns.map .int)
  | .dK kvs => some (kvs.map fun p => keyD p.1)
  | _ => none
def frz (t : T) : Option D := if t.free then some t.toD else none
/-- all slots are there -/
def allT : Env1 → Option (List T)
  | [] => some []
  | some t :: r => match allT r with
    | some ts => some (t :: ts)
    | none => none
  | none :: _ => none
def frzAll : List T → Option (List D)
  | [] => some []
  | t :: r => match frz t, frzAll r with
    | some d, some ds => some (d :: ds)
    | _, _ => none
/-- the borrowed slots of arguments -/
def E.bors : E → List (Option Nat)
  | .cons (.bor i) b => some i :: b.bors
  | .cons _ b => none :: b.bors
  | _ => []
def E.bor1 : E → Option Nat
  | .bor i => some i
  | _ => none
/-- what was borrowed comes back -/
def back : List (Option Nat) → Env1 → Env1 → Env1
  | some i :: bs, f :: fs, r => back bs fs (r.set i f)
  | none :: bs, _ :: fs, r => back bs fs r
  | _, _, r => r
def wipe1 (r : Env1) : List Nat → Env1
  | [] => r
  | v :: vs => (wipe1 r vs).set v none
/-- the slots that a comprehension hid come back -/
def unwipe (r0 r : Env1) : List Nat → Env1
  | [] => r
  | v :: vs => (unwipe r0 r vs).set v (slot r0 v)
section
variable (C : Ct) (kp : Nat → Bool)
/-- a comprehension's turns -/
def lcRun (g : Tg) (vs : List Nat) (cond : Env1 → Rs Bool) (elt : Env1 → Rs T) : List D → Env1 → List T → Rs (List T)
  | [], r, acc => .ok acc r
  | d :: ds, r, acc => match bindT (fun _ => false) g d r with
    | none => .no
    | some r1 => match cond r1 with
      | .ok true r2 => match elt r2 with
        | .ok t r3 => if acc.length < sizeLine then lcRun g vs cond elt ds (wipe1 r3 vs) (acc ++ [t]) else .no
        | _ => .no
      | .ok false r2 => lcRun g vs cond elt ds (wipe1 r2 vs) acc
      | _ => .no
def hasAll (r : Env1) : List Nat → Bool
  | [] => true
  | v :: vs => (match r[v]? with | some none => true | some (some (.sh _)) => true | _ => false) && hasAll r vs
mutual
def evE : E → Env1 → Rs T
  | .p q, r => match evP r q with
    | some (.sh d) => .ok (.sh d) r
    | _ => .no
  | .fz i, r => match slot r i with
    | some t => match frz t with
      | some d => .ok (.sh d) (r.set i (some (.sh d)))
      | none => .no
    | none => .no
  | .mv i, r => match slot r i with
    | some t => .ok t (r.set i none)
    | none => .no
  | .bor i, r => match slot r i with
    | some t => .ok t (r.set i none)
    | none => .no
  | .frE a, r => match evE a r with
    | .ok t r1 => match frz t with
      | some d => .ok (.sh d) r1
      | none => .no
    | x => x
  | .o1 o a, r => match evE a r with
    | .ok t r1 => match frz t with
      | some d => match ev1 o (.sh d) with
        | some u => .ok u r1
        | none => .no
      | none => .no
    | x => x
  | .o2 o a b, r => match evE a r with
    | .ok s r1 => match evE b r1 with
      | .ok t r2 => match frz s, frz t with
        | some d, some e => match ev2 o (.sh d) (.sh e) with
          | some u => .ok u r2
          | none => .no
        | _, _ => .no
      | x => x
    | x => x
  | .o3 o a b c, r => match evE a r with
    | .ok s r1 => match evE b r1 with
      | .ok t r2 => match evE c r2 with
        | .ok u r3 => match frz s, frz t, frz u with
          | some d, some e, some f => match ev3 o (.sh d) (.sh e) (.sh f) with
            | some u => .ok u r3
            | none => .no
          | _, _, _ => .no
        | x => x
      | x => x
    | x => x
  | .k2 o a b, r => match evE a r with
    | .ok s r1 => match frz s, evP r1 b with
      | some d, some t => match ev2 o (.sh d) t with
        | some (.sh e) => .ok (.sh e) r1
        | _ => .no
      | _, _ => .no
    | x => x
  | .chain o o' a b d, r => match evP r a, evP r b with
    | some s, some t => match ev2 o s t with
      | some (.sh (.bl true)) => match evP r d with
        | some u => match ev2 o' t u with
          | some (.sh (.bl k)) => .ok (tB k) r
          | _ => .no
        | none => .no
      | some (.sh (.bl false)) => .ok (tB false) r
      | _ => .no
    | _, _ => .no
  | .tup es, r => match evEs es r with
    | .ok ts r1 => if ts.length ≤ sizeLine then .ok (.tup ts) r1 else .no
    | .ex x r1 => .ex x r1
    | .no => .no
  | .lst es, r => match evEs es r with
    | .ok ts r1 => if ts.length ≤ sizeLine then .ok (.lst ts) r1 else .no
    | .ex x r1 => .ex x r1
    | .no => .no
  | .dnew, r => .ok (.dK []) r
  | .sortIt a, r => match evP r a with
    | some t => match asK t with
      | some ks => match allK ks with
        | some ds => match intsK ds with
          | some es => .ok (.lst ((sortE es).map pairT)) r
          | none => .no
        | none => .no
      | none => .no
    | none => .no
  | .vk o i b, r => match slot r i with
    | some _ => match evE b r with
      | .ok t r1 => match slot r1 i, frz t with
        | some s, some e => match ev2 o s (.sh e) with
          | some (.sh d) => .ok (.sh d) r1
          | _ => .no
        | _, _ => .no
      | x => x
    | none => .no
  | .n1 o q, r => match evP r q with
    | some t => match ev1 o t with
      | some u => .ok u r
      | none => .no
    | none => .no
  | .lenO ks a, r => match evE a r with
    | .ok t r1 => match frz t with
      | some (.obj k fs) => if k ∈ ks then match C (k, "__len__") [.sh (.obj k fs)] with
        | .ok (.sh (.int n)) _ => if 0 ≤ n ∧ n < 2 ^ 62 then .ok (.sh (.int n)) r1 else .no
        | _ => .no
        else .no
      | _ => .no
    | x => x
  | .callP f i n, r => match slot r i with
    | some (.lst xs) => if xs.length = n then match C f xs with
      | .ok t fin => match allT fin with
        | some ts => .ok t (r.set i (some (.lst ts)))
        | none => .no
      | .ex x fin => match allT fin with
        | some ts => .ex x (r.set i (some (.lst ts)))
        | none => .no
      | .no => .no
      else .no
    | _ => .no
  | .dlit kvs, r => if kvs ≠ [] ∧ kvs.length ≤ 15 ∧ (kvs.map (·.1)).Nodup then .ok (.dK (kvs.map fun p => (p.1, .sh p.2))) r else .no
  | .and a b, r => match evE a r with
    | .ok (.sh (.bl true)) r1 => evE b r1
    | .ok (.sh (.bl false)) r1 => .ok (tB false) r1
    | .ex x r1 => .ex x r1
    | _ => .no
  | .or a b, r => match evE a r with
    | .ok (.sh (.bl false)) r1 => evE b r1
    | .ok (.sh (.bl true)) r1 => .ok (tB true) r1
    | .ex x r1 => .ex x r1
    | _ => .no
  | .not a, r => match evE a r with
    | .ok (.sh (.bl k)) r1 => .ok (tB (!k)) r1
    | .ex x r1 => .ex x r1
    | _ => .no
  | .ife t a b, r => match tsE t r with
    | .ok true r1 => evE a r1
    | .ok false r1 => evE b r1
    | .ex x r1 => .ex x r1
    | .no => .no
  | .call f es df, r => match evEs es r with
    | .ok ts r1 => match C f (ts ++ df.map .sh) with
      | .ok t fin => .ok t (back es.bors fin r1)
      | .ex x fin => .ex x (back es.bors fin r1)
      | .no => .no
    | .ex x r1 => .ex x r1
    | .no => .no
  | .new k es df, r => match evEs es r with
    | .ok ts r1 => match C (k, "__init__") (.obj k [] :: (ts ++ df.map .sh)) with
      | .ok (.sh .non) (some o :: fin) => .ok o (back es.bors fin r1)
      | .ex x (_ :: fin) => .ex x (back es.bors fin r1)
      | _ => .no
    | .ex x r1 => .ex x r1
    | .no => .no
  | .meth m ks a es df, r => match evE a r with
    | .ok o r1 => match asF o with
      | some (k, fs) => if (fs.any fun q => decide (q.1 = m)) || !decide (k ∈ ks) then .no else match evEs es r1 with
        | .ok ts r2 => match C (k, m) (o :: (ts ++ df.map .sh)) with
          | .ok t fin => .ok t (back (a.bor1 :: es.bors) fin r2)
          | .ex x fin => .ex x (back (a.bor1 :: es.bors) fin r2)
          | .no => .no
        | .ex x r2 => .ex x r2
        | .no => .no
      | none => .no
    | .ex x r1 => .ex x r1
    | .no => .no
  | .lc g it cond elt, r => match evI it r with
    | .ok ds r1 => if hasAll r1 g.slots then match lcRun g g.slots (tsE cond) (evE elt) ds (wipe1 r1 g.slots) [] with
      | .ok ts r2 => .ok (.lst ts) (unwipe r1 r2 g.slots)
      | _ => .no
      else .no
    | .ex x r1 => .ex x r1
    | .no => .no
  | _, _ => .no
def evEs : E → Env1 → Rs (List T)
  | .nil, r => .ok [] r
  | .cons a b, r => match a.bor1 with
    | some i => match slot r i with
      | some _ => match evEs b r with
        | .ok ts r1 => match slot r1 i with
          | some t => .ok (t :: ts) (r1.set i none)
          | none => .no
        | x => x
      | none => .no
    | none => match evE a r with
      | .ok t r1 => match evEs b r1 with
        | .ok ts r2 => .ok (t :: ts) r2
        | x => x
      | .ex x r1 => .ex x r1
      | .no => .no
  | _, _ => .no
/-- as a test -/
def tsE : E → Env1 → Rs Bool
  | .and a b, r => match tsE a r with
    | .ok true r1 => tsE b r1
    | x => x
  | .or a b, r => match tsE a r with
    | .ok false r1 => tsE b r1
    | x => x
  | .not a, r => match tsE a r with
    | .ok k r1 => .ok (!k) r1
    | x => x
  | .yes, r => .ok true r
  | .p q, r => match evP r q with
    | some t => match tru t with
      | some k => .ok k r
      | none => .no
    | none => .no
  | .o1 o a, r => match evE (.o1 o a) r with
    | .ok (.sh (.bl k)) r1 => .ok k r1
    | .ex x r1 => .ex x r1
    | _ => .no
  | .o2 o a b, r => match evE (.o2 o a b) r with
    | .ok (.sh (.bl k)) r1 => .ok k r1
    | .ex x r1 => .ex x r1
    | _ => .no
  | .k2 o a b, r => match evE (.k2 o a b) r with
    | .ok (.sh (.bl k)) r1 => .ok k r1
    | .ex x r1 => .ex x r1
    | _ => .no
  | .chain o o' a b d, r => match evE (.chain o o' a b d) r with
    | .ok (.sh (.bl k)) r1 => .ok k r1
    | .ex x r1 => .ex x r1
    | _ => .no
  | .vk o i b, r => match evE (.vk o i b) r with
    | .ok (.sh (.bl k)) r1 => .ok k r1
    | .ex x r1 => .ex x r1
    | _ => .no
  | .call f es df, r => match evE (.call f es df) r with
    | .ok (.sh (.bl k)) r1 => .ok k r1
    | .ex x r1 => .ex x r1
    | _ => .no
  | .meth f ks a es df, r => match evE (.meth f ks a es df) r with
    | .ok (.sh (.bl k)) r1 => .ok k r1
    | .ex x r1 => .ex x r1
    | _ => .no
  | _, _ => .no
/-- what is walked -/
def evI : E → Env1 → Rs (List D)
  | .iv a, r => match evE a r with
    | .ok t r1 => match frz t with
      | some d => match items d with
        | some ds => .ok ds r1
        | none => .no
      | none => .no
    | .ex x r1 => .ex x r1
    | .no => .no
  | .rng1 a, r => match evE a r with
    | .ok t r1 => match asI t with
      | some n => if -(2 ^ 62) ≤ n ∧ n < 2 ^ 62 then .ok ((List.range n.toNat).map fun (k : Nat) => .int (0 + (k : Int))) r1 else .no
      | none => .no
    | .ex x r1 => .ex x r1
    | .no => .no
  | .rng2 a b, r => match evE a r with
    | .ok s r1 => match evE b r1 with
      | .ok t r2 => match asI s, asI t with
        | some m, some n => if (-(2 ^ 62) ≤ m ∧ m < 2 ^ 62) ∧ -(2 ^ 62) ≤ n ∧ n < 2 ^ 62 then .ok ((List.range (n - m).toNat).map fun (k : Nat) => .int (m + (k : Int))) r2 else .no
        | _, _ => .no
      | .ex x r1 => .ex x r1
      | .no => .no
    | .ex x r1 => .ex x r1
    | .no => .no
  | .zip a b, r => match evE a r with
    | .ok s r1 => match evE b r1 with
      | .ok t r2 => match frz s, frz t with
        | some (.lst xs), some (.lst ys) => if xs.length = ys.length then .ok ((xs.zip ys).map fun p => .tup [p.1, p.2]) r2 else .no
        | some (.tup xs), some (.tup ys) => if xs.length = ys.length then .ok ((xs.zip ys).map fun p => .tup [p.1, p.2]) r2 else .no
        | _, _ => .no
      | .ex x r1 => .ex x r1
      | .no => .no
    | .ex x r1 => .ex x r1
    | .no => .no
  | .enum a, r => match evE a r with
    | .ok t r1 => match frz t with
      | some (.lst ds) => .ok ((ds.zipIdx).map fun p => .tup [.int p.2, p.1]) r1
      | _ => .no
    | .ex x r1 => .ex x r1
    | .no => .no
  | _, _ => .no
end
end
/-! ### statements -/
/-- what an except suite makes: a constant, or a new tuple or list of constants -/
inductive HL where
  | lit (d : D) | tup (ds : List D) | lst (ds : List D)
def HL.t : HL → T
  | .lit d => .sh d
  | .tup ds => .tup (ds.map .sh)
  | .lst ds => .lst (ds.map .sh)
inductive HS where
  | ret (h : HL) | asg (i : Nat) (h : HL) | pass
inductive S where
  | skip | seq (a b : S) | asg (i : Nat) (e : E) | unp (g : Tg) (e : E)
  | par2 (i j : Nat) (a b : E)
  | setI (i : Nat) (k : P) (e : E)
  | app (i : Nat) (e : E) | ext (i : Nat) (e : E)
  | aug (i : Nat) (o : Op2) (e : E)
  | ite (c : E) (a b : S) | ret (e : E) | retN | ex (e : E)
  | for (g : Tg) (it : E) (b : S) | brk | cnt
  | setF (i : Nat) (f : Str) (ks : List Str) (e : E)
  | stop | rse (x : Str)
  | tryX (b : S) (x : Str) (yes no : List Str) (h : HS)
  | ins (i : Nat) (a e : E) | setE (i : Nat) (k e : E) | setP (i j : Nat) (k : P) (e : E)
inductive Fl where
  | nx (r : Env1) | rt (t : T) (r : Env1) | bk (r : Env1) | ct (r : Env1) | ex (x : Exn) (r : Env1) | no
def forRun (kp : Nat → Bool) (g : Tg) (body : Env1 → Fl) : List D → Env1 → Fl
  | [], r => .nx r
  | d :: ds, r => match bindT kp g d r with
    | none => .no
    | some r1 => match body r1 with
      | .nx r2 => forRun kp g body ds r2
      | .ct r2 => forRun kp g body ds r2
      | .bk r2 => .nx r2
      | x => x
section
variable (C : Ct) (kp : Nat → Bool)
def augV : Op2 → Int → Int → Option Int
  | .add, a, b => some (a + b)
  | .sub, a, b => some (a - b)
  | _, _, _ => none
/-- d[k] = .. -/
def putKT (ks : List (Key × T)) (k : Key) (t : T) : List (Key × T) := if (ks.any fun p => decide (p.1 = k)) = true then ks.map (fun p => if p.1 = k then (p.1, t) else p) else ks ++ [(k, t)]
/-- a field is put -/
def putT (f : Str) (t : T) : List (Str × T) → List (Str × T)
  | [] => [(f, t)]
  | (g, x) :: r => if g = f then (g, t) :: r else (g, x) :: putT f t r
/-- a slot is put -/
def putS (kp : Nat → Bool) (r : Env1) (i : Nat) (t : T) : Fl := if kp i then .no else if i < r.length then .nx (r.set i (some t)) else .no
def runHS (kp : Nat → Bool) : HS → Env1 → Fl
  | .ret h, r => .rt h.t r
  | .asg i h, r => putS kp r i h.t
  | .pass, r => .nx r
def evS : S → Env1 → Fl
  | .skip, r => .nx r
  | .seq a b, r => match evS a r with
    | .nx r1 => evS b r1
    | x => x
  | .asg i e, r => match evE C e r with
    | .ok t r1 => putS kp r1 i t
    | .ex x r1 => .ex x r1
    | .no => .no
  | .unp g e, r => match evE C e r with
    | .ok t r1 => match frz t with
      | some d => match bindT kp g d r1 with
        | some r2 => .nx r2
        | none => .no
      | none => .no
    | .ex x r1 => .ex x r1
    | .no => .no
  | .par2 i j a b, r => match evE C a r with
    | .ok s r1 => match evE C b r1 with
      | .ok t r2 => match putS kp r2 i s with
        | .nx r3 => putS kp r3 j t
        | x => x
      | .ex x r1 => .ex x r1
      | .no => .no
    | .ex x r1 => .ex x r1
    | .no => .no
  | .setI i k e, r => match evE C e r with
    | .ok t r1 => match slot r1 i, evP r1 k with
      | some (.lst ts), some (.sh (.int n)) => match ixN ts.length n with
        | some j => .nx (r1.set i (some (.lst (ts.set j t))))
        | none => .no
      | some (.dK ks), some q => match keyOf q with
        | some k => if ks.length < sizeLine ∧ (ks.map (·.1)).Nodup then .nx (r1.set i (some (.dK (putKT ks k t)))) else .no
        | none => .no
      | _, _ => .no
    | .ex x r1 => .ex x r1
    | .no => .no
  | .setE i k e, r => match evE C e r with
    | .ok t r1 => match slot r1 i with
      | some (.dK _) => match evE C k r1 with
        | .ok q r2 => match slot r2 i, keyOf q with
          | some (.dK ks), some k => if ks.length < sizeLine ∧ (ks.map (·.1)).Nodup then .nx (r2.set i (some (.dK (putKT ks k t)))) else .no
          | _, _ => .no
        | .ex x r2 => .ex x r2
        | .no => .no
      | _ => .no
    | .ex x r1 => .ex x r1
    | .no => .no
  | .setP i j k e, r => match evE C e r with
    | .ok t r1 => match slot r1 i, evP r1 k with
      | some (.lst xs), some q => match xs[j]?, keyOf q with
        | some (.dK ks), some k => if ks.length < sizeLine ∧ (ks.map (·.1)).Nodup then .nx (r1.set i (some (.lst (xs.set j (.dK (putKT ks k t)))))) else .no
        | _, _ => .no
      | _, _ => .no
    | .ex x r1 => .ex x r1
    | .no => .no
  | .app i e, r => match slot r i with
    | some (.lst _) => match evE C e r with
      | .ok t r1 => match slot r1 i with
        | some (.lst ts) => if ts.length < sizeLine then .nx (r1.set i (some (.lst (ts ++ [t])))) else .no
        | _ => .no
      | .ex x r1 => .ex x r1
      | .no => .no
    | _ => .no
  | .ext i e, r => match slot r i with
    | some (.lst _) => match evE C e r with
      | .ok t r1 => match slot r1 i, frz t with
        | some (.lst ts), some (.lst ds) => if ts.length + ds.length ≤ sizeLine then .nx (r1.set i (some (.lst (ts ++ ds.map .sh)))) else .no
        | _, _ => .no
      | .ex x r1 => .ex x r1
      | .no => .no
    | _ => .no
  | .aug i o e, r => match slot r i with
    | some (.sh (.int a)) => match evE C e r with
      | .ok t r1 => match asI t with
        | some b => match augV o a b with
          | some z => putS kp r1 i (tI z)
          | none => .no
        | none => .no
      | .ex x r1 => .ex x r1
      | .no => .no
    | _ => .no
  | .ite c a b, r => match tsE C c r with
    | .ok true r1 => evS a r1
    | .ok false r1 => evS b r1
    | .ex x r1 => .ex x r1
    | .no => .no
  | .ret e, r => match evE C e r with
    | .ok t r1 => .rt t r1
    | .ex x r1 => .ex x r1
    | .no => .no
  | .retN, r => .rt (.sh .non) r
  | .ex e, r => match evE C e r with
    | .ok _ r1 => .nx r1
    | .ex x r1 => .ex x r1
    | .no => .no
  | .for g it b, r => match evI C it r with
    | .ok ds r1 => forRun kp g (evS b) ds r1
    | .ex x r1 => .ex x r1
    | .no => .no
  | .brk, r => .bk r
  | .cnt, r => .ct r
  | .setF i f ks e, r => match evE C e r with
    | .ok t r1 => match slot r1 i with
      | some (.obj k fs) => if fs.length < 1000 ∧ k ∈ ks then .nx (r1.set i (some (.obj k (putT f t fs)))) else .no
      | _ => .no
    | .ex x r1 => .ex x r1
    | .no => .no
  | .stop, _ => .no
  | .rse x, r => .ex ⟨x, []⟩ r
  | .ins i a e, r => match slot r i with
    | some (.lst _) => match evE C a r with
      | .ok s r1 => match evE C e r1 with
        | .ok t r2 => match slot r2 i with
          | some (.lst ts) => match asI s with
            | some n => if ts.length < sizeLine ∧ 0 ≤ n ∧ n < 2 ^ 63 then .nx (r2.set i (some (.lst (ts.take n.toNat ++ [t] ++ ts.drop n.toNat)))) else .no
            | none => .no
          | _ => .no
        | .ex x r2 => .ex x r2
        | .no => .no
      | .ex x r1 => .ex x r1
      | .no => .no
    | _ => .no
  | .tryX b x yes no h, r => match evS b r with
    | .ex e r1 => if e.cls ∈ yes then runHS kp h r1 else if e.cls ∈ no then .ex e r1 else .no
    | y => y
end
/-! ### functions -/
structure Fn where
  np : Nat
  ns : Nat
  keep : List Bool
  body : S
def Fn.kp (f : Fn) (i : Nat) : Bool := f.keep.getD i false
/-- the parameters at the end: those that no statement stores -/
def finOf : List Bool → Env1 → Env1
  | true :: ks, o :: r => o :: finOf ks r
  | false :: ks, _ :: r => none :: finOf ks r
  | _, _ => []
def runF (C : Ct) (f : Fn) (ts : List T) : Cr :=
  if ts.length = f.np ∧ f.keep.length = f.np ∧ f.np ≤ f.ns then
    match evS C f.kp f.body (ts.map some ++ List.replicate (f.ns - f.np) none) with
    | .nx r => .ok (.sh .non) (finOf f.keep r)
    | .rt t r => .ok t (finOf f.keep r)
    | .ex x r => .ex x (finOf f.keep r)
    | _ => .no
  else .no
def callN (Q : Fk → Option Fn) : Nat → Ct
  | 0, _, _ => .no
  | n + 1, k, ts => match Q k with
    | some f => runF (callN Q n) f ts
    | none => .no
end MP
/-! MP4: views of trees, the operators. -/
namespace MP
open PySem PySem.Spec PyProof.Rows L2
variable {c : Cv} {F F' H H' Fr : Hp} {G : Nat → Option Addr}
def Vw (c : Cv) (G : Nat → Option Addr) (F H : Hp) (t : T) (v : V) : Prop := ∃ L, RO c G F H t v L
def VL (c : Cv) (G : Nat → Option Addr) (F H : Hp) : List T → List V → Prop
  | [], vs => vs = []
  | t :: r, vs => ∃ v w, vs = v :: w ∧ Vw c G F H t v ∧ VL c G F H r w
def VK' (c : Cv) (G : Nat → Option Addr) (F H : Hp) : List (Key × T) → List (Key × V) → Prop
  | [], vs => vs = []
  | (k, t) :: r, vs => ∃ v w, vs = (k, v) :: w ∧ Vw c G F H t v ∧ VK' c G F H r w
theorem asI_eq {t : T} {i : Int} (h : asI t = some i) : t = .sh (.int i) := by
  unfold asI at h
  split at h
  · cases h; rfl
  · cases h
theorem asS_eq {t : T} {i : Str} (h : asS t = some i) : t = .sh (.str i) := by
  unfold asS at h
  split at h
  · cases h; rfl
  · cases h
theorem asB_eq {t : T} {i : Bool} (h : asB t = some i) : t = .sh (.bl i) := by
  unfold asB at h
  split at h
  · cases h; rfl
  · cases h
theorem asD_eq {t : T} {d : D} (h : asD t = some d) : t = .sh d := by
  unfold asD at h
  split at h
  · cases h; rfl
  · cases h
theorem Vw.int {i : Int} {v : V} (h : Vw c G F H (.sh (.int i)) v) : v = .int i := by
  obtain ⟨L, h⟩ := h
  simp only [RO, R] at h
  exact h.2
theorem Vw.str {i : Str} {v : V} (h : Vw c G F H (.sh (.str i)) v) : v = .str i := by
  obtain ⟨L, h⟩ := h
  simp only [RO, R] at h
  exact h.2
theorem Vw.bl {i : Bool} {v : V} (h : Vw c G F H (.sh (.bl i)) v) : v = .bl i := by
  obtain ⟨L, h⟩ := h
  simp only [RO, R] at h
  exact h.2
theorem Vw.non {v : V} (h : Vw c G F H (.sh .non) v) : v = .non := by
  obtain ⟨L, h⟩ := h
  simp only [RO, R] at h
  exact h.2
theorem Vw.sh {d : D} {v : V} (h : Vw c G F H (.sh d) v) : R c F d v := by
  obtain ⟨L, h⟩ := h
  simp only [RO] at h
  exact h.2
theorem Vw.of {d : D} {v : V} (h : R c F d v) : Vw c G F H (.sh d) v := ⟨[], by simp only [RO]; exact ⟨trivial, h⟩⟩
theorem VL.ofRL : ∀ {ds : List D} {vs : List V}, RL c F ds vs → VL c G F H (ds.map .sh) vs
  | [], _, h => by
    simp only [RL] at h
    exact h
  | d :: r, _, h => by
    simp only [RL] at h
    obtain ⟨v, w, e, x, y⟩ := h
    exact ⟨v, w, e, Vw.of x, VL.ofRL y⟩
theorem VL.ofRO : ∀ {ts : List T} {vs : List V} {L : List Addr}, ROL c G F H ts vs L → VL c G F H ts vs
  | [], _, _, h => by
    simp only [ROL] at h
    exact h.1
  | t :: r, _, _, h => by
    simp only [ROL] at h
    obtain ⟨v, w, L1, L2, e, q, x, y⟩ := h
    exact ⟨v, w, e, ⟨_, x⟩, VL.ofRO y⟩
theorem VK'.ofRK : ∀ {ds : List (Key × D)} {vs : List (Key × V)}, RK c F ds vs → VK' c G F H (ds.map fun p => (p.1, .sh p.2)) vs
  | [], _, h => by
    simp only [RK] at h
    exact h
  | (k, d) :: r, _, h => by
    simp only [RK] at h
    obtain ⟨v, w, e, x, y⟩ := h
    exact ⟨v, w, e, Vw.of x, VK'.ofRK y⟩
theorem VK'.ofRO : ∀ {ts : List (Key × T)} {vs : List (Key × V)} {L : List Addr}, ROK c G F H ts vs L → VK' c G F H ts vs
  | [], _, _, h => by
    simp only [ROK] at h
    exact h.1
  | (k, t) :: r, _, _, h => by
    simp only [ROK] at h
    obtain ⟨v, w, L1, L2, e, q, x, y⟩ := h
    exact ⟨v, w, e, ⟨_, x⟩, VK'.ofRO y⟩
theorem Vw.lst {t : T} {v : V} {ts : List T} (le : Le F H) (h : Vw c G F H t v) (e : asL t = some ts) : ∃ a vs, v = .ref a ∧ H a = some (.lst vs) ∧ VL c G F H ts vs := by
  obtain ⟨L, h⟩ := h
  unfold asL at e
  split at e
  · rename_i ds
    injection e with e; subst e
    simp only [RO, R] at h
    obtain ⟨_, a, vs, e1, s, r⟩ := h
    exact ⟨a, vs, e1, le.ex s rfl, VL.ofRL r⟩
  · injection e with e; subst e
    simp only [RO] at h
    obtain ⟨a, vs, L1, e1, s, r, _⟩ := h
    exact ⟨a, vs, e1, s, VL.ofRO r⟩
  · rename_i n ds
    injection e with e; subst e
    simp only [RO] at h
    obtain ⟨_, a, _, e1, ⟨ds', vs, e2, s, r⟩ | ⟨_, _, _, e2, _⟩ | ⟨_, _, _, e2, _⟩⟩ := h
    · injection e2 with e2; subst e2
      exact ⟨a, vs, e1, s, VL.ofRL r⟩
    · cases e2
    · cases e2
  · cases e
theorem Vw.tup {t : T} {v : V} {ts : List T} (le : Le F H) (h : Vw c G F H t v) (e : asU t = some ts) : ∃ a vs, v = .ref a ∧ SqT c.K H a vs ∧ VL c G F H ts vs := by
  obtain ⟨L, h⟩ := h
  unfold asU at e
  split at e
  · rename_i ds
    injection e with e; subst e
    simp only [RO, R] at h
    obtain ⟨_, a, vs, e1, s, r⟩ := h
    exact ⟨a, vs, e1, le.sqT s, VL.ofRL r⟩
  · injection e with e; subst e
    simp only [RO] at h
    obtain ⟨a, vs, L1, e1, s, r, _⟩ := h
    exact ⟨a, vs, e1, .inl (.inl s), VL.ofRO r⟩
  · cases e
theorem Vw.dk {t : T} {v : V} {ts : List (Key × T)} (le : Le F H) (h : Vw c G F H t v) (e : asK t = some ts) : ∃ a vs, v = .ref a ∧ Rd H a (.dK vs) ∧ VK' c G F H ts vs := by
  obtain ⟨L, h⟩ := h
  unfold asK at e
  split at e
  · rename_i ds
    injection e with e; subst e
    simp only [RO, R] at h
    obtain ⟨_, a, vs, e1, s, r⟩ := h
    exact ⟨a, vs, e1, le.rd s, VK'.ofRK r⟩
  · injection e with e; subst e
    simp only [RO] at h
    obtain ⟨a, vs, L1, e1, s, r, _⟩ := h
    exact ⟨a, vs, e1, .inl s, VK'.ofRO r⟩
  · rename_i n ds
    injection e with e; subst e
    simp only [RO] at h
    obtain ⟨_, a, _, e1, ⟨_, _, e2, _⟩ | ⟨o, ds', vs, e2, s, r⟩ | ⟨_, _, _, e2, _⟩⟩ := h
    · cases e2
    · injection e2 with e2; subst e2
      exact ⟨a, vs, e1, .inr ⟨o, s⟩, VK'.ofRK r⟩
    · cases e2
  · cases e
theorem VL.allD : ∀ {ts : List T} {vs : List V} {ds : List D}, VL c G F H ts vs → allD ts = some ds → RL c F ds vs
  | [], _, _, h, e => by
    simp only [MP.allD] at e
    injection e with e; subst e
    simp only [RL]
    exact h
  | t :: r, _, _, ⟨v, w, e1, x, y⟩, e => by
    simp only [MP.allD] at e
    split at e
    · rename_i d ds h1 h2
      injection e with e; subst e
      have := asD_eq h1
      subst this
      simp only [RL]
      exact ⟨v, w, e1, x.sh, VL.allD y h2⟩
    · cases e
theorem VL.allB : ∀ {ts : List T} {vs : List V} {bs : List Bool}, VL c G F H ts vs → allB ts = some bs → vs = bs.map V.bl
  | [], _, _, h, e => by
    simp only [MP.allB] at e
    injection e with e; subst e
    exact h
  | t :: r, _, _, ⟨v, w, e1, x, y⟩, e => by
    simp only [MP.allB] at e
    split at e
    · rename_i d ds h1 h2
      injection e with e; subst e
      have := asB_eq h1
      subst this
      rw [e1, x.bl, VL.allB y h2]
      rfl
    · cases e
theorem VL.allS : ∀ {ts : List T} {vs : List V} {bs : List Str}, VL c G F H ts vs → allS ts = some bs → vs = bs.map V.str
  | [], _, _, h, e => by
    simp only [MP.allS] at e
    injection e with e; subst e
    exact h
  | t :: r, _, _, ⟨v, w, e1, x, y⟩, e => by
    simp only [MP.allS] at e
    split at e
    · rename_i d ds h1 h2
      injection e with e; subst e
      have := asS_eq h1
      subst this
      rw [e1, x.str, VL.allS y h2]
      rfl
    · cases e
theorem VL.length : ∀ {ts : List T} {vs : List V}, VL c G F H ts vs → vs.length = ts.length
  | [], _, h => by
    have e : _ = [] := h
    rw [e]; rfl
  | t :: r, _, ⟨v, w, e1, x, y⟩ => by rw [e1, List.length_cons, List.length_cons, VL.length y]
theorem VL.get : ∀ {ts : List T} {vs : List V} {i : Nat} {t : T}, VL c G F H ts vs → ts[i]? = some t → ∃ v, vs[i]? = some v ∧ Vw c G F H t v
  | [], _, _, _, _, e => by simp at e
  | t :: r, _, 0, _, ⟨v, w, e1, x, y⟩, e => by
    simp at e
    subst e e1
    exact ⟨v, rfl, x⟩
  | t :: r, _, i + 1, _, ⟨v, w, e1, x, y⟩, e => by
    obtain ⟨u, a, b⟩ := VL.get (i := i) y (by simpa using e)
    subst e1
    exact ⟨u, by simpa using a, b⟩
theorem VK'.length : ∀ {ts : List (Key × T)} {vs : List (Key × V)}, VK' c G F H ts vs → vs.length = ts.length
  | [], _, h => by
    have e : _ = [] := h
    rw [e]; rfl
  | (k, t) :: r, _, ⟨v, w, e1, x, y⟩ => by rw [e1, List.length_cons, List.length_cons, VK'.length y]
theorem VK'.find {k : Key} : ∀ {ts : List (Key × T)} {vs : List (Key × V)} {p : Key × T}, VK' c G F H ts vs → ts.find? (fun p => decide (p.1 = k)) = some p → ∃ v, valV vs k = some v ∧ Vw c G F H p.2 v
  | [], _, _, _, e => by simp at e
  | (k', t) :: r, _, p, ⟨v, w, e1, x, y⟩, e => by
    subst e1
    by_cases q : k' = k
    · rw [List.find?_cons_of_pos (by simpa using q)] at e
      injection e with e; subst e
      exact ⟨v, valV_pos q, x⟩
    · rw [List.find?_cons_of_neg (by simpa using q)] at e
      obtain ⟨u, a, b⟩ := VK'.find y e
      exact ⟨u, (valV_neg q).trans a, b⟩
theorem VK'.nfind {k : Key} : ∀ {ts : List (Key × T)} {vs : List (Key × V)}, VK' c G F H ts vs → ts.find? (fun p => decide (p.1 = k)) = none → valV vs k = none
  | [], _, h, e => by rw [show _ = [] from h]; rfl
  | (k', t) :: r, _, ⟨v, w, e1, x, y⟩, e => by
    subst e1
    by_cases q : k' = k
    · rw [List.find?_cons_of_pos (by simpa using q)] at e
      cases e
    · rw [List.find?_cons_of_neg (by simpa using q)] at e
      exact (valV_neg q).trans (VK'.nfind y e)
theorem VK'.any {k : Key} {ts : List (Key × T)} {vs : List (Key × V)} (h : VK' c G F H ts vs) : (valV vs k).isSome = ts.any fun p => decide (p.1 = k) := by
  cases e : ts.find? (fun p => decide (p.1 = k)) with
  | none =>
    rw [h.nfind e]
    have := List.find?_eq_none.mp e
    symm
    rw [Option.isSome_none, List.any_eq_false]
    exact fun p hp => this p hp
  | some p =>
    obtain ⟨v, a, _⟩ := h.find e
    rw [a]
    symm
    rw [Option.isSome_some, List.any_eq_true]
    exact ⟨p, List.mem_of_find?_eq_some e, List.find?_some (p := fun p : Key × T => decide (p.1 = k)) e⟩
theorem keyOf_eq {t : T} {v : V} {k : Key} (h : Vw c G F H t v) (e : keyOf t = some k) : v = kV k := by
  unfold keyOf at e
  split at e
  · injection e with e; subst e; exact h.int
  · injection e with e; subst e; exact h.str
  · cases e
def Ext (H H' : Hp) : Prop := ∀ a o, H a = some o → H' a = some o
theorem Ext.refl {H : Hp} : Ext H H := fun _ _ h => h
theorem Ext.trans {A B C : Hp} (x : Ext A B) (y : Ext B C) : Ext A C := fun a o h => y a o (x a o h)
theorem Ext.upd {H : Hp} {p : Addr} {o : HO} (h : H p = none) : Ext H (upd H p o) := fun a u e => by
  have ne : a ≠ p := fun q => by rw [q, h] at e; cases e
  rw [upd_ne ne]; exact e
theorem Ext.le {F H H' : Hp} (l : Le F H) (x : Ext H H') : Le F H' := fun a o e => by
  rcases l a o e with e | ⟨d, z, e⟩
  · exact .inl (x _ _ e)
  · exact .inr ⟨d, z, x _ _ e⟩
/-- what an operator hands back: x in H' as u; new objects alone, or a part of an owned operand -/
def Res (c : Cv) (G : Nat → Option Addr) (F H : Hp) (own : Bool) (u : T) (x : V) (H' : Hp) : Prop :=
  (Ext H H' ∧ ∃ d, u = .sh d ∧ R c F d x) ∨ (∃ p o, H p = none ∧ H' = upd H p o ∧ x = .ref p ∧ RO c G F (upd H p o) u x [p]) ∨ (own = true ∧ H' = H ∧ Vw c G F H u x)
def T.own : T → Bool
  | .sh _ => false
  | _ => true
def WishR (c : Cv) (G : Nat → Option Addr) (F H : Hp) (own : Bool) (u : T) (Q : VK) : Prop := ∀ x H', Res c G F H own u x H' → Q x H'
theorem WishR.val {own : Bool} {d : D} {x : V} {Q : VK} (q : WishR c G F H own (.sh d) Q) (h : R c F d x) : Q x H := q x H (.inl ⟨.refl, d, rfl, h⟩)
theorem WishR.int {own : Bool} {i : Int} {Q : VK} (q : WishR c G F H own (tI i) Q) : Q (.int i) H := WishR.val (d := .int i) q (by simp only [R])
theorem WishR.bl {own : Bool} {i : Bool} {Q : VK} (q : WishR c G F H own (tB i) Q) : Q (.bl i) H := WishR.val (d := .bl i) q (by simp only [R])
theorem WishR.str {own : Bool} {i : Str} {Q : VK} (q : WishR c G F H own (tS i) Q) : Q (.str i) H := WishR.val (d := .str i) q (by simp only [R])
theorem ROL.ofRL : ∀ {ds : List D} {vs : List V}, RL c F ds vs → ROL c G F H (ds.map .sh) vs []
  | [], _, h => by
    simp only [RL] at h
    simp only [List.map_nil, ROL]
    exact ⟨h, trivial⟩
  | d :: r, _, h => by
    simp only [RL] at h
    obtain ⟨v, w, e, x, y⟩ := h
    simp only [List.map_cons, ROL]
    exact ⟨v, w, [], [], e, rfl, by simp only [RO]; exact ⟨trivial, x⟩, ROL.ofRL y⟩
theorem WishR.lst {own : Bool} {ds : List D} {vs : List V} {Q : VK} {p : Addr} (q : WishR c G F H own (.lst (ds.map .sh)) Q) (hp : H p = none) (h : RL c F ds vs) : Q (.ref p) (upd H p (.lst vs)) :=
  q _ _ (.inr (.inl ⟨p, _, hp, rfl, rfl, by simp only [RO]; exact ⟨p, vs, [], rfl, upd_same, ROL.ofRL h, rfl⟩⟩))
theorem WishR.tup {own : Bool} {ds : List D} {vs : List V} {Q : VK} {p : Addr} (q : WishR c G F H own (.tup (ds.map .sh)) Q) (hp : H p = none) (h : RL c F ds vs) : Q (.ref p) (upd H p (.tup vs)) :=
  q _ _ (.inr (.inl ⟨p, _, hp, rfl, rfl, by simp only [RO]; exact ⟨p, vs, [], rfl, upd_same, ROL.ofRL h, rfl⟩⟩))
theorem ROK.ofRK : ∀ {ds : List (Key × D)} {vs : List (Key × V)}, RK c F ds vs → ROK c G F H (ds.map fun p => (p.1, .sh p.2)) vs []
  | [], _, h => by
    simp only [RK] at h
    simp only [List.map_nil, ROK]
    exact ⟨h, trivial⟩
  | (k, d) :: r, _, h => by
    simp only [RK] at h
    obtain ⟨v, w, e, x, y⟩ := h
    simp only [List.map_cons, ROK]
    exact ⟨v, w, [], [], e, rfl, by simp only [RO]; exact ⟨trivial, x⟩, ROK.ofRK y⟩
theorem WishR.dk {own : Bool} {ds : List (Key × D)} {vs : List (Key × V)} {Q : VK} {p : Addr} (q : WishR c G F H own (.dK (ds.map fun p => (p.1, .sh p.2))) Q) (hp : H p = none) (h : RK c F ds vs) : Q (.ref p) (upd H p (.dK vs)) :=
  q _ _ (.inr (.inl ⟨p, _, hp, rfl, rfl, by simp only [RO]; exact ⟨p, vs, [], rfl, upd_same, ROK.ofRK h, rfl⟩⟩))
theorem VK'.allK : ∀ {ts : List (Key × T)} {vs : List (Key × V)} {ds : List (Key × D)}, VK' c G F H ts vs → allK ts = some ds → RK c F ds vs
  | [], _, _, h, e => by
    simp only [VK'] at h
    simp only [MP.allK, Option.some.injEq] at e; subst e
    simp only [RK]; exact h
  | (k, t) :: r, _, _, h, e => by
    simp only [VK'] at h
    obtain ⟨v, w, rfl, x, y⟩ := h
    simp only [MP.allK] at e
    split at e
    · rename_i d ds h1 h2
      injection e with e; subst e
      have := asD_eq h1; subst this
      simp only [RK]
      exact ⟨v, w, rfl, x.sh, VK'.allK y h2⟩
    · cases e
theorem RL.ints : ∀ {ds : List D} {vs : List V} {ns : List Int}, RL c F ds vs → asInts ds = some ns → vs = ns.map V.int
  | [], _, _, h, e => by
    simp only [RL] at h; simp only [asInts, Option.some.injEq] at e; subst h e; rfl
  | d :: r, _, _, h, e => by
    simp only [RL] at h
    obtain ⟨v, w, rfl, x, y⟩ := h
    cases d <;> simp only [asInts, reduceCtorEq] at e
    obtain ⟨ns, e1, rfl⟩ := Option.map_eq_some_iff.mp e
    simp only [R] at x
    rw [RL.ints y e1, x]; rfl
theorem RL.strs : ∀ {ds : List D} {vs : List V} {ns : List Str}, RL c F ds vs → asStrs ds = some ns → vs = ns.map V.str
  | [], _, _, h, e => by
    simp only [RL] at h; simp only [asStrs, Option.some.injEq] at e; subst h e; rfl
  | d :: r, _, _, h, e => by
    simp only [RL] at h
    obtain ⟨v, w, rfl, x, y⟩ := h
    cases d <;> simp only [asStrs, reduceCtorEq] at e
    obtain ⟨ns, e1, rfl⟩ := Option.map_eq_some_iff.mp e
    simp only [R] at x
    rw [RL.strs y e1, x]; rfl
theorem RL.ofInts : ∀ {ns : List Int}, RL c F (ns.map D.int) (ns.map V.int)
  | [] => by simp only [List.map_nil, RL]
  | i :: r => by simp only [List.map_cons, RL]; exact ⟨_, _, rfl, by simp only [R], RL.ofInts⟩
theorem RL.ofStrs : ∀ {ns : List Str}, RL c F (ns.map D.str) (ns.map V.str)
  | [] => by simp only [List.map_nil, RL]
  | i :: r => by simp only [List.map_cons, RL]; exact ⟨_, _, rfl, by simp only [R], RL.ofStrs⟩
theorem VK'.keysS : ∀ {ts : List (Key × T)} {vs : List (Key × V)} {xs : List Str}, VK' c G F H ts vs → keysS ts = some xs → vs.map (·.1) = xs.map Sum.inr
  | [], _, _, h, e => by
    simp only [VK'] at h; simp only [MP.keysS, Option.some.injEq] at e; subst h e; rfl
  | (k, t) :: r, _, _, h, e => by
    simp only [VK'] at h
    obtain ⟨v, w, rfl, x, y⟩ := h
    cases k <;> simp only [MP.keysS, reduceCtorEq] at e
    obtain ⟨ns, e1, rfl⟩ := Option.map_eq_some_iff.mp e
    simp only [List.map_cons, VK'.keysS y e1]
theorem VK'.keysI : ∀ {ts : List (Key × T)} {vs : List (Key × V)} {xs : List Int}, VK' c G F H ts vs → keysI ts = some xs → vs.map (·.1) = xs.map Sum.inl
  | [], _, _, h, e => by
    simp only [VK'] at h; simp only [MP.keysI, Option.some.injEq] at e; subst h e; rfl
  | (k, t) :: r, _, _, h, e => by
    simp only [VK'] at h
    obtain ⟨v, w, rfl, x, y⟩ := h
    cases k <;> simp only [MP.keysI, reduceCtorEq] at e
    obtain ⟨ns, e1, rfl⟩ := Option.map_eq_some_iff.mp e
    simp only [List.map_cons, VK'.keysI y e1]
theorem RL.length : ∀ {ds : List D} {vs : List V}, RL c F ds vs → vs.length = ds.length
  | [], _, h => by
    simp only [RL] at h
    rw [h]; rfl
  | d :: r, _, h => by
    simp only [RL] at h
    obtain ⟨v, w, e, x, y⟩ := h
    rw [e, List.length_cons, List.length_cons, RL.length y]
theorem RL.app : ∀ {ds es : List D} {vs ws : List V}, RL c F ds vs → RL c F es ws → RL c F (ds ++ es) (vs ++ ws)
  | [], _, _, _, h, k => by
    simp only [RL] at h
    subst h
    exact k
  | d :: r, _, _, _, h, k => by
    simp only [RL] at h
    obtain ⟨v, w, e, x, y⟩ := h
    subst e
    simp only [List.cons_append, RL]
    exact ⟨v, _, rfl, x, RL.app y k⟩
theorem RL.drop : ∀ {ds : List D} {vs : List V} (n : Nat), RL c F ds vs → RL c F (ds.drop n) (vs.drop n)
  | [], _, n, h => by
    simp only [RL] at h
    subst h
    simp only [List.drop_nil, RL]
  | d :: r, _, 0, h => by simpa using h
  | d :: r, _, n + 1, h => by
    simp only [RL] at h
    obtain ⟨v, w, e, x, y⟩ := h
    subst e
    simpa using RL.drop n y
theorem RL.take : ∀ {ds : List D} {vs : List V} (n : Nat), RL c F ds vs → RL c F (ds.take n) (vs.take n)
  | [], _, n, h => by
    simp only [RL] at h
    subst h
    simp only [List.take_nil, RL]
  | d :: r, _, 0, h => by simp only [List.take_zero, RL]
  | d :: r, _, n + 1, h => by
    simp only [RL] at h
    obtain ⟨v, w, e, x, y⟩ := h
    subst e
    simp only [List.take_succ_cons, RL]
    exact ⟨v, _, rfl, x, RL.take n y⟩
theorem RL.cut {ds : List D} {vs : List V} (lo hi : Option Int) (h : RL c F ds vs) : RL c F (cutT ds lo hi) (cutV vs lo hi) := by
  unfold cutT cutV
  rw [h.length]
  exact (h.drop _).take _
theorem RL.reverse : ∀ {ds : List D} {vs : List V}, RL c F ds vs → RL c F ds.reverse vs.reverse
  | [], _, h => by
    simp only [RL] at h
    subst h
    simp only [List.reverse_nil, RL]
  | d :: r, _, h => by
    simp only [RL] at h
    obtain ⟨v, w, e, x, y⟩ := h
    subst e
    rw [List.reverse_cons, List.reverse_cons]
    exact (RL.reverse y).app (by simp only [RL]; exact ⟨v, [], rfl, x, rfl⟩)
theorem RL.get : ∀ {ds : List D} {vs : List V} {i : Nat} {d : D}, RL c F ds vs → ds[i]? = some d → ∃ v, vs[i]? = some v ∧ R c F d v
  | [], _, _, _, _, e => by simp at e
  | d :: r, _, 0, _, h, e => by
    simp only [RL] at h
    obtain ⟨v, w, e1, x, y⟩ := h
    simp at e
    subst e e1
    exact ⟨v, rfl, x⟩
  | d :: r, _, i + 1, _, h, e => by
    simp only [RL] at h
    obtain ⟨v, w, e1, x, y⟩ := h
    obtain ⟨u, a, b⟩ := RL.get (i := i) y (by simpa using e)
    subst e1
    exact ⟨u, by simpa using a, b⟩
end MP
/-! MP4b: dicts that are equal. -/
namespace MP
open PySem PySem.Spec PyProof.Rows L2
variable {c : Cv} {F F' H H' Fr : Hp} {G : Nat → Option Addr} {X : Cx}
def rEqK (neg : Bool) : R2 := fun x y H Q => ∃ a b ks ls, x = .ref a ∧ y = .ref b ∧ Rd H a (.dK ks) ∧ Rd H b (.dK ls) ∧ ks.length = ls.length ∧ (∀ p ∈ ks, valV ls p.1 = some p.2 ∧ flatB p.2 = true) ∧ Q (.bl (!neg)) H
theorem op_eqK (hu : X.A.units < cLine) : OpR X (compareOp .Eq) (rEqK false) := by
  intro pins s σ H x y v u Q I rx ry h
  obtain ⟨a, b, ks, ls, rfl, rfl, ea, eb, hlen, hp, q⟩ := h
  obtain rfl : v = Value.ref a := rx
  obtain rfl : u = Value.ref b := ry
  obtain ⟨_, ya, va, ra, da⟩ := dk_rd I.hok ea
  obtain ⟨_, yb, vb, rb, db⟩ := dk_rd I.hok eb
  exact PySem.W.keq_eq (knd := mixKind X.prog X.w) (r := true) ya yb da db hu (fun _ => hits_all rb ra hp) (fin_bl I q (by simp [← ra.length, ← rb.length, hlen]))
theorem op_neK (hu : X.A.units < cLine) : OpR X (compareOp .NotEq) (rEqK true) := by
  intro pins s σ H x y v u Q I rx ry h
  obtain ⟨a, b, ks, ls, rfl, rfl, ea, eb, hlen, hp, q⟩ := h
  obtain rfl : v = Value.ref a := rx
  obtain rfl : u = Value.ref b := ry
  obtain ⟨_, ya, va, ra, da⟩ := dk_rd I.hok ea
  obtain ⟨_, yb, vb, rb, db⟩ := dk_rd I.hok eb
  exact PySem.W.keq_ne (knd := mixKind X.prog X.w) (r := true) ya yb da db hu (fun _ => hits_all rb ra hp) (fin_bl I q (by simp [← ra.length, ← rb.length, hlen]))
theorem sameF_V {s t : T} {v w : V} (h : sameF s t = true) (hv : Vw c G F H s v) (hw : Vw c G F H t w) : w = v ∧ flatB v = true := by
  unfold sameF at h
  split at h
  · have := of_decide_eq_true h; subst this
    rw [hv.int, hw.int]
    exact ⟨rfl, rfl⟩
  · have := of_decide_eq_true h; subst this
    rw [hv.str, hw.str]
    exact ⟨rfl, rfl⟩
  · cases h
theorem dictAll {ls : List (Key × T)} {ws : List (Key × V)} (hw : VK' c G F H ls ws) : ∀ {ks : List (Key × T)} {vs : List (Key × V)}, VK' c G F H ks vs → (ks.all fun p => sameIn p.1 p.2 ls) = true → ∀ p ∈ vs, valV ws p.1 = some p.2 ∧ flatB p.2 = true
  | [], vs, h, _, p, hp => by
    simp only [VK'] at h
    subst h
    cases hp
  | (k, t) :: r, vs, h, e, p, hp => by
    simp only [VK'] at h
    obtain ⟨v, w, rfl, x, y⟩ := h
    rw [List.all_cons, Bool.and_eq_true] at e
    rcases List.mem_cons.mp hp with rfl | hp
    · have e1 := e.1
      unfold sameIn at e1
      split at e1
      · rename_i q hq
        obtain ⟨u, a1, a2⟩ := hw.find hq
        obtain ⟨z1, z2⟩ := sameF_V e1 x a2
        subst z1
        exact ⟨a1, z2⟩
      · cases e1
    · exact dictAll hw y e.2 p hp
theorem dictEq_V {s t : T} {k : Bool} {v w : V} (h : dictEq s t = some k) (le : Le F H) (hv : Vw c G F H s v) (hw : Vw c G F H t w) : k = true ∧ ∃ a b ks ls, v = .ref a ∧ w = .ref b ∧ Rd H a (.dK ks) ∧ Rd H b (.dK ls) ∧ ks.length = ls.length ∧ (∀ p ∈ ks, valV ls p.1 = some p.2 ∧ flatB p.2 = true) := by
  unfold dictEq at h
  split at h
  · rename_i ks ls h1 h2
    split at h
    · rename_i hz
      injection h with h
      obtain ⟨a, vs, e1, e2, e3⟩ := hv.dk le h1
      obtain ⟨b, ws, f1, f2, f3⟩ := hw.dk le h2
      exact ⟨h.symm, a, b, vs, ws, e1, f1, e2, f2, by rw [e3.length, f3.length]; exact hz.1, dictAll f3 e3 hz.2⟩
    · cases h
  · cases h
theorem dictEq_true {s t : T} {k : Bool} (h : dictEq s t = some k) : k = true := by
  unfold dictEq at h
  split at h
  · split at h
    · injection h with h
      exact h.symm
    · cases h
  · cases h
end MP
/-! MP4c: lists and tuples that are not unlike, their items flat or flat dicts. -/
namespace PySem.SeqAt
open AutoSeq1 (wpAny_loadPart')
open MeetsSeq MeetsSeq2 MeetsSeq3 SeqRoads2
section
variable {prog : Program} {w : World}
/-- the loop of !=, where each item is equal -/
theorem ne_go (l b : Addr) (xs ys : Array Value) (n n2 : Nat) (dd dd2 : Option Addr) (sl sl2 : Array (Option Value)) (hsz : xs.size = ys.size) (m : Nat) :
    ∀ i : Nat, xs.size - i = m → MeetsIn prog w (Builtin.«list.__eq__.loop» ⟨[.ref l, .ref b, rawInt i, rawInt 3], []⟩)
      (fun A R s => s.heap.get? l = some { cls := .type "list", dict := dd, data := .seq xs n, slots := sl } ∧ s.heap.get? b = some { cls := .type "list", dict := dd2, data := .seq ys n2, slots := sl2 } ∧
        (∀ j (h1 : j < xs.size) (h2 : j < ys.size), EqP prog w A.in1 s xs[j] ys[j] true) ∧ R (.ok (.ret (.bool false))) s) := by
  induction m with
  | zero =>
    intro i hk A R ⟨hp, g, d, tk, os⟩ ⟨hl, hb, he, h⟩
    have no1 : xs[((i : Nat) : Int).toNat]? = none := by simp; omega
    have no2 : ys[((i : Nat) : Int).toNat]? = none := by simp; omega
    wp_walk using wpAny_loadPart' hl, wpAny_loadPart' hb
    rw [no1, no2]
    wp_walk using wpAny_loadPart' hl, wpAny_loadPart' hb
    show R (.ok (.ret (.bool (xs.size != ys.size)))) _
    rw [hsz, bne_self_eq_false]
    exact h
  | succ m ih =>
    intro i hk A R ⟨hp, g, d, tk, os⟩ ⟨hl, hb, he, h⟩
    have lt1 : i < xs.size := by omega
    have lt2 : i < ys.size := by omega
    have at1 : xs[((i : Nat) : Int).toNat]? = some xs[i] := by simp [lt1]
    have at2 : ys[((i : Nat) : Int).toNat]? = some ys[i] := by simp [lt2]
    wp_walk using wpAny_loadPart' hl, wpAny_loadPart' hb
    rw [at1, at2]
    refine wpAny_bind (he i lt1 lt2 _ _ ?_)
    wp_walk
    rw [show ((i : Int) + 1) = ((i + 1 : Nat) : Int) by push_cast; rfl]
    exact ⟨plainId_quiet plain_eq_loop _, codeAny_builtin entry_eq_loop (by
      rw [Around.under_plainId plain_eq_loop _]
      exact ih (i + 1) (by omega) A R _ ⟨hl, hb, he, h⟩)⟩
theorem ne_list (l b : Addr) (xs ys : Array Value) (n n2 : Nat) (dd dd2 : Option Addr) (sl sl2 : Array (Option Value)) (hsz : xs.size = ys.size) :
    MeetsIn prog w (Builtin.«list.__ne__» ⟨[.ref l, .ref b], []⟩)
      (fun A R s => s.heap.get? l = some { cls := .type "list", dict := dd, data := .seq xs n, slots := sl } ∧ s.heap.get? b = some { cls := .type "list", dict := dd2, data := .seq ys n2, slots := sl2 } ∧
        (∀ j (h1 : j < xs.size) (h2 : j < ys.size), EqP prog w A.in1 s xs[j] ys[j] true) ∧ R (.ok (.ret (.bool false))) s) := by
  intro A R ⟨hp, g, d, tk, os⟩ ⟨hl, hb, he, h⟩
  have sub := AutoSeq1.sub_list_list
  have same : ¬ (xs.size != ys.size) = true := by simp [hsz]
  wp_walk using wpAny_loadPart' hl, wpAny_loadPart' hb
  exact ⟨plainId_quiet plain_eq_loop _, codeAny_builtin entry_eq_loop (by
    rw [Around.under_plainId plain_eq_loop _]
    exact ne_go l b xs ys n n2 dd dd2 sl sl2 hsz _ 0 rfl A R _ ⟨hl, hb, he, h⟩)⟩
theorem ne_tup (l b : Addr) (xs ys : Array Value) (n n2 : Nat) (dd dd2 : Option Addr) (sl sl2 : Array (Option Value)) (hsz : xs.size = ys.size) :
    MeetsIn prog w (Builtin.«tuple.__ne__» ⟨[.ref l, .ref b], []⟩)
      (fun A R s => s.heap.get? l = some { cls := .type "tuple", dict := dd, data := .seq xs n, slots := sl } ∧ s.heap.get? b = some { cls := .type "tuple", dict := dd2, data := .seq ys n2, slots := sl2 } ∧
        (∀ j (h1 : j < xs.size) (h2 : j < ys.size), EqP prog w A.in1 s xs[j] ys[j] true) ∧ R (.ok (.ret (.bool false))) s) := by
  intro A R s h
  obtain ⟨hp, g, d, tk, os⟩ := s; obtain ⟨hl, hb, he, h⟩ := h
  have sub := AutoSeq1.sub_tuple_tuple
  have lenZ : (xs.toList.zip ys.toList).length = xs.size := by simp [hsz]
  wp_walk using wpAny_loadPart' hl, wpAny_loadPart' hb, wpAny_forIn_list _ (fun rest b s' => b.1 = none ∧ s' = ⟨hp, g, d, tk, os⟩ ∧ ∃ i, rest = (xs.toList.zip ys.toList).drop i) _
  case turn =>
    rintro ⟨y, x⟩ rest b s' ⟨hb', rfl, i, hz⟩
    have lt : i < (xs.toList.zip ys.toList).length := by
      rcases Nat.lt_or_ge i (xs.toList.zip ys.toList).length with q | q
      · exact q
      · rw [List.drop_of_length_le q] at hz; cases hz
    have h1 : i < xs.size := by omega
    have h2 : i < ys.size := by omega
    rw [List.drop_eq_getElem_cons lt] at hz
    injection hz with hyx hrest
    have hy : y = xs[i] := by have := congrArg Prod.fst hyx; simpa using this
    have hx : x = ys[i] := by have := congrArg Prod.snd hyx; simpa using this
    subst hy hx
    refine wpAny_bind (he i h1 h2 _ _ ?_)
    wp_walk
    exact ⟨rfl, rfl, i + 1, hrest⟩
  case fin =>
    rintro ⟨b1, b2⟩ s' ⟨hb', rfl, i, hz⟩
    simp only at hb'
    subst hb'
    wp_walk
    simpa [Builtin.Tuple.tupleCompareSizes, bne, hsz] using h
  case h => exact ⟨rfl, rfl, 0, rfl⟩
theorem rcNe_list {A : Around} {s : Shared} {l b : Addr} {xs ys : Array Value} (hl : s.heap.IsList l xs) (hb : s.heap.IsList b ys) (hsz : xs.size = ys.size) (hu : A.units < cLine)
    (he : ∀ j (h1 : j < xs.size) (h2 : j < ys.size), EqP prog w A.in1 s xs[j] ys[j] true) (E Q : Value → Shared → Prop) (h : Q (.bool false) s) : wpAny (model prog w) A (richCompare .NotEq (.ref l) (.ref b)) Q E s := by
  obtain ⟨⟨cls, dd, data, sl⟩, ho, hc, n, hd⟩ := id hl
  obtain ⟨⟨cls2, dd2, data2, sl2⟩, ho2, hc2, n2, hd2⟩ := id hb
  simp only at hc hd hc2 hd2
  subst hc hd hc2 hd2
  have ta : s.TypeIs (.ref l) "list" := ⟨_, ho, rfl⟩
  have tb : s.TypeIs (.ref b) "list" := ⟨_, ho2, rfl⟩
  exact wpAny_richCompare_same_room (op := .NotEq) ta tb F.slot_list_ne (call_meetsIn F.slot_list_ne ta F.entry_list_ne (F.args_list_ne_2 _ _) (ne_list l b xs ys n n2 dd dd2 sl sl2 hsz)
    ⟨ho, ho2, he, show Value.bool false ≠ Value.notImplemented ∧ Q (.bool false) s from ⟨(fun x => nomatch x), h⟩⟩) hu
theorem rcNe_tup {A : Around} {s : Shared} {l b : Addr} {xs ys : Array Value} (hl : s.heap.IsTuple l xs) (hb : s.heap.IsTuple b ys) (hsz : xs.size = ys.size) (hu : A.units < cLine)
    (he : ∀ j (h1 : j < xs.size) (h2 : j < ys.size), EqP prog w A.in1 s xs[j] ys[j] true) (E Q : Value → Shared → Prop) (h : Q (.bool false) s) : wpAny (model prog w) A (richCompare .NotEq (.ref l) (.ref b)) Q E s := by
  obtain ⟨⟨cls, dd, data, sl⟩, ho, hc, n, hd⟩ := id hl
  obtain ⟨⟨cls2, dd2, data2, sl2⟩, ho2, hc2, n2, hd2⟩ := id hb
  simp only at hc hd hc2 hd2
  subst hc hd hc2 hd2
  have ta : s.TypeIs (.ref l) "tuple" := ⟨_, ho, rfl⟩
  have tb : s.TypeIs (.ref b) "tuple" := ⟨_, ho2, rfl⟩
  exact wpAny_richCompare_same_room (op := .NotEq) ta tb F.slot_tuple_ne (call_meetsIn F.slot_tuple_ne ta F.entry_tuple_ne (F.args_tuple_ne_2 _ _) (ne_tup l b xs ys n n2 dd dd2 sl sl2 hsz)
    ⟨ho, ho2, he, show Value.bool false ≠ Value.notImplemented ∧ Q (.bool false) s from ⟨(fun x => nomatch x), h⟩⟩) hu
end
end PySem.SeqAt
namespace MP
open PySem PySem.Spec PyProof.Rows L2
variable {c : Cv} {F F' H H' Fr : Hp} {G : Nat → Option Addr} {X : Cx}
/-- equal items -/
def IE (H : Hp) (v w : V) : Prop := (v = w ∧ flatB v = true) ∨ ∃ a b ks ls, v = .ref a ∧ w = .ref b ∧ Rd H a (.dK ks) ∧ Rd H b (.dK ls) ∧ ks.length = ls.length ∧ ∀ p ∈ ks, valV ls p.1 = some p.2 ∧ flatB p.2 = true
theorem ie_run {pins : List (Addr × Obj)} {σ : L2.St} {s : Shared} (I : Inv X pins σ H s) {A : Around} (hu : A.units < cLine) {x y : V} {v u : Value} (h : IE H x y) (rx : RelV x v) (ry : RelV y u) : SeqAt.EqP X.prog X.w A s v u true := by
  rcases h with ⟨rfl, f⟩ | ⟨a, b, ks, ls, rfl, rfl, ea, eb, hl, hp⟩
  · exact (eqAt_same rx ry f).eqP
  · obtain rfl : v = Value.ref a := rx
    obtain rfl : u = Value.ref b := ry
    by_cases e : a = b
    · subst e
      exact (SeqAt.EqAt.same _).eqP
    · obtain ⟨_, ya, va, ra, da⟩ := dk_rd I.hok ea
      obtain ⟨_, yb, vb, rb, db⟩ := dk_rd I.hok eb
      refine SeqAt.eqP_refs e fun E Q q => PySem.W.rcP_dicts (knd := mixKind X.prog X.w) (r := true) ya yb da db hu (fun _ => hits_run (F := fun x y => x = y ∧ flatB x = true) (fun x y v u h rx ry => ?_) rb ra fun p hm => ⟨p.2, (hp p hm).1, rfl, (hp p hm).2⟩) E Q ?_
      · obtain ⟨rfl, f⟩ := h
        exact (eqAt_same rx ry f).eqP
      · rw [show (va.length == vb.length && true) = true from by simp [← ra.length, ← rb.length, hl]]
        exact q
theorem ies_run {pins : List (Addr × Obj)} {σ : L2.St} {s : Shared} (I : Inv X pins σ H s) {A : Around} (hu : A.units < cLine) {xs ys : List V} (hp : Paired (IE H) xs ys) :
    ∀ {us ws : List Value}, Vals xs us → Vals ys ws → ∀ j (h1 : j < us.length) (h2 : j < ws.length), SeqAt.EqP X.prog X.w A s us[j] ws[j] true := fun r1 r2 j h1 h2 =>
  items_run (F := IE H) (fun x y v u h rx ry => ie_run I hu h rx ry) hp r1 r2 j h1 h2
def rNeQ (K : PySem.W.Frag) : R2 := fun x y H Q => ∃ a b xs ys, x = .ref a ∧ y = .ref b ∧ ((SqL K H a xs ∧ SqL K H b ys) ∨ (SqT K H a xs ∧ SqT K H b ys)) ∧ Paired (IE H) xs ys ∧ Q (.bl false) H
theorem op_neQ (hu : X.A.units + 1 < cLine) : OpR X (compareOp .NotEq) (rNeQ X.K) := by
  intro pins s σ H x y v u Q I rx ry h
  obtain ⟨a, b, xs, ys, rfl, rfl, hab, hp, q⟩ := h
  obtain rfl : v = Value.ref a := rx
  obtain rfl : u = Value.ref b := ry
  have hu1 : X.A.in1.units < cLine := by show X.A.units + 1 < cLine; exact hu
  show wpAny (model X.prog X.w) X.A (richCompare .NotEq (.ref a) (.ref b)) (EP X pins σ Q) X.xe s
  rcases hab with ⟨ha, hb⟩ | ⟨ha, hb⟩
  · obtain ⟨us, r1, p1, _⟩ := I.list ha
    obtain ⟨ws, r2, p2, _⟩ := I.list hb
    refine SeqAt.rcNe_list p1.isList p2.isList (by rw [List.size_toArray, List.size_toArray, ← r1.length, ← r2.length]; exact Paired.length hp) (by omega) (fun j h1 h2 => ?_) _ _ ⟨.bl false, H, I, rfl, q⟩
    have k := ies_run I hu1 hp r1 r2 j (by simpa using h1) (by simpa using h2)
    simpa using k
  · obtain ⟨us, r1, p1, _⟩ := I.tuple ha
    obtain ⟨ws, r2, p2, _⟩ := I.tuple hb
    refine SeqAt.rcNe_tup p1 p2 (by rw [List.size_toArray, List.size_toArray, ← r1.length, ← r2.length]; exact Paired.length hp) (by omega) (fun j h1 h2 => ?_) _ _ ⟨.bl false, H, I, rfl, q⟩
    have k := ies_run I hu1 hp r1 r2 j (by simpa using h1) (by simpa using h2)
    simpa using k
theorem itemsEq_V (le : Le F H) : ∀ {xs ys : List T} {vs ws : List V}, itemsEq xs ys = true → VL c G F H xs vs → VL c G F H ys ws → Paired (IE H) vs ws
  | [], [], vs, ws, _, h1, h2 => by
    simp only [VL] at h1 h2
    subst h1 h2
    exact .nil
  | a :: r, b :: s, vs, ws, e, h1, h2 => by
    simp only [VL] at h1 h2
    obtain ⟨v, w1, rfl, x1, y1⟩ := h1
    obtain ⟨w, w2, rfl, x2, y2⟩ := h2
    simp only [itemsEq, Bool.and_eq_true] at e
    refine .cons ?_ (itemsEq_V le e.2 y1 y2)
    have e1 := e.1
    unfold itemEq at e1
    rw [Bool.or_eq_true] at e1
    rcases e1 with e1 | e1
    · obtain ⟨z1, z2⟩ := sameF_V e1 x1 x2
      exact .inl ⟨z1.symm, z2⟩
    · have e1 : dictEq a b = some true := by simpa using e1
      obtain ⟨_, p, q, ks, ls, f1, f2, f3, f4, f5, f6⟩ := dictEq_V e1 le x1 x2
      exact .inr ⟨p, q, ks, ls, f1, f2, f3, f4, f5, f6⟩
  | [], _ :: _, _, _, e, _, _ => by simp only [itemsEq] at e; cases e
  | _ :: _, [], _, _, e, _, _ => by simp only [itemsEq] at e; cases e
theorem seqEq_V (hK : X.K = c.K) {s t : T} {v w : V} (h : seqEq s t = true) (le : Le F H) (hv : Vw c G F H s v) (hw : Vw c G F H t w) : ∃ a b xs ys, v = .ref a ∧ w = .ref b ∧ ((SqL X.K H a xs ∧ SqL X.K H b ys) ∨ (SqT X.K H a xs ∧ SqT X.K H b ys)) ∧ Paired (IE H) xs ys := by
  unfold seqEq at h
  split at h
  · rename_i xs ys h1 h2
    obtain ⟨a, vs, e1, e2, e3⟩ := hv.lst le h1
    obtain ⟨b, ws, f1, f2, f3⟩ := hw.lst le h2
    exact ⟨a, b, vs, ws, e1, f1, .inl ⟨SqL.of e2, SqL.of f2⟩, itemsEq_V le h e3 f3⟩
  · split at h
    · rename_i xs ys h1 h2
      obtain ⟨a, vs, e1, e2, e3⟩ := hv.tup le h1
      obtain ⟨b, ws, f1, f2, f3⟩ := hw.tup le h2
      exact ⟨a, b, vs, ws, e1, f1, .inr ⟨by rw [hK]; exact e2, by rw [hK]; exact f2⟩, itemsEq_V le h e3 f3⟩
    · cases h
  · cases h
end MP
/-! MP5: the operators of two operands. -/
namespace MP
open PySem PySem.Spec PyProof.Rows L2
variable {c : Cv} {X : Cx}
/-- what an operator by values asks is there -/
def Op2Ok (c : Cv) (r : R2) (s t u : T) : Prop := ∀ (G : Nat → Option Addr) (F H : Hp) (v w : V) (Q : VK), Le F H → Vw c G F H s v → Vw c G F H t w → WishR c G F H (s.own || t.own) u Q → r v w H Q
def OpT (X : Cx) (c : Cv) (f : Value → Value → Sem Value) (s t u : T) : Prop := ∃ r : R2, OpR X f r ∧ Op2Ok c r s t u
theorem add_ok (hK : X.K = c.K) {s t u : T} (e : ev2 .add s t = some u) : OpT X c (binaryOp .Add) s t u := by
  simp only [ev2] at e
  split at e
  · rename_i i j h1 h2
    injection e with e; subst e
    have e1 := asI_eq h1; subst e1
    have e2 := asI_eq h2; subst e2
    exact ⟨_, op_add, fun G F H v w Q le hv hw q => ⟨i, j, hv.int, hw.int, q.int⟩⟩
  · split at e
    · rename_i x y h1 h2
      split at e
      · rename_i hz
        injection e with e; subst e
        have e1 := asS_eq h1; subst e1
        have e2 := asS_eq h2; subst e2
        exact ⟨_, op_add_str, fun G F H v w Q le hv hw q => ⟨x, y, hv.str, hw.str, hz, q.str⟩⟩
      · cases e
    · split at e
      · rename_i xs ys h1 h2
        split at e
        · rename_i ds es h3 h4
          split at e
          · rename_i hz
            injection e with e; subst e
            refine ⟨_, op_cat, fun G F H v w Q le hv hw q => ?_⟩
            obtain ⟨a, vs, rfl, ha, ra⟩ := hv.lst le h1
            obtain ⟨b, ws, rfl, hb, rb⟩ := hw.lst le h2
            have r1 := ra.allD h3
            have r2 := rb.allD h4
            refine ⟨a, b, vs, ws, rfl, rfl, ha, hb, by rw [r1.length, r2.length]; exact hz, fun p hp => ?_⟩
            exact q.lst hp (r1.app r2)
          · cases e
        · cases e
      · split at e
        · rename_i xs ys h1 h2
          split at e
          · rename_i ds es h3 h4
            split at e
            · rename_i hz
              injection e with e; subst e
              refine ⟨_, op_catT, fun G F H v w Q le hv hw q => ?_⟩
              obtain ⟨a, vs, rfl, ha, ra⟩ := hv.tup le h1
              obtain ⟨b, ws, rfl, hb, rb⟩ := hw.tup le h2
              have r1 := ra.allD h3
              have r2 := rb.allD h4
              have n1 : vs ≠ [] := fun z => hz.2.1 (by have := r1.length; rw [z] at this; exact List.eq_nil_of_length_eq_zero this.symm)
              have n2 : ws ≠ [] := fun z => hz.2.2 (by have := r2.length; rw [z] at this; exact List.eq_nil_of_length_eq_zero this.symm)
              refine ⟨a, b, vs, ws, rfl, rfl, by rw [hK]; exact ha, by rw [hK]; exact hb, n1, by rw [r1.length, r2.length]; exact hz.1, fun z => absurd z n2, fun _ p hp => ?_⟩
              exact q.tup hp (r1.app r2)
            · cases e
          · cases e
        · cases e
theorem sub_ok {s t u : T} (e : ev2 .sub s t = some u) : OpT X c (binaryOp .Sub) s t u := by
  simp only [ev2] at e
  split at e
  · rename_i i j h1 h2
    simp only [ariI, Option.map_some] at e
    injection e with e; subst e
    have e1 := asI_eq h1; subst e1
    have e2 := asI_eq h2; subst e2
    exact ⟨_, op_sub, fun G F H v w Q le hv hw q => ⟨i, j, hv.int, hw.int, q.int⟩⟩
  · cases e
theorem mul_ok {s t u : T} (e : ev2 .mul s t = some u) : OpT X c (binaryOp .Mult) s t u := by
  simp only [ev2] at e
  split at e
  · rename_i i j h1 h2
    simp only [ariI] at e
    split at e
    · rename_i hz
      simp only [Option.map_some] at e
      injection e with e; subst e
      have e1 := asI_eq h1; subst e1
      have e2 := asI_eq h2; subst e2
      exact ⟨_, op_mulW, fun G F H v w Q le hv hw q => ⟨i, j, hv.int, hw.int, hz, q.int⟩⟩
    · cases e
  · cases e
theorem fdiv_ok {s t u : T} (e : ev2 .fdiv s t = some u) : OpT X c (binaryOp .FloorDiv) s t u := by
  simp only [ev2] at e
  split at e
  · rename_i i j h1 h2
    simp only [ariI] at e
    split at e
    · rename_i hz
      simp only [Option.map_some] at e
      injection e with e; subst e
      have e1 := asI_eq h1; subst e1
      have e2 := asI_eq h2; subst e2
      exact ⟨_, op_fdivW, fun G F H v w Q le hv hw q => ⟨i, j, hv.int, hw.int, hz, q.int⟩⟩
    · cases e
  · cases e
theorem mod_ok {s t u : T} (e : ev2 .mod s t = some u) : OpT X c (binaryOp .Mod) s t u := by
  simp only [ev2] at e
  split at e
  · rename_i i j h1 h2
    simp only [ariI] at e
    split at e
    · rename_i hz
      simp only [Option.map_some] at e
      injection e with e; subst e
      have e1 := asI_eq h1; subst e1
      have e2 := asI_eq h2; subst e2
      exact ⟨_, op_mod, fun G F H v w Q le hv hw q => ⟨i, j, hv.int, hw.int, hz, q.int⟩⟩
    · cases e
  · cases e
theorem pow_ok {s t u : T} (e : ev2 .pow s t = some u) : OpT X c (binaryOp .Pow) s t u := by
  simp only [ev2] at e
  split at e
  · rename_i i j h1 h2
    simp only [ariI] at e
    split at e
    · rename_i hz
      simp only [Option.map_some] at e
      injection e with e; subst e
      have e1 := asI_eq h1; subst e1
      have e2 := asI_eq h2; subst e2
      exact ⟨_, op_pow, fun G F H v w Q le hv hw q => ⟨i, j, hv.int, hw.int, hz, q.int⟩⟩
    · cases e
  · cases e
theorem lt_ok {s t u : T} (e : ev2 .lt s t = some u) : OpT X c (compareOp .Lt) s t u := by
  simp only [ev2] at e
  split at e
  · rename_i i j h1 h2
    simp only [cmpI, Option.map_some] at e
    injection e with e; subst e
    have e1 := asI_eq h1; subst e1
    have e2 := asI_eq h2; subst e2
    exact ⟨_, op_lt, fun G F H v w Q le hv hw q => ⟨i, j, hv.int, hw.int, q.bl⟩⟩
  · cases e
theorem le_ok {s t u : T} (e : ev2 .le s t = some u) : OpT X c (compareOp .LtE) s t u := by
  simp only [ev2] at e
  split at e
  · rename_i i j h1 h2
    simp only [cmpI, Option.map_some] at e
    injection e with e; subst e
    have e1 := asI_eq h1; subst e1
    have e2 := asI_eq h2; subst e2
    exact ⟨_, op_le, fun G F H v w Q le hv hw q => ⟨i, j, hv.int, hw.int, q.bl⟩⟩
  · cases e
theorem gt_ok {s t u : T} (e : ev2 .gt s t = some u) : OpT X c (compareOp .Gt) s t u := by
  simp only [ev2] at e
  split at e
  · rename_i i j h1 h2
    simp only [cmpI, Option.map_some] at e
    injection e with e; subst e
    have e1 := asI_eq h1; subst e1
    have e2 := asI_eq h2; subst e2
    exact ⟨_, op_gt, fun G F H v w Q le hv hw q => ⟨i, j, hv.int, hw.int, q.bl⟩⟩
  · cases e
theorem ge_ok {s t u : T} (e : ev2 .ge s t = some u) : OpT X c (compareOp .GtE) s t u := by
  simp only [ev2] at e
  split at e
  · rename_i i j h1 h2
    simp only [cmpI, Option.map_some] at e
    injection e with e; subst e
    have e1 := asI_eq h1; subst e1
    have e2 := asI_eq h2; subst e2
    exact ⟨_, op_ge, fun G F H v w Q le hv hw q => ⟨i, j, hv.int, hw.int, q.bl⟩⟩
  · cases e
/-- flat values as V -/
def flatVd : D → V
  | .non => .non
  | .bl b => .bl b
  | .int i => .int i
  | .str x => .str x
  | _ => .non
theorem flatEq_V {F : Hp} {a b : D} {k : Bool} {v w : V} (e : flatEq a b = some k) (ra : R c F a v) (rb : R c F b w) : scal v w = true ∧ k = decide (v = w) ∧ flatV v = true ∧ flatV w = true := by
  unfold flatEq at e
  split at e <;> first
    | (cases e; simp only [R] at ra rb; subst ra rb; refine ⟨rfl, ?_, rfl, rfl⟩; simp; done)
    | (cases e; simp only [R] at ra rb; subst ra rb; refine ⟨rfl, ?_, rfl, rfl⟩; rw [dec_int]; exact (Bool.beq_eq_decide_eq _ _).symm)
    | (cases e; simp only [R] at ra rb; subst ra rb; refine ⟨rfl, ?_, rfl, rfl⟩; rw [dec_str]; exact (Bool.beq_eq_decide_eq _ _).symm)
    | (cases e; simp only [R] at ra rb; subst ra rb; refine ⟨rfl, ?_, rfl, rfl⟩; rw [dec_bl]; done)
    | cases e
mutual
theorem R.dp {H : Hp} (hK : X.K = c.K) : ∀ {d : D} {v : V} {p : PyData}, R c H d v → d.py = some p → Dp X.K H v p
  | .non, _, _, h, e => by simp only [R] at h; simp only [D.py, Option.some.injEq] at e; subst h e; exact .non
  | .bl _, _, _, h, e => by simp only [R] at h; simp only [D.py, Option.some.injEq] at e; subst h e; exact .bl _
  | .int _, _, _, h, e => by simp only [R] at h; simp only [D.py, Option.some.injEq] at e; subst h e; exact .int _
  | .str _, _, _, h, e => by simp only [R] at h; simp only [D.py, Option.some.injEq] at e; subst h e; exact .str _
  | .lst ds, _, _, h, e => by
    simp only [R] at h
    simp only [D.py] at e
    obtain ⟨ps, e1, rfl⟩ := Option.map_eq_some_iff.mp e
    obtain ⟨a, vs, rfl, s, r⟩ := h
    exact .lst (.inl (.inl s)) (RL.dp hK r e1)
  | .tup ds, _, _, h, e => by
    simp only [R] at h
    simp only [D.py] at e
    obtain ⟨ps, e1, rfl⟩ := Option.map_eq_some_iff.mp e
    obtain ⟨a, vs, rfl, s, r⟩ := h
    exact .tup (hK ▸ s) (RL.dp hK r e1)
  | .dK _, _, _, _, e => by simp only [D.py] at e; cases e
  | .dT _, _, _, _, e => by simp only [D.py] at e; cases e
  | .obj _ _, _, _, _, e => by simp only [D.py] at e; cases e
  | .glo _, _, _, _, e => by simp only [D.py] at e; cases e
  | .scr _, _, _, _, e => by simp only [D.py] at e; cases e
theorem RL.dp {H : Hp} (hK : X.K = c.K) : ∀ {ds : List D} {vs : List V} {ps : List PyData}, RL c H ds vs → Ds.py ds = some ps → DpAll X.K H vs ps
  | [], _, _, h, e => by simp only [RL] at h; simp only [Ds.py, Option.some.injEq] at e; subst h e; exact .nil
  | d :: r, _, _, h, e => by
    simp only [RL] at h
    obtain ⟨v, w, rfl, x, y⟩ := h
    simp only [Ds.py] at e
    split at e
    · rename_i a b h1 h2
      injection e with e; subst e
      exact .cons (R.dp hK x h1) (RL.dp hK y h2)
    · cases e
end
theorem eqFl_eq {s t : T} {k : Bool} (h : eqFl s t = some k) : ∃ a b, s = .sh a ∧ t = .sh b ∧ flatEq a b = some k := by
  unfold eqFl at h
  split at h
  · rename_i a b h1 h2
    exact ⟨a, b, asD_eq h1, asD_eq h2, h⟩
  · cases h
theorem deepEq_eq {s t : T} {k : Bool} (h : deepEq s t = some k) : (∃ d e, s.toD.py = some d ∧ t.toD.py = some e ∧ SeqAt.shaped d = true ∧ SeqAt.shaped e = true ∧ k = PyData.eqv d e) ∨ dictEq s t = some k := by
  unfold deepEq at h
  split at h
  · rename_i d e h1 h2
    split at h
    · rename_i h3
      injection h with h
      exact .inl ⟨d, e, h1, h2, h3.1, h3.2, h.symm⟩
    · cases h
  · exact .inr h
theorem Vw.dp {G : Nat → Option Addr} {F H : Hp} {t : T} {v : V} {p : PyData} (hK : X.K = c.K) (le : Le F H) (h : Vw c G F H t v) (e : t.toD.py = some p) : Dp X.K H v p := by
  obtain ⟨L, h⟩ := h
  exact R.dp hK (h.look le) e
theorem flatV_ne {x y : V} (h : scal x y = true) (hf : flatV x = true) : eqV x y = decide (x = y) := by
  unfold scal at h
  split at h <;> first
    | rfl
    | (rw [dec_int]; rfl)
    | (rw [dec_str]; rfl)
    | (rw [dec_bl]; rfl)
    | cases hf
    | (simp [eqV]; done)
    | cases h
/-! dicts that are unlike -/
def hitV (ls : List (Key × V)) : List (Key × V) → Option Bool
  | [] => some true
  | (k, v) :: r => match valV ls k with
    | none => some false
    | some w => match hitV ls r with
      | some b => if flatV v = true ∧ flatV w = true then some (eqV v w && b) else none
      | none => none
theorem hits_V {A : Around} {s : Shared} {kvs : List (Key × V)} {vb : List (Key × Value)} (rb : KV kvs vb) : ∀ {ks : List (Key × V)} {va : List (Key × Value)} {r : Bool}, KV ks va → hitV kvs ks = some r → PySem.W.KeqHits A s vb va r
  | [], va, r, ra, h => by
    unfold KV at ra
    cases ra
    unfold hitV at h
    injection h with h; subst h
    exact .nil
  | (k, v) :: ks, va, r, ra, h => by
    unfold KV at ra
    cases ra with
    | cons h1 t =>
      rename_i q qs
      obtain ⟨k2, u⟩ := q
      obtain ⟨e1, ru⟩ := h1
      dsimp only at e1 ru
      subst e1
      unfold hitV at h
      split at h
      · rename_i hn
        injection h with h; subst h
        refine .miss ?_
        have rr : RelO (none : Option V) (valueAt vb k) := by rw [← hn]; exact rb.val k
        exact RelO.none_of rr
      · rename_i w hw
        split at h
        · rename_i b hb
          split at h
          · rename_i hf
            injection h with h; subst h
            have rr : RelO (some w) (valueAt vb k) := by rw [← hw]; exact rb.val k
            obtain ⟨y, hy, ry⟩ := rr.some_of
            exact .hit hy (eqAt_V ru ry hf.1 hf.2) (hits_V rb (va := qs) t hb)
          · cases h
        · cases h
def rEqN (neg : Bool) : R2 := fun x y H Q => ∃ a b ks ls, x = .ref a ∧ y = .ref b ∧ Rd H a (.dK ks) ∧ Rd H b (.dK ls) ∧ (ks.length = ls.length → hitV ls ks = some false) ∧ Q (.bl neg) H
theorem op_eqN (hu : X.A.units < cLine) : OpR X (compareOp .Eq) (rEqN false) := by
  intro pins s σ H x y v u Q I rx ry h
  obtain ⟨a, b, ks, ls, rfl, rfl, ea, eb, hp, q⟩ := h
  obtain rfl : v = Value.ref a := rx
  obtain rfl : u = Value.ref b := ry
  obtain ⟨_, ya, va, ra, da⟩ := dk_rd I.hok ea
  obtain ⟨_, yb, vb, rb, db⟩ := dk_rd I.hok eb
  exact PySem.W.keq_eq (knd := mixKind X.prog X.w) (r := false) ya yb da db hu (fun e => hits_V rb ra (hp (by rw [ra.length, rb.length]; exact e))) (fin_bl I q (by simp))
theorem op_neN (hu : X.A.units < cLine) : OpR X (compareOp .NotEq) (rEqN true) := by
  intro pins s σ H x y v u Q I rx ry h
  obtain ⟨a, b, ks, ls, rfl, rfl, ea, eb, hp, q⟩ := h
  obtain rfl : v = Value.ref a := rx
  obtain rfl : u = Value.ref b := ry
  obtain ⟨_, ya, va, ra, da⟩ := dk_rd I.hok ea
  obtain ⟨_, yb, vb, rb, db⟩ := dk_rd I.hok eb
  exact PySem.W.keq_ne (knd := mixKind X.prog X.w) (r := false) ya yb da db hu (fun e => hits_V rb ra (hp (by rw [ra.length, rb.length]; exact e))) (fin_bl I q (by simp))
theorem asD_Vw {F H : Hp} {G : Nat → Option Addr} {t : T} {d : D} {v : V} (e : asD t = some d) (h : Vw c G F H t v) : R c F d v := by
  have := asD_eq e; subst this
  exact h.sh
theorem dictHit_V {F H : Hp} {G : Nat → Option Addr} {ls : List (Key × T)} {ws : List (Key × V)} (hw : VK' c G F H ls ws) : ∀ {ks : List (Key × T)} {vs : List (Key × V)} {r : Bool}, VK' c G F H ks vs → dictHit ls ks = some r → hitV ws vs = some r
  | [], vs, r, h, e => by
    simp only [VK'] at h
    subst h
    unfold dictHit at e
    unfold hitV
    exact e
  | (k, t) :: ks, vs, r, h, e => by
    simp only [VK'] at h
    obtain ⟨v, w, rfl, x, y⟩ := h
    unfold dictHit at e
    unfold hitV
    split at e
    · rename_i hn
      rw [hw.nfind hn]
      exact e
    · rename_i q hq
      obtain ⟨u, a1, a2⟩ := hw.find hq
      rw [a1]
      dsimp only
      split at e
      · rename_i d e0 b h1 h2 h3
        rw [dictHit_V hw y h3]
        dsimp only
        split at e
        · rename_i z hz
          injection e with e; subst e
          obtain ⟨f1, f2, f3, f4⟩ := flatEq_V hz (asD_Vw h1 x) (asD_Vw h2 a2)
          rw [if_pos ⟨f3, f4⟩, flatV_ne f1 f3, ← f2]
        · cases e
      · cases e
theorem dictNe_V {F H : Hp} {G : Nat → Option Addr} {s t : T} {v w : V} (h : dictNe s t = true) (le : Le F H) (hv : Vw c G F H s v) (hw : Vw c G F H t w) : ∃ a b ks ls, v = .ref a ∧ w = .ref b ∧ Rd H a (.dK ks) ∧ Rd H b (.dK ls) ∧ (ks.length = ls.length → hitV ls ks = some false) := by
  unfold dictNe at h
  split at h
  · rename_i ks ls h1 h2
    obtain ⟨a, vs, e1, e2, e3⟩ := hv.dk le h1
    obtain ⟨b, ws, f1, f2, f3⟩ := hw.dk le h2
    refine ⟨a, b, vs, ws, e1, f1, e2, f2, fun e => ?_⟩
    rw [Bool.or_eq_true, decide_eq_true_eq] at h
    rcases h with h | h
    · rw [e3.length, f3.length] at e
      exact absurd e h
    · exact dictHit_V f3 e3 (eq_of_beq h)
  · cases h
theorem eq_ok (hK : X.K = c.K) (hu : X.A.units + 64 < cLine) {s t u : T} (e : ev2 .eq s t = some u) : OpT X c (compareOp .Eq) s t u := by
  simp only [ev2] at e
  split at e
  · rename_i k h
    obtain ⟨a, b, rfl, rfl, h⟩ := eqFl_eq h
    injection e with e; subst e
    refine ⟨_, op_eq, fun G F H v w Q le hv hw q => ?_⟩
    obtain ⟨z1, z2, _⟩ := flatEq_V h hv.sh hw.sh
    exact ⟨z1, by rw [← z2]; exact q.bl⟩
  · split at e
    · rename_i k h
      injection e with e; subst e
      rcases deepEq_eq h with ⟨p1, p2, h1, h2, h3, h4, rfl⟩ | h
      · exact ⟨_, op_eqD hu, fun G F H v w Q le hv hw q => ⟨p1, p2, hv.dp hK le h1, hw.dp hK le h2, h3, h4, q.bl⟩⟩
      · have hk := dictEq_true h
        subst hk
        refine ⟨_, op_eqK (by omega), fun G F H v w Q le hv hw q => ?_⟩
        obtain ⟨_, a, b, ks, ls, e1, e2, e3, e4, e5, e6⟩ := dictEq_V h le hv hw
        exact ⟨a, b, ks, ls, e1, e2, e3, e4, e5, e6, q.bl⟩
    · split at e
      · rename_i hs
        injection e with e; subst e
        refine ⟨_, op_eqN (by omega), fun G F H v w Q le hv hw q => ?_⟩
        obtain ⟨a, b, ks, ls, e1, e2, e3, e4, e5⟩ := dictNe_V hs le hv hw
        exact ⟨a, b, ks, ls, e1, e2, e3, e4, e5, q.bl⟩
      · cases e
theorem ne_ok (hK : X.K = c.K) (hu : X.A.units + 64 < cLine) {s t u : T} (e : ev2 .ne s t = some u) : OpT X c (compareOp .NotEq) s t u := by
  simp only [ev2] at e
  split at e
  · rename_i k h
    obtain ⟨a, b, rfl, rfl, h⟩ := eqFl_eq h
    injection e with e; subst e
    refine ⟨_, op_ne, fun G F H v w Q le hv hw q => ?_⟩
    obtain ⟨z1, z2, _⟩ := flatEq_V h hv.sh hw.sh
    exact ⟨z1, by rw [← z2]; exact q.bl⟩
  · split at e
    · rename_i k h
      injection e with e; subst e
      rcases deepEq_eq h with ⟨p1, p2, h1, h2, h3, h4, rfl⟩ | h
      · exact ⟨_, op_neD hu, fun G F H v w Q le hv hw q => ⟨p1, p2, hv.dp hK le h1, hw.dp hK le h2, h3, h4, q.bl⟩⟩
      · have hk := dictEq_true h
        subst hk
        refine ⟨_, op_neK (by omega), fun G F H v w Q le hv hw q => ?_⟩
        obtain ⟨_, a, b, ks, ls, e1, e2, e3, e4, e5, e6⟩ := dictEq_V h le hv hw
        exact ⟨a, b, ks, ls, e1, e2, e3, e4, e5, e6, q.bl⟩
    · split at e
      · rename_i hs
        injection e with e; subst e
        refine ⟨_, op_neQ (by omega), fun G F H v w Q le hv hw q => ?_⟩
        obtain ⟨a, b, xs, ys, e1, e2, e3, e4⟩ := seqEq_V (X := X) hK hs le hv hw
        exact ⟨a, b, xs, ys, e1, e2, e3, e4, q.bl⟩
      · split at e
        · rename_i hs
          injection e with e; subst e
          refine ⟨_, op_neN (by omega), fun G F H v w Q le hv hw q => ?_⟩
          obtain ⟨a, b, ks, ls, e1, e2, e3, e4, e5⟩ := dictNe_V hs le hv hw
          exact ⟨a, b, ks, ls, e1, e2, e3, e4, e5, q.bl⟩
        · cases e
theorem inL_V {F : Hp} {d : D} : ∀ {ds : List D} {k : Bool} {v : V} {vs : List V}, inL d ds = some k → R c F d v → RL c F ds vs → flatV v = true → k = inV v vs ∧ vs.all flatV = true
  | [], k, v, vs, e, r, h, hf => by
    simp only [RL] at h
    simp only [inL] at e
    injection e with e; subst e h
    exact ⟨rfl, rfl⟩
  | d' :: ds, k, v, vs, e, r, h, hf => by
    simp only [RL] at h
    obtain ⟨w, ws, e1, x, y⟩ := h
    subst e1
    simp only [inL] at e
    split at e
    · rename_i b k2 h1 h2
      injection e with e; subst e
      obtain ⟨e2, e3⟩ := inL_V h2 r y hf
      obtain ⟨z1, z2, z3, z4⟩ := flatEq_V h1 x r
      subst e2 z2
      refine ⟨?_, ?_⟩
      · unfold inV
        rw [List.any_cons, flatV_ne z1 z3]
      · rw [List.all_cons, z3, e3]; rfl
    · cases e
theorem flat_of_inL {F : Hp} {d : D} {ds : List D} {k : Bool} {v : V} (e : inL d ds = some k) (r : R c F d v) (n : ds ≠ []) : flatV v = true := by
  cases ds with
  | nil => exact absurd rfl n
  | cons d' ds =>
    simp only [inL] at e
    split at e
    · rename_i b k2 h1 h2
      unfold flatEq at h1
      split at h1 <;> first
        | (simp only [R] at r; subst r; rfl)
        | cases h1
    · cases e
theorem op_in_D {neg : Bool} (hu : X.A.units + 1 < cLine) : OpR X (compareOp (if neg then .NotIn else .In)) (fun y x H Q => ∃ a o, x = .ref a ∧ DGet H a y o ∧ Q (.bl (if neg then !o.isSome else o.isSome)) H) := by
  intro pins s σ H y x v u Q I ry rx h
  obtain ⟨a, o, rfl, g, q⟩ := h
  cases rx
  cases neg with
  | true => exact d_notIn hu I g ry fun s' I' => ⟨.bl (!o.isSome), H, I', rfl, q⟩
  | false => exact d_in hu I g ry fun s' I' => ⟨.bl o.isSome, H, I', rfl, q⟩
theorem str_one {x : Str} {k : Nat} (h : x.cps.toList = [k]) : x = ⟨#[k]⟩ := by
  obtain ⟨a⟩ := x
  have : a = #[k] := by
    apply Array.ext'
    simpa using h
  rw [this]
theorem inT_ok {neg : Bool} (hK : X.K = c.K) (hu : X.A.units + 1 < cLine) {s t : T} {k : Bool} (e : inT s t = some k) : OpT X c (compareOp (if neg then .NotIn else .In)) s t (tB (if neg then !k else k)) := by
  have seq : ∀ {ts : List T} {d : D} {ds : List D}, allD ts = some ds → s = .sh d → inL d ds = some k → (∀ {G : Nat → Option Addr} {F H : Hp} {w : V}, Le F H → Vw c G F H t w → ∃ a vs, w = .ref a ∧ (SqL c.K H a vs ∨ SqT c.K H a vs) ∧ VL c G F H ts vs) → d.flat = true →
      OpT X c (compareOp (if neg then .NotIn else .In)) s t (tB (if neg then !k else k)) := by
    intro ts d ds h1 h2 h3 h4 h5
    subst h2
    refine ⟨rIn X.K neg, by cases neg; exact op_in_seq; exact op_notIn_seq, fun G F H v w Q le hv hw q => ?_⟩
    obtain ⟨a, vs, e1, e2, e3⟩ := h4 le hw
    have fv : flatV v = true := by
      have := hv.sh
      cases d <;> simp only [R] at this <;> first | (subst this; rfl) | cases h5
    obtain ⟨e4, e5⟩ := inL_V h3 hv.sh (e3.allD h1) fv
    refine ⟨a, vs, e1, by rw [hK]; exact e2, fv, e5, ?_⟩
    rw [← e4]
    exact q.bl
  unfold inT at e
  split at e
  · rename_i x z h1 h2
    split at e
    · rename_i hl
      have e1 := asS_eq h1; subst e1
      have e2 := asS_eq h2; subst e2
      have hl2 : ∃ q, x.cps.toList = [q] := by
        have : x.cps.toList.length = 1 := by simpa [Str.length] using hl
        cases h : x.cps.toList with
        | nil => rw [h] at this; cases this
        | cons a r =>
          cases r with
          | nil => exact ⟨a, rfl⟩
          | cons _ _ => rw [h] at this; simp at this
      obtain ⟨q, hq⟩ := hl2
      rw [hq] at e
      injection e with e; subst e
      have ex := str_one hq
      subst ex
      cases neg with
      | false => exact ⟨_, op_in_sign, fun G F H v w Q le hv hw q' => ⟨q, z, hv.str, hw.str, q'.bl⟩⟩
      | true => exact ⟨_, op_notIn_sign, fun G F H v w Q le hv hw q' => ⟨q, z, hv.str, hw.str, q'.bl⟩⟩
    · cases e
  · split at e
    · rename_i ts h1
      split at e
      · rename_i d ds h2 h3
        split at e
        · rename_i hf
          exact seq h3 (asD_eq h2) e (fun le hw => by
            obtain ⟨a, vs, e1, e2, e3⟩ := hw.lst le h1
            exact ⟨a, vs, e1, .inl (SqL.of e2), e3⟩) hf
        · cases e
      · cases e
    · split at e
      · rename_i ts h1
        split at e
        · rename_i d ds h2 h3
          split at e
          · rename_i hf
            exact seq h3 (asD_eq h2) e (fun le hw => by
              obtain ⟨a, vs, e1, e2, e3⟩ := hw.tup le h1
              exact ⟨a, vs, e1, .inr e2, e3⟩) hf
          · cases e
        · cases e
      · split at e
        · rename_i ks h1
          split at e
          · rename_i kk h2
            injection e with e; subst e
            refine ⟨_, op_in_D hu, fun G F H v w Q le hv hw q => ?_⟩
            obtain ⟨a, vs, e1, e2, e3⟩ := hw.dk le h1
            refine ⟨a, valV vs kk, e1, .inl ⟨vs, kk, e2, keyOf_eq hv h2, rfl⟩, ?_⟩
            rw [e3.any]
            exact q.bl
          · cases e
        · cases e
theorem in_ok (hK : X.K = c.K) (hu : X.A.units + 1 < cLine) {s t u : T} (e : ev2 .inn s t = some u) : OpT X c (compareOp .In) s t u := by
  simp only [ev2] at e
  cases h : inT s t with
  | none => rw [h] at e; cases e
  | some k =>
    rw [h] at e
    injection e with e; subst e
    exact inT_ok (neg := false) hK hu h
theorem nin_ok (hK : X.K = c.K) (hu : X.A.units + 1 < cLine) {s t u : T} (e : ev2 .nin s t = some u) : OpT X c (compareOp .NotIn) s t u := by
  simp only [ev2] at e
  cases h : inT s t with
  | none => rw [h] at e; cases e
  | some k =>
    rw [h] at e
    injection e with e; subst e
    exact inT_ok (neg := true) hK hu h
/-! ### subscripts -/
theorem atI_map {α β : Type} {f : α → β} {xs : List α} {i : Int} : atI (xs.map f) i = (atI xs i).map f := by
  unfold atI
  rw [List.length_map]
  cases ixN xs.length i with
  | none => rfl
  | some j => simp
theorem VL.at {F H : Hp} {G : Nat → Option Addr} {ts : List T} {vs : List V} {i : Int} {t : T} (h : VL c G F H ts vs) (e : atI ts i = some t) : ∃ v, atI vs i = some v ∧ Vw c G F H t v := by
  unfold atI at e ⊢
  rw [h.length]
  cases q : ixN ts.length i with
  | none => rw [q] at e; cases e
  | some j =>
    rw [q] at e
    exact h.get e
/-- what stands behind a child: a frozen one, or a part of what is owned -/
theorem WishR.child {F H : Hp} {G : Nat → Option Addr} {own : Bool} {t : T} {v : V} {Q : VK} (q : WishR c G F H own t Q) (h : Vw c G F H t v) (ho : own = true ∨ ∃ d, t = .sh d) : Q v H := by
  rcases ho with ho | ⟨d, rfl⟩
  · exact q v H (.inr (.inr ⟨ho, rfl, h⟩))
  · exact q.val h.sh
theorem asL_child {t : T} {ts : List T} {i : Int} {u : T} (e : asL t = some ts) (e2 : atI ts i = some u) : t.own = true ∨ ∃ d, u = .sh d := by
  unfold asL at e
  split at e
  · injection e with e; subst e
    rw [atI_map] at e2
    right
    cases h : atI _ i with
    | none => rw [h] at e2; cases e2
    | some d => rw [h] at e2; injection e2 with e2; exact ⟨d, e2.symm⟩
  · left; rfl
  · left; rfl
  · cases e
theorem asU_child {t : T} {ts : List T} {i : Int} {u : T} (e : asU t = some ts) (e2 : atI ts i = some u) : t.own = true ∨ ∃ d, u = .sh d := by
  unfold asU at e
  split at e
  · injection e with e; subst e
    rw [atI_map] at e2
    right
    cases h : atI _ i with
    | none => rw [h] at e2; cases e2
    | some d => rw [h] at e2; injection e2 with e2; exact ⟨d, e2.symm⟩
  · left; rfl
  · cases e
theorem asK_child {t : T} {ts : List (Key × T)} {k : Key} {u : T} (e : asK t = some ts) (e2 : (ts.find? fun p => decide (p.1 = k)).map (·.2) = some u) : t.own = true ∨ ∃ d, u = .sh d := by
  unfold asK at e
  split at e
  · injection e with e; subst e
    right
    obtain ⟨p, hp, e3⟩ := Option.map_eq_some_iff.mp e2
    have := List.mem_of_find?_eq_some hp
    obtain ⟨q, _, e4⟩ := List.mem_map.mp this
    rw [← e4] at e3
    exact ⟨q.2, e3.symm⟩
  · left; rfl
  · left; rfl
  · cases e
/-- a rule of an expression of two parts -/
def tOpO (pre : Option (V → Hp → Prop)) (r : R2) (ta tb : TE) : TE := match pre with
  | none => tOp r ta tb
  | some p => fun σ H Q => ta σ H fun x H1 => p x H1 ∧ tb σ H1 fun y H2 => r x y H2 Q
def Rule2 (X : Cx) (e a b : Expr) (pre : Option (V → Hp → Prop)) (r : R2) : Prop := ∀ ta tb, PE X a ta → PE X b tb → PE X e (tOpO pre r ta tb)
def PreOk (c : Cv) (pre : Option (V → Hp → Prop)) (s : T) : Prop := ∀ p, pre = some p → ∀ (G : Nat → Option Addr) (F H : Hp) (v : V), Le F H → Vw c G F H s v → p v H
theorem PreOk.none {s : T} : PreOk c none s := fun _ e => by cases e
def ExT (X : Cx) (c : Cv) (e a b : Expr) (s t u : T) : Prop := ∃ (pre : Option (V → Hp → Prop)) (r : R2), Rule2 X e a b pre r ∧ PreOk c pre s ∧ Op2Ok c r s t u
theorem OpT.bin {op : Operator} {a b : Expr} {pos : Pos} {s t u : T} (h : OpT X c (binaryOp op) s t u) : ExT X c (.BinOp a op b pos) a b s t u := by
  obtain ⟨r, h1, h2⟩ := h
  exact ⟨none, r, fun ta tb ha hb => pe_op h1 ha hb, .none, h2⟩
def noSet : Expr → Bool
  | .Set _ _ _ => false
  | _ => true
theorem noMarks {op : CmpOp} {b : Expr} (h : noSet b = true) : behindInMarks op b = false := by
  cases b <;> first | rfl | cases h
theorem OpT.cmp {op : CmpOp} {a b : Expr} {pos : Pos} {s t u : T} (h : OpT X c (compareOp op) s t u) (hb : noSet b = true) : ExT X c (.Compare a [op] [b] pos) a b s t u := by
  obtain ⟨r, h1, h2⟩ := h
  exact ⟨none, r, fun ta tb ha hb' => pe_cmpR h1 ha hb' (noMarks hb), .none, h2⟩
def noSlice : Expr → Bool
  | .Slice _ _ _ _ => false
  | _ => true
theorem plainIx_of {b : Expr} (h : noSlice b = true) : PlainIx b := fun _ _ => by
  cases b <;> first | rfl | cases h
theorem noSl_of {b : Expr} (h : noSlice b = true) : NoSl b := fun _ _ => by
  cases b <;> first | rfl | cases h
theorem idx_ok (hK : X.K = c.K) (hu : X.A.units + 1 < cLine) {a b : Expr} {pos : Pos} {s t u : T} (hb : noSlice b = true) (e : ev2 .idx s t = some u) : ExT X c (.Subscript a b pos) a b s t u := by
  simp only [ev2] at e
  split at e
  · rename_i ks h1
    split at e
    · rename_i kk h2
      refine ⟨none, fun x y H Q => ∃ a v, x = .ref a ∧ DGet H a y (some v) ∧ Q v H, fun ta tb ha hb' => pe_dget hu ha hb' (noSl_of hb), .none, fun G F H v w Q le hv hw q => ?_⟩
      obtain ⟨a, vs, e1, e2, e3⟩ := hv.dk le h1
      obtain ⟨p, hp, e4⟩ := Option.map_eq_some_iff.mp e
      obtain ⟨v', e5, e6⟩ := e3.find hp
      rw [e4] at e6
      refine ⟨a, v', e1, .inl ⟨vs, kk, e2, keyOf_eq hw h2, e5.symm⟩, q.child e6 ?_⟩
      rcases asK_child h1 e with z | z
      · exact .inl (by rw [z]; rfl)
      · exact .inr z
    · cases e
  · split at e
    · rename_i i h2
      have e2 := asI_eq h2; subst e2
      split at e
      · rename_i ts h1
        refine ⟨none, rIxL X.K, fun ta tb ha hb' => pe_ix ix_list ha hb' (plainIx_of hb), .none, fun G F H v w Q le hv hw q => ?_⟩
        obtain ⟨a, vs, e1, e2, e3⟩ := hv.lst le h1
        obtain ⟨v', e5, e6⟩ := e3.at e
        refine ⟨a, vs, i, v', e1, hw.int, SqL.of e2, e5, q.child e6 ?_⟩
        rcases asL_child h1 e with z | z
        · exact .inl (by rw [z]; rfl)
        · exact .inr z
      · split at e
        · rename_i ts h1
          refine ⟨none, rIxT X.K, fun ta tb ha hb' => pe_ix ix_tup ha hb' (plainIx_of hb), .none, fun G F H v w Q le hv hw q => ?_⟩
          obtain ⟨a, vs, e1, e2, e3⟩ := hv.tup le h1
          obtain ⟨v', e5, e6⟩ := e3.at e
          refine ⟨a, vs, i, v', e1, hw.int, by rw [hK]; exact e2, e5, q.child e6 ?_⟩
          rcases asU_child h1 e with z | z
          · exact .inl (by rw [z]; rfl)
          · exact .inr z
        · split at e
          · rename_i z h1
            split at e
            · rename_i hz
              have e1 := asS_eq h1; subst e1
              obtain ⟨k, hk, e3⟩ := Option.map_eq_some_iff.mp e
              subst e3
              exact ⟨none, rIxS, fun ta tb ha hb' => pe_ix ix_str ha hb' (plainIx_of hb), .none, fun G F H v w Q le hv hw q => ⟨z, i, k, hv.str, hw.int, hz, hk, q.str⟩⟩
            · cases e
          · cases e
    · cases e
end MP
/-! MP6: slices, built-ins of one and three operands. -/
namespace MP
open PySem PySem.Spec PyProof.Rows L2
variable {c : Cv} {X : Cx}
def noStar : Expr → Bool
  | .Starred _ _ => false
  | _ => true
theorem star_cons {e : Expr} {es : List Expr} {env : Env} (h : noStar e = true) : starEach (e :: es) env = (false, eval e env) :: starEach es env := by
  cases e <;> first | rfl | cases h
def baseOk : Expr → Bool
  | .Call (.Name id _) [] [] _ => id != "super"
  | _ => true
theorem base_of {o : Expr} {m : Str} {env : Env} (h : baseOk o = true) : attributeBase o m env (eval o env) = eval o env := by
  cases o with
  | Call f as ks p =>
    cases f with
    | Name id q =>
      cases as with
      | nil =>
        cases ks with
        | nil =>
          have h' : (id != "super") = true := h
          show (if (id != "super" || m == "__class__" || env.kindOf "super" != some .globalImplicit || env.kindOf "__class__" != some .free) = true then (do return ← eval (.Call (.Name id q) [] [] p) env) else _) = _
          rw [if_pos (by rw [h']; rfl)]
        | cons _ _ => rfl
      | cons _ _ => rfl
    | _ => rfl
  | _ => rfl
/-! ### one operand -/
abbrev R1 := V → Hp → VK → Prop
def Rule1 (X : Cx) (e a : Expr) (r : R1) : Prop := ∀ ta, PE X a ta → PE X e (tUn r ta)
def Op1Ok (c : Cv) (r : R1) (s u : T) : Prop := ∀ (G : Nat → Option Addr) (F H : Hp) (v : V) (Q : VK), Le F H → Vw c G F H s v → WishR c G F H false u Q → r v H Q
def Ex1 (X : Cx) (c : Cv) (e a : Expr) (s u : T) : Prop := ∃ r : R1, Rule1 X e a r ∧ Op1Ok c r s u
/-- a built-in function is what its name says -/
def Blt (X : Cx) (x : Str) : Prop := Gl X x ∧ X.mg x = none
theorem rule_callB {id : String} {x : Str} {r : List V → Hp → VK → Prop} {a : Expr} {p pos : Pos} (hc : CallR X (.builtin id) r) (hb : Blt X x) (hv : bootBuiltins x = some (.builtin id)) (hs : noStar a = true) (hn : x ≠ "__name__" := by decide) (hdb : (x == ("__debug__" : Str)) = false := by decide) :
    Rule1 X (.Call (.Name x p) [a] [] pos) a (fun v H Q => r [v] H Q) := fun ta ha => pe_callB hc hb.1 hb.2 hv (pa_cons ha pa_nil (star_cons hs)) hn hdb (star_cons hs) rfl
theorem rule_callTy {id : String} {x : Str} {r : List V → Hp → VK → Prop} {a : Expr} {p pos : Pos} (hc : CallR X (.type id) r) (hb : Blt X x) (hv : bootBuiltins x = some (.type id)) (hs : noStar a = true) (hn : x ≠ "__name__" := by decide) (hdb : (x == ("__debug__" : Str)) = false := by decide) :
    Rule1 X (.Call (.Name x p) [a] [] pos) a (fun v H Q => r [v] H Q) := fun ta ha => pe_callTy hc hb.1 hb.2 hv (pa_cons ha pa_nil (star_cons hs)) hn hdb (star_cons hs) rfl
theorem neg_ok {a : Expr} {pos : Pos} {s u : T} (e : ev1 .neg s = some u) : Ex1 X c (.UnaryOp .USub a pos) a s u := by
  simp only [ev1] at e
  obtain ⟨i, h1, h2⟩ := Option.map_eq_some_iff.mp e
  subst h2
  have e1 := asI_eq h1; subst e1
  exact ⟨_, fun ta ha => pe_un un_neg ha, fun G F H v Q le hv q => ⟨i, hv.int, q.int⟩⟩
theorem len_ok (hK : X.K = c.K) {a : Expr} {p pos : Pos} {s u : T} (hb : Blt X "len") (hs : noStar a = true) (e : ev1 .len s = some u) : Ex1 X c (.Call (.Name "len" p) [a] [] pos) a s u := by
  simp only [ev1] at e
  split at e
  · rename_i z h1
    split at e
    · rename_i hz
      injection e with e; subst e
      have e1 := asS_eq h1; subst e1
      exact ⟨_, rule_callB call_len_str hb boot_len hs, fun G F H v Q le hv q => ⟨z, by rw [hv.str], hz, q.int⟩⟩
    · cases e
  · split at e
    · rename_i ts h1
      injection e with e; subst e
      refine ⟨_, rule_callB call_len_seq hb boot_len hs, fun G F H v Q le hv q => ?_⟩
      obtain ⟨a, vs, e1, e2, e3⟩ := hv.lst le h1
      exact ⟨a, vs, by rw [e1], .inl (SqL.of e2), by rw [e3.length]; exact q.int⟩
    · split at e
      · rename_i ts h1
        injection e with e; subst e
        refine ⟨_, rule_callB call_len_seq hb boot_len hs, fun G F H v Q le hv q => ?_⟩
        obtain ⟨a, vs, e1, e2, e3⟩ := hv.tup le h1
        exact ⟨a, vs, by rw [e1], .inr (by rw [hK]; exact e2), by rw [e3.length]; exact q.int⟩
      · split at e
        · rename_i ks h1
          injection e with e; subst e
          have rl : CallR X (.builtin "len") (fun xs H Q => ∃ p ys, xs = [.ref p] ∧ Rd H p (.dK ys) ∧ Q (.int ys.length) H) := by
            intro pins s σ H xs us Q I r h
            obtain ⟨p, ys, rfl, hr, q⟩ := h
            obtain ⟨u, rfl, rx⟩ := vals1 r
            cases rx
            exact d_len I hr fun t s' I' => ⟨.int ys.length, H, I', ⟨t, rfl⟩, q⟩
          refine ⟨_, rule_callB rl hb boot_len hs, fun G F H v Q le hv q => ?_⟩
          obtain ⟨a, vs, e1, e2, e3⟩ := hv.dk le h1
          exact ⟨a, vs, by rw [e1], e2, by rw [e3.length]; exact q.int⟩
        · split at e
          · rename_i ns
            injection e with e; subst e
            refine ⟨_, rule_callB call_len_seq hb boot_len hs, fun G F H v Q le hv q => ?_⟩
            have := hv.sh
            simp only [R] at this
            obtain ⟨a, e1, e2⟩ := this
            exact ⟨a, _, by rw [e1], .inl (by rw [hK]; exact le.sqL e2), by rw [List.length_map]; exact q.int⟩
          · cases e
theorem strI_ok {a : Expr} {p pos : Pos} {s u : T} (hb : Blt X "str") (hs : noStar a = true) (e : ev1 .strI s = some u) : Ex1 X c (.Call (.Name "str" p) [a] [] pos) a s u := by
  simp only [ev1] at e
  split at e
  · rename_i i h1
    split at e
    · rename_i hz
      injection e with e; subst e
      have e1 := asI_eq h1; subst e1
      exact ⟨_, rule_callTy call_str_int hb (by decide +kernel) hs, fun G F H v Q le hv q => ⟨i, by rw [hv.int], hz, q.str⟩⟩
    · cases e
  · cases e
theorem tupL_ok (hK : X.K = c.K) {a : Expr} {p pos : Pos} {s u : T} (hb : Blt X "tuple") (hs : noStar a = true) (e : ev1 .tupL s = some u) : Ex1 X c (.Call (.Name "tuple" p) [a] [] pos) a s u := by
  simp only [ev1] at e
  split at e
  · rename_i ts h1
    obtain ⟨ds, h2, h3⟩ := Option.map_eq_some_iff.mp e
    subst h3
    refine ⟨_, rule_callTy call_tuple_of hb (by decide +kernel) hs, fun G F H v Q le hv q => ?_⟩
    obtain ⟨a, vs, e1, e2, e3⟩ := hv.lst le h1
    exact ⟨a, vs, by rw [e1], .inl ⟨SqL.of e2, fun l hl => q.tup hl (e3.allD h2)⟩⟩
  · split at e
    · rename_i ds
      injection e with e; subst e
      refine ⟨_, rule_callTy call_tuple_of hb (by decide +kernel) hs, fun G F H v Q le hv q => ?_⟩
      have := hv.sh
      have r0 := this
      simp only [R] at this
      obtain ⟨a, vs, e1, e2, e3⟩ := this
      refine ⟨a, vs, by rw [e1], .inr ⟨by rw [hK]; exact le.sqT e2, ?_⟩⟩
      rw [← e1]
      exact q.val r0
    · cases e
theorem listL_ok (hK : X.K = c.K) {a : Expr} {p pos : Pos} {s u : T} (hb : Blt X "list") (hs : noStar a = true) (e : ev1 .listL s = some u) : Ex1 X c (.Call (.Name "list" p) [a] [] pos) a s u := by
  simp only [ev1] at e
  split at e
  · rename_i ts h1
    obtain ⟨ds, h2, h3⟩ := Option.map_eq_some_iff.mp e
    subst h3
    refine ⟨_, rule_callTy call_list_of hb (by decide +kernel) hs, fun G F H v Q le hv q => ?_⟩
    obtain ⟨a, vs, e1, e2, e3⟩ := hv.lst le h1
    exact ⟨a, vs, by rw [e1], .inl (SqL.of e2), fun l hl => q.lst hl (e3.allD h2)⟩
  · split at e
    · rename_i ts h1
      obtain ⟨ds, h2, h3⟩ := Option.map_eq_some_iff.mp e
      subst h3
      refine ⟨_, rule_callTy call_list_of hb (by decide +kernel) hs, fun G F H v Q le hv q => ?_⟩
      obtain ⟨a, vs, e1, e2, e3⟩ := hv.tup le h1
      exact ⟨a, vs, by rw [e1], .inr (by rw [hK]; exact e2), fun l hl => q.lst hl (e3.allD h2)⟩
    · cases e
theorem sortI_uniq {ns ys : List Int} (h1 : ys.Perm ns) (h2 : ys.Pairwise (· ≤ ·)) : ys = sortI ns := by
  have p : (sortI ns).Pairwise (· ≤ ·) := (List.pairwise_mergeSort (le := fun a b : Int => decide (a ≤ b)) (fun a b c h1 h2 => by simp at h1 h2 ⊢; omega) (fun a b => by simp; omega) ns).imp fun h => of_decide_eq_true h
  exact List.Perm.eq_of_pairwise (le := (· ≤ ·)) (fun a b _ _ h1 h2 => by omega) h2 p (h1.trans (List.mergeSort_perm _ _).symm)
theorem leS_iff {a b : Str} : leS a b = true ↔ a.cps.toList ≤ b.cps.toList := by
  unfold leS
  rw [ltCps_eq]
  simp only [Bool.not_eq_true', decide_eq_false_iff_not]
  exact List.not_lt
theorem sortS_uniq {ns ys : List Str} (h1 : ys.Perm ns) (h2 : sortedS ys = true) : ys = sortS ns := by
  have p : (sortS ns).Pairwise (fun a b => leS a b = true) := List.pairwise_mergeSort (le := leS) (fun a b c h1 h2 => by rw [leS_iff] at *; exact List.le_trans h1 h2) (fun a b => by rw [Bool.or_eq_true, leS_iff, leS_iff]; exact List.le_total _ _) ns
  have q : ys.Pairwise (fun a b => leS a b = true) := by
    clear h1 p
    have key : ∀ (l : List Str) (x : Str), risingS x l = true → (x :: l).Pairwise (fun a b => leS a b = true) := fun l => by
      induction l with
      | nil => intro x _; exact List.pairwise_singleton _ _
      | cons y l ih =>
        intro x h
        simp only [risingS, Bool.and_eq_true] at h
        have h3 := ih y h.2
        have hxy : leS x y = true := h.1
        refine List.pairwise_cons.mpr ⟨fun z hz => ?_, h3⟩
        rcases List.mem_cons.mp hz with rfl | hz
        · exact hxy
        · have := (List.pairwise_cons.mp h3).1 z hz
          rw [leS_iff] at *
          exact List.le_trans hxy this
    cases ys with
    | nil => exact List.Pairwise.nil
    | cons x l => exact key l x h2
  refine List.Perm.eq_of_pairwise (le := fun a b => leS a b = true) (fun a b _ _ h1 h2 => ?_) q p (h1.trans (List.mergeSort_perm _ _).symm)
  rw [leS_iff] at h1 h2
  have := List.le_antisymm h1 h2
  cases a; cases b
  simp only [Str.mk.injEq]
  exact Array.toList_inj.mp this
theorem dictD_ok (hK : X.K = c.K) {a : Expr} {p pos : Pos} {s u : T} (hb : Blt X "dict") (hs : noStar a = true) (e : ev1 .dictD s = some u) : Ex1 X c (.Call (.Name "dict" p) [a] [] pos) a s u := by
  simp only [ev1] at e
  split at e
  · rename_i ks h1
    obtain ⟨ds, h2, h3⟩ := Option.map_eq_some_iff.mp e
    subst h3
    refine ⟨_, rule_callTy call_dictD hb (by decide +kernel) hs, fun G F H v Q le hv q => ?_⟩
    obtain ⟨a, vs, e1, e2, e3⟩ := hv.dk le h1
    exact ⟨a, vs, by rw [e1], e2, fun l hl => q.dk hl (e3.allK h2)⟩
  · cases e
theorem sortL_ok (hK : X.K = c.K) (hc : X.calm = true) {a : Expr} {p pos : Pos} {s u : T} (hb : Blt X "sorted") (hs : noStar a = true) (e : ev1 .sortL s = some u) : Ex1 X c (.Call (.Name "sorted" p) [a] [] pos) a s u := by
  have mI : ∀ l : List Int, (l.map fun i => T.sh (.int i)) = (l.map D.int).map T.sh := fun l => by rw [List.map_map]; rfl
  have mS : ∀ l : List Str, (l.map fun i => T.sh (.str i)) = (l.map D.str).map T.sh := fun l => by rw [List.map_map]; rfl
  simp only [ev1] at e
  split at e
  · rename_i ts h1
    unfold sortOf at e
    split at e
    · rename_i ds h2
      split at e
      · rename_i ns h3
        injection e with e; subst e
        refine ⟨_, rule_callB cr_sortedI hb (by decide +kernel) hs, fun G F H v Q le hv q => ?_⟩
        obtain ⟨a, vs, e1, e2, e3⟩ := hv.lst le h1
        have := (e3.allD h2).ints h3; subst this
        refine ⟨a, ns, by rw [e1], SqL.of e2, fun ys p1 h4 h5 h6 => ?_⟩
        rw [sortI_uniq h4 h5]
        rw [mI] at q
        exact q.lst h6 RL.ofInts
      · split at e
        · rename_i xs h3
          split at e
          · rename_i hz
            injection e with e; subst e
            refine ⟨_, rule_callB cr_sortedS hb (by decide +kernel) hs, fun G F H v Q le hv q => ?_⟩
            obtain ⟨a, vs, e1, e2, e3⟩ := hv.lst le h1
            have := (e3.allD h2).strs h3; subst this
            refine ⟨a, xs, by rw [e1], SqL.of e2, hz, fun ys p1 h4 h5 h6 => ?_⟩
            rw [sortS_uniq h4 h5]
            rw [mS] at q
            exact q.lst h6 RL.ofStrs
          · cases e
        · cases e
    · cases e
  · split at e
    · rename_i ks h1
      unfold sortKs at e
      split at e
      · rename_i xs h2
        split at e
        · rename_i hz
          injection e with e; subst e
          refine ⟨_, rule_callB (call_sortedD hc) hb (by decide +kernel) hs, fun G F H v Q le hv q => ?_⟩
          obtain ⟨a, vs, e1, e2, e3⟩ := hv.dk le h1
          refine ⟨a, vs, xs, by rw [e1], e2, e3.keysS h2, hz, fun ys p1 h4 h5 h6 => ?_⟩
          rw [sortS_uniq h4 h5]
          rw [mS] at q
          exact q.lst h6 RL.ofStrs
        · cases e
      · split at e
        · rename_i xs h2
          split at e
          · rename_i hz
            injection e with e; subst e
            refine ⟨_, rule_callB (call_sortedDN hc) hb (by decide +kernel) hs, fun G F H v Q le hv q => ?_⟩
            obtain ⟨a, vs, e1, e2, e3⟩ := hv.dk le h1
            refine ⟨a, vs, xs, by rw [e1], e2, e3.keysI h2, hz, fun ys p1 h4 h5 h6 => ?_⟩
            rw [sortI_uniq h4 h5]
            rw [mI] at q
            exact q.lst h6 RL.ofInts
          · cases e
        · cases e
    · cases e
theorem allL_ok (hc : X.calm = true) {a : Expr} {p pos : Pos} {s u : T} (hb : Blt X "all") (hs : noStar a = true) (e : ev1 .allL s = some u) : Ex1 X c (.Call (.Name "all" p) [a] [] pos) a s u := by
  simp only [ev1] at e
  split at e
  · rename_i ts h1
    obtain ⟨bs, h2, h3⟩ := Option.map_eq_some_iff.mp e
    subst h3
    refine ⟨_, rule_callB (cr_all hc) hb (by decide +kernel) hs, fun G F H v Q le hv q => ?_⟩
    obtain ⟨a, vs, e1, e2, e3⟩ := hv.lst le h1
    have := e3.allB h2
    subst this
    exact ⟨a, bs, by rw [e1], SqL.of e2, q.bl⟩
  · cases e
theorem anyL_ok (hc : X.calm = true) {a : Expr} {p pos : Pos} {s u : T} (hb : Blt X "any") (hs : noStar a = true) (e : ev1 .anyL s = some u) : Ex1 X c (.Call (.Name "any" p) [a] [] pos) a s u := by
  simp only [ev1] at e
  split at e
  · rename_i ts h1
    obtain ⟨bs, h2, h3⟩ := Option.map_eq_some_iff.mp e
    subst h3
    refine ⟨_, rule_callB (cr_any hc) hb (by decide +kernel) hs, fun G F H v Q le hv q => ?_⟩
    obtain ⟨a, vs, e1, e2, e3⟩ := hv.lst le h1
    have := e3.allB h2
    subst this
    exact ⟨a, bs, by rw [e1], SqL.of e2, q.bl⟩
  · cases e
theorem Vw.isN {G : Nat → Option Addr} {F H : Hp} {t : T} {v : V} (h : Vw c G F H t v) : decide (v = .non) = isNon t := by
  obtain ⟨L, h⟩ := h
  cases t with
  | sh d =>
    simp only [RO] at h
    have h2 := h.2
    cases d <;> simp only [R] at h2 <;> first
      | (subst h2; rfl)
      | (obtain ⟨_, _, e, _⟩ := h2; subst e; rfl)
      | (obtain ⟨_, e, _⟩ := h2; subst e; rfl)
      | (obtain ⟨_, _, _, e, _⟩ := h2; subst e; rfl)
  | lk n d =>
    simp only [RO] at h
    obtain ⟨_, a, _, e, _⟩ := h
    subst e
    rfl
  | obj k fs =>
    simp only [RO] at h
    obtain ⟨_, _, _, _, e, _⟩ := h
    subst e
    rfl
  | lst _ =>
    simp only [RO] at h
    obtain ⟨_, _, _, e, _⟩ := h
    subst e
    rfl
  | tup _ =>
    simp only [RO] at h
    obtain ⟨_, _, _, e, _⟩ := h
    subst e
    rfl
  | dK _ =>
    simp only [RO] at h
    obtain ⟨_, _, _, e, _⟩ := h
    subst e
    rfl
  | dT _ =>
    simp only [RO] at h
    obtain ⟨_, _, _, e, _⟩ := h
    subst e
    rfl
theorem isN_ok {a : Expr} {j : Nat} {pos' pos : Pos} {s u : T} (e : ev1 .isN s = some u) : Ex1 X c (.Compare a [.Is] [.Constant .none j pos'] pos) a s u := by
  simp only [ev1] at e
  injection e with e; subst e
  refine ⟨fun v H Q => Q (.bl (decide (v = .non))) H, fun ta ha => pe_cmp (pc_isN ha) rfl, fun G F H v Q le hv q => ?_⟩
  show Q (.bl (decide (v = .non))) H
  rw [hv.isN]
  exact q.bl
theorem notN_ok {a : Expr} {j : Nat} {pos' pos : Pos} {s u : T} (e : ev1 .notN s = some u) : Ex1 X c (.Compare a [.IsNot] [.Constant .none j pos'] pos) a s u := by
  simp only [ev1] at e
  injection e with e; subst e
  refine ⟨fun v H Q => Q (.bl (!decide (v = .non))) H, fun ta ha => pe_cmp (pc_notN ha) rfl, fun G F H v Q le hv q => ?_⟩
  show Q (.bl (!decide (v = .non))) H
  rw [hv.isN]
  exact q.bl
theorem revL_ok {a : Expr} {k : Nat} {p1 p2 p3 pos : Pos} {s u : T} (e : ev1 .revL s = some u) : Ex1 X c (.Subscript a (.Slice none none (some (.UnaryOp .USub (.Constant (.int 1) k p1) p2)) p3) pos) a s u := by
  simp only [ev1] at e
  split at e
  · rename_i ts h1
    obtain ⟨ds, h2, h3⟩ := Option.map_eq_some_iff.mp e
    subst h3
    refine ⟨fun x H1 Q => ∃ a xs, x = .ref a ∧ SqL X.K H1 a xs ∧ ∀ p, H1 p = none → Q (.ref p) (upd H1 p (.lst xs.reverse)), fun ta ha => pe_revL ha, fun G F H v Q le hv q => ?_⟩
    obtain ⟨a, vs, e1, e2, e3⟩ := hv.lst le h1
    exact ⟨a, vs, e1, SqL.of e2, fun p hp => q.lst hp (e3.allD h2).reverse⟩
  · cases e
/-! ### slices -/
theorem slice_ok (hK : X.K = c.K) {s u : T} {lo hi : Option Int} (e : sliceOf s lo hi = some u) : ∃ r : V → Option Int → Option Int → Hp → VK → Prop, SlR X r ∧
    ∀ (G : Nat → Option Addr) (F H : Hp) (v : V) (Q : VK) (own : Bool), Le F H → Vw c G F H s v → WishR c G F H own u Q → r v lo hi H Q := by
  unfold sliceOf at e
  split at e
  · rename_i z h1
    split at e
    · rename_i hz
      injection e with e; subst e
      have e1 := asS_eq h1; subst e1
      exact ⟨_, sl_str, fun G F H v Q own le hv q => ⟨z, hv.str, hz, q.str⟩⟩
    · cases e
  · split at e
    · rename_i ts h1
      split at e
      · rename_i ds h2
        injection e with e; subst e
        refine ⟨_, sl_list, fun G F H v Q own le hv q => ?_⟩
        obtain ⟨a, vs, e1, e2, e3⟩ := hv.lst le h1
        exact ⟨a, vs, e1, SqL.of e2, fun p hp => q.lst hp ((e3.allD h2).cut lo hi)⟩
      · cases e
    · split at e
      · rename_i ns _ _
        injection e with e; subst e
        refine ⟨_, sl_list, fun G F H v Q own le hv q => ?_⟩
        have := hv.sh
        simp only [R] at this
        obtain ⟨a, e1, e2⟩ := this
        refine ⟨a, _, e1, by rw [hK]; exact le.sqL e2, fun p hp => ?_⟩
        have z : RL c F ((cutT ns lo hi).map D.int) ((cutT ns lo hi).map V.int) := by
          generalize cutT ns lo hi = l
          induction l with
          | nil => simp only [List.map_nil, RL]
          | cons a r ih => simp only [List.map_cons, RL]; exact ⟨_, _, rfl, by simp only [R], ih⟩
        have e3 : cutV (ns.map V.int) lo hi = (cutT ns lo hi).map V.int := by
          unfold cutV cutT
          rw [List.length_map, List.map_take, List.map_drop]
        rw [e3]
        have q' : WishR c G F H own (.lst (((cutT ns lo hi).map D.int).map .sh)) Q := by
          rw [List.map_map]
          exact q
        exact q'.lst hp z
      · split at e
        · rename_i ts h1
          split at e
          · rename_i ds h2
            split at e
            · rename_i hl
              injection e with e; subst e
              refine ⟨_, sl_tup, fun G F H v Q own le hv q => ?_⟩
              obtain ⟨a, vs, e1, e2, e3⟩ := hv.tup le h1
              have rl := e3.allD h2
              refine ⟨a, vs, e1, by rw [hK]; exact e2, fun z => ?_, fun p hp => q.tup hp (rl.cut lo hi)⟩
              have := rl.length
              unfold cutT at hl
              rw [this] at z
              rw [z.1, z.2] at hl
              simp at hl
            · cases e
          · cases e
        · cases e
theorem sliceF_ok (hK : X.K = c.K) {a b : Expr} {p2 pos : Pos} {s t u : T} (e : ev2 .sliceF s t = some u) : ExT X c (.Subscript a (.Slice (some b) none none p2) pos) a b s t u := by
  simp only [ev2] at e
  split at e
  · rename_i i h1
    have e1 := asI_eq h1; subst e1
    obtain ⟨r, h2, h3⟩ := slice_ok (X := X) hK e
    exact ⟨none, fun x y H Q => ∃ i, y = .int i ∧ r x (some i) none H Q, fun ta tb ha hb => pe_slice h2 ha (po_some hb) po_none, .none, fun G F H v w Q le hv hw q => ⟨i, hw.int, h3 G F H v Q _ le hv q⟩⟩
  · cases e
theorem sliceT_ok (hK : X.K = c.K) {a b : Expr} {p2 pos : Pos} {s t u : T} (e : ev2 .sliceT s t = some u) : ExT X c (.Subscript a (.Slice none (some b) none p2) pos) a b s t u := by
  simp only [ev2] at e
  split at e
  · rename_i i h1
    have e1 := asI_eq h1; subst e1
    obtain ⟨r, h2, h3⟩ := slice_ok (X := X) hK e
    exact ⟨none, fun x y H Q => ∃ i, y = .int i ∧ r x none (some i) H Q, fun ta tb ha hb => pe_slice h2 ha po_none (po_some hb), .none, fun G F H v w Q le hv hw q => ⟨i, hw.int, h3 G F H v Q _ le hv q⟩⟩
  · cases e
/-! ### three operands -/
abbrev R3 := V → V → V → Hp → VK → Prop
def tOp3 (r : R3) (ta tb td : TE) : TE := fun σ H Q => ta σ H fun x H1 => tb σ H1 fun y H2 => td σ H2 fun z H3 => r x y z H3 Q
def Rule3 (X : Cx) (e a b d : Expr) (r : R3) : Prop := ∀ ta tb td, PE X a ta → PE X b tb → PE X d td → PE X e (tOp3 r ta tb td)
def Op3Ok (c : Cv) (r : R3) (s t d u : T) : Prop := ∀ (G : Nat → Option Addr) (F H : Hp) (v w x : V) (Q : VK), Le F H → Vw c G F H s v → Vw c G F H t w → Vw c G F H d x → WishR c G F H (s.own || t.own || d.own) u Q → r v w x H Q
def Ex3 (X : Cx) (c : Cv) (e a b d : Expr) (s t q u : T) : Prop := ∃ r : R3, Rule3 X e a b d r ∧ Op3Ok c r s t q u
def midO (mid : Bool) (y : V) (k : V → Prop) : Prop := match mid with
  | true => ∃ i, y = .int i ∧ k (.int i)
  | false => k y
def tOp3O (pre : Option (V → Hp → Prop)) (mid : Bool) (r : R3) (ta tb td : TE) : TE := match pre, mid with
  | none, false => fun σ H Q => ta σ H fun x H1 => tb σ H1 fun y H2 => td σ H2 fun z H3 => r x y z H3 Q
  | none, true => fun σ H Q => ta σ H fun x H1 => tb σ H1 fun y H2 => ∃ i, y = .int i ∧ td σ H2 fun z H3 => r x (.int i) z H3 Q
  | some p, false => fun σ H Q => ta σ H fun x H1 => p x H1 ∧ tb σ H1 fun y H2 => td σ H2 fun z H3 => r x y z H3 Q
  | some p, true => fun σ H Q => ta σ H fun x H1 => p x H1 ∧ tb σ H1 fun y H2 => ∃ i, y = .int i ∧ td σ H2 fun z H3 => r x (.int i) z H3 Q
def Ex3O (X : Cx) (c : Cv) (e a b d : Expr) (s t q u : T) : Prop := ∃ (pre : Option (V → Hp → Prop)) (mid : Bool) (r : R3), (∀ ta tb td, PE X a ta → PE X b tb → PE X d td → PE X e (tOp3O pre mid r ta tb td)) ∧ PreOk c pre s ∧ (mid = true → ∃ i, t = tI i) ∧ Op3Ok c r s t q u
theorem slice3_ok (hK : X.K = c.K) {a b d : Expr} {p2 pos : Pos} {s t q u : T} (e : ev3 .slice s t q = some u) : Ex3O X c (.Subscript a (.Slice (some b) (some d) none p2) pos) a b d s t q u := by
  simp only [ev3] at e
  split at e
  · rename_i i j h1 h2
    have e1 := asI_eq h1; subst e1
    have e2 := asI_eq h2; subst e2
    obtain ⟨r, h2, h3⟩ := slice_ok (X := X) hK e
    refine ⟨none, true, fun x y z H Q => ∃ j, z = .int j ∧ (match y with | .int i => r x (some i) (some j) H Q | _ => False), fun ta tb td ha hb hd => ?_, .none, fun _ => ⟨i, rfl⟩, fun G F H v w x Q le hv hw hx q => ?_⟩
    · exact ⟨fun pins s σ H Q I h => (pe_slice (pos := pos) (p2 := p2) h2 ha (po_some hb) (po_some hd)).run pins s σ H Q I h⟩
    · rw [hw.int]
      exact ⟨j, hx.int, h3 G F H v Q _ le hv q⟩
  · cases e
theorem pe_imp {e : Expr} {t : TE} (h : PE X e t) : PE X e (fun σ H Q => ∃ Q' : VK, t σ H Q' ∧ ∀ x H1, Q' x H1 → Q x H1) :=
  ⟨fun pins s σ H Q I ⟨Q', hw, im⟩ => wpAny_mono (h.run pins s σ H Q' I hw) (fun v s1 ⟨x, H1, I1, r, q⟩ => ⟨x, H1, I1, r, im x H1 q⟩) (fun _ _ he => he)⟩
theorem m2_of {o e f : Expr} {m : Str} {apos pos : Pos} (hb : baseOk o = true) (he : noStar e = true) (hf : noStar f = true) (hl : (apos.endLine == pos.line) = true) : M2 X o m apos e f pos := by
  have st : starEach [e, f] X.env = [(false, eval e X.env), (false, eval f X.env)] := by rw [star_cons he, star_cons hf]; rfl
  exact ⟨base_of hb, by rw [st]; rfl, hl, by rw [st]; rfl⟩
def rGet2 : R3 := fun x y z H Q => match x with
  | .ref a => ∃ o, DGet H a y o ∧ Q (o.getD z) H
  | _ => False
theorem get_rule (hu : X.A.units + 1 < cLine) {a b d : Expr} {apos pos : Pos} (hb : baseOk a = true) (h1 : noStar b = true) (h2 : noStar d = true) (hl : (apos.endLine == pos.line) = true) (ta tb td : TE) (ha : PE X a ta) (hbb : PE X b tb) (hd : PE X d td) :
    PE X (.Call (.Attribute a "get" apos) [b, d] [] pos) (tOp3O (some fun x H => ∃ a, x = .ref a ∧ IsD H a) false rGet2 ta tb td) := by
  refine ⟨fun pins s σ H Q I h => (pe_dget2 hu (pe_imp ha) hbb hd (m2_of hb h1 h2 hl)).run pins s σ H Q I ⟨_, h, fun x H1 q => ?_⟩⟩
  obtain ⟨⟨p, rfl, hp⟩, q⟩ := q
  exact ⟨p, rfl, hp, q⟩
theorem get_ok (hu : X.A.units + 1 < cLine) {a b d : Expr} {apos pos : Pos} {s t q u : T} (hb : baseOk a = true) (h1 : noStar b = true) (h2 : noStar d = true) (hl : (apos.endLine == pos.line) = true) (e : ev3 .get s t q = some u) :
    Ex3O X c (.Call (.Attribute a "get" apos) [b, d] [] pos) a b d s t q u := by
  simp only [ev3] at e
  split at e
  · rename_i ks hk
    split at e
    · rename_i k hkey
      injection e with e
      refine ⟨_, false, rGet2, get_rule hu hb h1 h2 hl, fun p hp G F H v le hv => ?_, fun z => (by cases z), fun G F H v w x Q le hv hw hx qq => ?_⟩
      · injection hp with hp; subst hp
        obtain ⟨a, vs, e1, e2, _⟩ := hv.dk le hk
        exact ⟨a, e1, .inl ⟨vs, e2⟩⟩
      · obtain ⟨a, vs, e1, e2, e3⟩ := hv.dk le hk
        subst e1
        have ek := keyOf_eq hw hkey
        subst ek
        refine ⟨valV vs k, .inl ⟨vs, k, e2, rfl, rfl⟩, ?_⟩
        cases hf : ks.find? (fun p => decide (p.1 = k)) with
        | none =>
          rw [hf] at e
          dsimp only at e
          subst e
          rw [e3.nfind hf]
          refine qq.child hx ?_
          cases q <;> simp [T.own]
        | some p =>
          rw [hf] at e
          dsimp only at e
          subst e
          obtain ⟨v, hv1, hv2⟩ := e3.find hf
          rw [hv1]
          refine qq.child hv2 ?_
          rcases asK_child hk (by rw [hf]; rfl) with h | h
          · exact .inl (by rw [h]; rfl)
          · exact .inr h
    · cases e
  · cases e
theorem join_ok {a b : Expr} {apos pos : Pos} {s t u : T} (ha : baseOk a = true) (hs : noStar b = true) (hl : (apos.endLine == pos.line) = true) (e : ev2 .join s t = some u) : ExT X c (.Call (.Attribute a "join" apos) [b] [] pos) a b s t u := by
  simp only [ev2] at e
  split at e
  · rename_i x ts h1 h2
    split at e
    · rename_i ys h3
      split at e
      · rename_i hz
        injection e with e; subst e
        have e1 := asS_eq h1; subst e1
        refine ⟨some fun x H => ∃ a, x = .str a, _, fun ta tb ha' hb' => pe_join ha' hb' (star_cons hs) (base_of ha) hl, fun p ep G F H v le hv => ?_, fun G F H v w Q le hv hw q => ?_⟩
        · injection ep with ep; subst ep
          exact ⟨x, hv.str⟩
        · obtain ⟨a, vs, e1, e2, e3⟩ := hw.lst le h2
          have := e3.allS h3
          subst this
          exact ⟨x, a, ys, hv.str, by rw [e1], .inl (SqL.of e2), hz, q.str⟩
      · cases e
    · cases e
  · cases e
/-! ### isinstance -/
def tyTab : List (Str × String) := [("int", "int"), ("str", "str"), ("bool", "bool"), ("list", "list"), ("tuple", "tuple"), ("dict", "dict")]
def tyName (bl : Str → Bool) : Expr → Option String
  | .Name y _ => if bl y = true then tyTab.lookup y else none
  | _ => none
def tyNames (bl : Str → Bool) : List Expr → Option (List String)
  | [] => some []
  | e :: r => match tyName bl e, tyNames bl r with
    | some x, some y => some (x :: y)
    | _, _ => none
def tysOf (bl : Str → Bool) : Expr → Option (List String)
  | .Name y p => (tyName bl (.Name y p)).map fun x => [x]
  | .Tuple es _ _ => if es.length ≤ 6 then tyNames bl es else none
  | _ => none
theorem tyTab_ok : ∀ p ∈ tyTab, bootBuiltins p.1 = some (.type p.2) ∧ p.1 ≠ "__name__" ∧ (p.1 == ("__debug__" : Str)) = false := by decide +kernel
theorem kit_tab : ∀ n ∈ ["NoneType", "bool", "int", "str", "tuple", "list", "dict"], ∀ p ∈ tyTab, kitB n p.2 = some (n == p.2 || (n == "bool" && p.2 == "int")) := by decide +kernel
theorem lookup_mem {α : Type} {x : Str} {y : α} : ∀ {l : List (Str × α)}, l.lookup x = some y → ∃ p ∈ l, p.1 = x ∧ p.2 = y
  | [], h => by cases h
  | (k, v) :: r, h => by
    rw [List.lookup_cons] at h
    by_cases e : (x == k) = true
    · simp only [e] at h
      injection h with h
      exact ⟨(k, v), List.mem_cons_self, (eq_of_beq e).symm, h⟩
    · simp only [Bool.not_eq_true] at e
      simp only [e] at h
      obtain ⟨p, h1, h2⟩ := lookup_mem h
      exact ⟨p, List.mem_cons_of_mem _ h1, h2⟩
theorem tyName_ok {bl : Str → Bool} (hb : ∀ y, bl y = true → Blt X y) {e : Expr} {n : String} (h : tyName bl e = some n) : PE X e (tC (.ty n)) ∧ noStar e = true ∧ ∃ p ∈ tyTab, p.2 = n := by
  cases e with
  | Name y pos =>
    simp only [tyName] at h
    split at h
    · rename_i hy
      obtain ⟨p, hp, rfl, rfl⟩ := lookup_mem h
      obtain ⟨h1, h2, h3⟩ := tyTab_ok p hp
      exact ⟨pe_bltn (hb _ hy).1 (hb _ hy).2 h1 rfl h2 h3, rfl, p, hp, rfl⟩
    · cases h
  | _ => cases h
def tTys : List String → TA
  | [] => tNil
  | n :: r => tCons (tC (.ty n)) (tTys r)
theorem tTys_eq : ∀ {ts : List String} {σ : L2.St} {H : Hp} {Q : List V → Hp → Prop}, tTys ts σ H Q = Q (ts.map V.ty) H
  | [], _, _, _ => rfl
  | n :: r, σ, H, Q => tTys_eq (ts := r) (σ := σ) (H := H) (Q := fun xs H2 => Q (.ty n :: xs) H2)
theorem tyNames_ok {bl : Str → Bool} (hb : ∀ y, bl y = true → Blt X y) : ∀ {es : List Expr} {ts : List String}, tyNames bl es = some ts → PA X es (tTys ts) ∧ (∀ n ∈ ts, ∃ p ∈ tyTab, p.2 = n) ∧ ts.length = es.length
  | [], ts, h => by
    simp only [tyNames] at h
    injection h with h; subst h
    exact ⟨pa_nil, fun n hn => (by cases hn), rfl⟩
  | e :: r, ts, h => by
    simp only [tyNames] at h
    split at h
    · rename_i x y h1 h2
      injection h with h; subst h
      obtain ⟨a1, a2, a3⟩ := tyName_ok hb h1
      obtain ⟨b1, b2, b3⟩ := tyNames_ok hb h2
      refine ⟨pa_cons a1 b1 (star_cons a2), fun n hn => ?_, by simp [b3]⟩
      rcases List.mem_cons.mp hn with rfl | hn
      · exact a3
      · exact b2 n hn
    · cases h
theorem pair_ty : ∀ {ts : List String}, Paired ClsV (ts.map V.ty) (ts.map Value.type)
  | [] => .nil
  | n :: r => .cons (.ty n) pair_ty
theorem kitAny_ty {K : PySem.W.Frag} {n : String} (hn : n ∈ ["NoneType", "bool", "int", "str", "tuple", "list", "dict"]) : ∀ {ts : List String}, (∀ t ∈ ts, ∃ p ∈ tyTab, p.2 = t) → PySem.W.kitAny K (.type n) (ts.map Value.type) = some (isOf n ts)
  | [], _ => kitAny_nil
  | t :: r, h => by
    obtain ⟨p, hp, rfl⟩ := h t List.mem_cons_self
    have k := kit_tab n hn p hp
    have ih := kitAny_ty (K := K) hn (ts := r) fun t ht => h t (List.mem_cons_of_mem _ ht)
    refine kitAny_cons (kit_ty k) (fun hb => ?_) fun hb => ?_
    · rw [ih]
      unfold isOf
      rw [List.any_cons, hb]
      rfl
    · unfold isOf
      rw [List.any_cons, hb]
      rfl
theorem typeOf1_mem {d : D} {n : String} (h : typeOf1 d = some n) : n ∈ ["NoneType", "bool", "int", "str", "tuple", "list", "dict"] := by
  cases d <;> simp only [typeOf1, reduceCtorEq, Option.some.injEq] at h <;> subst h <;> decide
theorem Vw.typ {G : Nat → Option Addr} {F H : Hp} {t : T} {v : V} {n : String} (le : Le F H) (h : Vw c G F H t v) (e : typeOf1 t.toD = some n) : TyX c.K H v (.type n) := by
  have sqt : ∀ {a : Addr} {vs : List V}, SqT c.K H a vs → TyX c.K H (.ref a) (.type "tuple") := fun {a vs} hq => by
    rcases hq with (hq | ⟨o, hq⟩) | ⟨o, its, k, hq, hc, _⟩
    · exact .base (.tup hq)
    · exact .fTuple hq
    · exact .kTuple hq hc
  have rdk : ∀ {a : Addr} {vs : List (Key × V)}, Rd H a (.dK vs) → TyX c.K H (.ref a) (.type "dict") := fun {a vs} hq => by
    rcases hq with hq | ⟨o, hq⟩
    · exact .base (.dK hq)
    · exact .fDict hq
  have shc : ∀ {d : D}, typeOf1 d = some n → R c F d v → TyX c.K H v (.type n) := fun {d} e h => by
    cases d <;> simp only [typeOf1, reduceCtorEq, Option.some.injEq] at e <;> subst e <;> simp only [R] at h
    · subst h; exact .base .non
    · subst h; exact .base (.bl _)
    · subst h; exact .base (.int _)
    · subst h; exact .base (.str _)
    · obtain ⟨a, vs, rfl, hq, _⟩ := h; exact sqt (le.sqT hq)
    · obtain ⟨a, vs, rfl, hq, _⟩ := h; exact .base (.lst (le.ex hq rfl))
    · obtain ⟨a, vs, rfl, hq, _⟩ := h; exact rdk (le.rd hq)
  obtain ⟨L, h⟩ := h
  cases t with
  | sh d =>
    simp only [RO] at h
    exact shc e h.2
  | lst ts =>
    simp only [T.toD, typeOf1, Option.some.injEq] at e
    subst e
    simp only [RO] at h
    obtain ⟨a, vs, _, rfl, hq, _⟩ := h
    exact .base (.lst hq)
  | tup ts =>
    simp only [T.toD, typeOf1, Option.some.injEq] at e
    subst e
    simp only [RO] at h
    obtain ⟨a, vs, _, rfl, hq, _⟩ := h
    exact .base (.tup hq)
  | dK ts =>
    simp only [T.toD, typeOf1, Option.some.injEq] at e
    subst e
    simp only [RO] at h
    obtain ⟨a, vs, _, rfl, hq, _⟩ := h
    exact .base (.dK hq)
  | dT ts => cases e
  | obj k fs => cases e
  | lk m d =>
    simp only [RO] at h
    obtain ⟨_, a, _, rfl, h⟩ := h
    rcases h with ⟨ds, vs, rfl, hq, _⟩ | ⟨o, ds, vs, rfl, hq, _⟩ | ⟨o, ds, vs, rfl, hq, _⟩
    · simp only [T.toD, typeOf1, Option.some.injEq] at e
      subst e
      exact .base (.lst hq)
    · simp only [T.toD, typeOf1, Option.some.injEq] at e
      subst e
      exact .fDict hq
    · cases e
theorem isinst_rule {bl : Str → Bool} {a t : Expr} {p pos : Pos} {ts : List String} (hb : ∀ y, bl y = true → Blt X y) (hi : Blt X "isinstance") (hs : noStar a = true) (ht : tysOf bl t = some ts) :
    ∃ r : R1, Rule1 X (.Call (.Name "isinstance" p) [a, t] [] pos) a r ∧ (∀ n ∈ ts, ∃ p ∈ tyTab, p.2 = n) ∧ ∀ v H Q n, TyX X.K H v (.type n) → n ∈ ["NoneType", "bool", "int", "str", "tuple", "list", "dict"] → (∀ H', Ext H H' → Q (.bl (isOf n ts)) H') → r v H Q := by
  cases t with
  | Name y q =>
    simp only [tysOf] at ht
    obtain ⟨x, hx, e⟩ := Option.map_eq_some_iff.mp ht
    subst e
    obtain ⟨a1, a2, a3⟩ := tyName_ok hb hx
    have tab : ∀ n ∈ [x], ∃ p ∈ tyTab, p.2 = n := fun n hn => by
      rcases List.mem_cons.mp hn with rfl | hn
      · exact a3
      · cases hn
    refine ⟨fun v H Q => rIsi X.K [v, .ty x] H Q, fun ta ha => pe_callB call_isi hi.1 hi.2 PyProof.Rows.boot_isinstance (pa_cons ha (pa_cons a1 pa_nil (star_cons a2)) (star_cons hs)) (by decide) (by decide) (star_cons hs) (by rw [star_cons a2]; rfl), tab, fun v H Q n ty hn q => ?_⟩
    have k := kitAny_ty (K := X.K) hn tab
    obtain ⟨p, hp, rfl⟩ := a3
    refine ⟨v, _, _, _, _, rfl, .ty _, ty, kit_ty (kit_tab n hn p hp), ?_⟩
    have := q H .refl
    unfold isOf at this
    simpa using this
  | Tuple es k q =>
    simp only [tysOf] at ht
    split at ht
    · rename_i hz
      obtain ⟨a1, a2, a3⟩ := tyNames_ok hb ht
      refine ⟨fun v H Q => (ts.map V.ty).length ≤ sizeLine ∧ ∀ p, H p = none → rIsiT X.K [v, .ref p] (upd H p (.tup (ts.map V.ty))) Q, fun ta ha => ?_, a2, fun v H Q n ty hn q => ?_⟩
      · have hT : PE X (.Tuple es k q) (tTup (tTys ts)) := pe_tup a1
        have z := pe_callB call_isiT hi.1 hi.2 PyProof.Rows.boot_isinstance (p := p) (pos := pos) (pa_cons ha (pa_cons hT pa_nil (star_cons rfl)) (star_cons hs)) (by decide) (by decide) (star_cons hs) (by rw [star_cons rfl]; rfl)
        have e : tCB (rIsiT X.K) (tCons ta (tCons (tTup (tTys ts)) tNil)) = tUn (fun v H Q => (ts.map V.ty).length ≤ sizeLine ∧ ∀ p, H p = none → rIsiT X.K [v, .ref p] (upd H p (.tup (ts.map V.ty))) Q) ta := by
          funext σ H Q
          unfold tCB tCons tTup tNil tUn
          simp only [tTys_eq]
        rw [← e]
        exact z
      · refine ⟨by rw [List.length_map, a3, sizeLine_eq]; omega, fun p hp => ⟨v, p, ts.map V.ty, .type n, ts.map Value.type, isOf n ts, rfl, upd_same, pair_ty, ?_, kitAny_ty hn a2, q _ (.upd hp)⟩⟩
        have up : ∀ {b : Addr} {o : HO}, H b = some o → upd H p (.tup (ts.map V.ty)) b = some o := fun {b o} e => by
          rw [upd_ne fun q => by rw [q, hp] at e; cases e]; exact e
        cases ty with
        | base h =>
          refine .base ?_
          cases h with
          | non => exact .non
          | bl x => exact .bl x
          | int i => exact .int i
          | str x => exact .str x
          | flt x => exact .flt x
          | lst e => exact .lst (up e)
          | frz e => exact .frz (up e)
          | tup e => exact .tup (up e)
          | dK e => exact .dK (up e)
          | dT e => exact .dT (up e)
        | byt b => exact .byt b
        | set e => exact .set (up e)
        | kList e c => exact .kList e c
        | kTuple e c => exact .kTuple e c
        | kDict e c => exact .kDict e c
        | fTuple e => exact .fTuple (up e)
        | fDict e => exact .fDict (up e)
    · cases ht
  | _ => cases ht
theorem isinst_ok' (hK : X.K = c.K) {bl : Str → Bool} {a t : Expr} {p pos : Pos} {ts : List String} {s u : T} (hb : ∀ y, bl y = true → Blt X y) (hi : Blt X "isinstance") (hs : noStar a = true) (ht : tysOf bl t = some ts) (e : ev1 (.isinst ts) s = some u) : Ex1 X c (.Call (.Name "isinstance" p) [a, t] [] pos) a s u := by
  obtain ⟨r, h1, _, h2⟩ := isinst_rule (p := p) (pos := pos) hb hi hs ht
  simp only [ev1] at e
  split at e
  · rename_i n hn
    injection e with e; subst e
    refine ⟨r, h1, fun G F H v Q le hv q => h2 v H Q n (by rw [hK]; exact hv.typ le hn) (typeOf1_mem hn) fun H' x => q _ _ (.inl ⟨x, _, rfl, by simp only [R]⟩)⟩
  · cases e
theorem isinst_any {bl : Str → Bool} {a t : Expr} {p pos : Pos} {ts : List String} (hb : ∀ y, bl y = true → Blt X y) (hi : Blt X "isinstance") (hs : noStar a = true) (ht : tysOf bl t = some ts) : ∃ r, Rule1 X (.Call (.Name "isinstance" p) [a, t] [] pos) a r := by
  obtain ⟨r, h1, _⟩ := isinst_rule (p := p) (pos := pos) hb hi hs ht
  exact ⟨r, h1⟩
end MP
/-! MP6b: sets of texts told in order or counted; tables of the top. -/
namespace MP
open PySem PySem.Spec PyProof.Rows L2
variable {c : Cv} {X : Cx}
theorem setOf_eq (hK : X.K = c.K) {s : T} {M : List Str} (e : setOf s = some M) : ∃ xs : List Str, M = dedS xs ∧ (xs.length < 4000 ∧ (dedS xs).length < 64) ∧ ∀ {G : Nat → Option Addr} {F H : Hp} {v : V}, Le F H → Vw c G F H s v → IsTxs X.K H v xs := by
  unfold setOf at e
  split at e
  · rename_i ts h1
    split at e
    · rename_i ds h2
      split at e
      · rename_i xs h3
        split at e
        · rename_i hz
          injection e with e
          refine ⟨xs, e.symm, hz, fun le hv => ?_⟩
          obtain ⟨a, vs, e1, e2, e3⟩ := hv.lst le h1
          have := (e3.allD h2).strs h3; subst this
          exact ⟨a, e1, .inl (SqL.of e2)⟩
        · cases e
      · cases e
    · cases e
  · split at e
    · rename_i ts h1
      split at e
      · rename_i ds h2
        split at e
        · rename_i xs h3
          split at e
          · rename_i hz
            injection e with e
            refine ⟨xs, e.symm, hz, fun le hv => ?_⟩
            obtain ⟨a, vs, e1, e2, e3⟩ := hv.tup le h1
            have := (e3.allD h2).strs h3; subst this
            exact ⟨a, e1, .inr (by rw [hK]; exact e2)⟩
          · cases e
        · cases e
      · cases e
    · cases e
theorem sortSet_rule (hc : X.calm = true) {a : Expr} {p p2 q pos : Pos} (hb : Blt X "sorted") (hb2 : Blt X "set") (hs : noStar a = true) : Rule1 X (.Call (.Name "sorted" p) [.Call (.Name "set" p2) [a] [] q] [] pos) a (rSortSet X.K) := fun ta ha => pe_sortSet hc hb.1 hb.2 hb2.1 hb2.2 ha (star_cons hs)
theorem lenSet_rule (hc : X.calm = true) {a : Expr} {p p2 q pos : Pos} (hb : Blt X "len") (hb2 : Blt X "set") (hs : noStar a = true) : Rule1 X (.Call (.Name "len" p) [.Call (.Name "set" p2) [a] [] q] [] pos) a (rLenSet X.K) := fun ta ha => pe_lenSetS hc hb.1 hb.2 hb2.1 hb2.2 ha (star_cons hs)
theorem sortSet_ok (hK : X.K = c.K) (hc : X.calm = true) {a : Expr} {p p2 q pos : Pos} {s u : T} (hb : Blt X "sorted") (hb2 : Blt X "set") (hs : noStar a = true) (e : ev1 .sortSet s = some u) : Ex1 X c (.Call (.Name "sorted" p) [.Call (.Name "set" p2) [a] [] q] [] pos) a s u := by
  simp only [ev1] at e
  obtain ⟨M, h1, h2⟩ := Option.map_eq_some_iff.mp e
  subst h2
  obtain ⟨xs, rfl, hz, k⟩ := setOf_eq (X := X) hK h1
  refine ⟨_, sortSet_rule hc hb hb2 hs, fun G F H v Q le hv q => ⟨xs, k le hv, hz, fun ys l h4 h5 h6 => ?_⟩⟩
  rw [sortS_uniq h4 h5]
  have mS : ∀ l : List Str, (l.map fun i => T.sh (.str i)) = (l.map D.str).map T.sh := fun l => by rw [List.map_map]; rfl
  rw [mS] at q
  exact q.lst h6 RL.ofStrs
theorem lenSet_ok (hK : X.K = c.K) (hc : X.calm = true) {a : Expr} {p p2 q pos : Pos} {s u : T} (hb : Blt X "len") (hb2 : Blt X "set") (hs : noStar a = true) (e : ev1 .lenSet s = some u) : Ex1 X c (.Call (.Name "len" p) [.Call (.Name "set" p2) [a] [] q] [] pos) a s u := by
  simp only [ev1] at e
  obtain ⟨M, h1, h2⟩ := Option.map_eq_some_iff.mp e
  subst h2
  obtain ⟨xs, rfl, hz, k⟩ := setOf_eq (X := X) hK h1
  exact ⟨_, lenSet_rule hc hb hb2 hs, fun G F H v Q le hv q => ⟨xs, k le hv, hz, q.int⟩⟩
/-! ### dict(pairs) -/
theorem pairs_R {F : Hp} : ∀ {ds : List D} {vs : List V} {kvs : List (Key × D)}, RL c F ds vs → pairsD ds = some kvs → ∃ (ps : List Addr) (vv : List (Key × V)), vs = ps.map V.ref ∧ Paired (fun p kv => SqT c.K F p [kV kv.1, kv.2]) ps vv ∧ RK c F kvs vv
  | [], vs, kvs, h, e => by
    simp only [RL] at h
    simp only [pairsD, Option.some.injEq] at e
    subst h e
    exact ⟨[], [], rfl, .nil, by simp only [RK]⟩
  | d :: r, vs, kvs, h, e => by
    simp only [RL] at h
    obtain ⟨v, w, rfl, x, y⟩ := h
    unfold pairsD at e
    split at e
    · rename_i h; cases h
    · rename_i a b r' heq
      injection heq with e1 e2
      subst e1 e2
      split at e
      · rename_i k ks hk hks
        injection e with e; subst e
        obtain ⟨ps, vv, rfl, p2, p3⟩ := pairs_R y hks
        simp only [R] at x
        obtain ⟨q, us, rfl, hq, hu⟩ := x
        simp only [RL] at hu
        obtain ⟨u1, w1, rfl, x1, u2, w2, rfl, x2, rfl⟩ := hu
        have : u1 = kV k := by
          unfold keyOf at hk
          split at hk
          · rename_i i heq
            injection heq with heq; subst heq
            injection hk with hk; subst hk
            simp only [R] at x1
            exact x1
          · rename_i i heq
            injection heq with heq; subst heq
            injection hk with hk; subst hk
            simp only [R] at x1
            exact x1
          · cases hk
        subst this
        exact ⟨q :: ps, (k, u2) :: vv, rfl, .cons hq p2, by simp only [RK]; exact ⟨u2, vv, rfl, x2, p3⟩⟩
      · cases e
    · cases e
theorem RK.keys {F : Hp} : ∀ {kvs : List (Key × D)} {vv : List (Key × V)}, RK c F kvs vv → vv.map (·.1) = kvs.map (·.1)
  | [], vv, h => by simp only [RK] at h; subst h; rfl
  | (k, d) :: r, vv, h => by
    simp only [RK] at h
    obtain ⟨v, w, rfl, x, y⟩ := h
    rw [List.map_cons, List.map_cons, RK.keys y]
theorem putK_add {k : Key} {v : V} {acc : List (Key × V)} (h : k ∉ acc.map (·.1)) : putK acc k v = acc ++ [(k, v)] := by
  unfold putK
  refine if_neg fun q => h ?_
  rw [List.any_eq_true] at q
  obtain ⟨p, hp, e⟩ := q
  exact List.mem_map.mpr ⟨p, hp, of_decide_eq_true e⟩
theorem mergeK_new : ∀ {more acc : List (Key × V)}, ((acc ++ more).map (·.1)).Nodup → mergeK acc more = acc ++ more
  | [], acc, _ => by simp [mergeK]
  | p :: r, acc, h => by
    have h1 : p.1 ∉ acc.map (·.1) := fun hm => by
      rw [List.map_append, List.nodup_append] at h
      exact h.2.2 _ hm _ (by simp) rfl
    show mergeK (putK acc p.1 p.2) r = _
    rw [putK_add h1, mergeK_new (by simpa using h)]
    simp
theorem Pd_sqT {F H : Hp} (le : Le F H) {ps : List Addr} {vv : List (Key × V)} (h : Paired (fun p kv => SqT c.K F p [kV kv.1, kv.2]) ps vv) : Paired (fun p kv => SqT c.K H p [kV kv.1, kv.2]) ps vv := by
  induction h with
  | nil => exact .nil
  | cons a _ ih => exact .cons (le.sqT a) ih
theorem dictP_ok (hK : X.K = c.K) (hc : X.calm = true) {a : Expr} {p pos : Pos} {s u : T} (hb : Blt X "dict") (hs : noStar a = true) (e : ev1 .dictP s = some u) : Ex1 X c (.Call (.Name "dict" p) [a] [] pos) a s u := by
  simp only [ev1] at e
  split at e
  · rename_i ts h1
    split at e
    · rename_i ds h2
      split at e
      · rename_i kvs h3
        split at e
        · rename_i hn
          injection e with e; subst e
          refine ⟨_, rule_callTy (call_dictP hc) hb (by decide +kernel) hs, fun G F H v Q le hv q => ?_⟩
          obtain ⟨a, vs, e1, e2, e3⟩ := hv.lst le h1
          obtain ⟨ps, vv, rfl, p2, p3⟩ := pairs_R (e3.allD h2) h3
          have em : mergeK [] vv = vv := by
            have := mergeK_new (acc := []) (more := vv) (by simpa [p3.keys] using hn)
            simpa using this
          refine ⟨a, ps, vv, by rw [e1], SqL.of e2, by rw [hK]; exact Pd_sqT le p2, fun l hl => ?_⟩
          rw [em]
          exact q.dk hl p3
        · cases e
      · cases e
    · cases e
  · cases e
/-! ### tables of the top -/
def keyV : Key → V
  | .inl i => .int i
  | .inr x => .str x
/-- a dict of the top with text keys, its values numbers or texts -/
structure TabC (K : PySem.W.Frag) (w : World) (mg : Str → Option Value) (x : Str) (kvs : List (Str × Key)) : Prop where
  ex : ∃ a es n, mg x = some (.ref a) ∧ KDict K w a es n ∧ (∀ p ∈ kvs, ∃ u, PySem.W.nsIn K a p.1 = some (some u) ∧ RelV (keyV p.2) u) ∧ ∀ z, (∀ p ∈ kvs, p.1 ≠ z) → PySem.W.nsIn K a z = some none
def rTab (kvs : List (Str × Key)) (df : Option Key) : R1 := fun y H Q => ∃ z k, y = .str z ∧ tabAt kvs df z = some k ∧ Q (keyV k) H
theorem tab_find {K : PySem.W.Frag} {a : Addr} {kvs : List (Str × Key)} {df : Option Key} {z : Str} {k : Key} (h1 : ∀ p ∈ kvs, ∃ u, PySem.W.nsIn K a p.1 = some (some u) ∧ RelV (keyV p.2) u) (h2 : ∀ z, (∀ p ∈ kvs, p.1 ≠ z) → PySem.W.nsIn K a z = some none) (e : tabAt kvs df z = some k) :
    (∃ u, PySem.W.nsIn K a z = some (some u) ∧ RelV (keyV k) u) ∨ (PySem.W.nsIn K a z = some none ∧ df = some k) := by
  unfold tabAt at e
  cases hf : kvs.find? (fun p => decide (p.1 = z)) with
  | some p =>
    rw [hf] at e
    injection e with e; subst e
    have hm := List.mem_of_find?_eq_some hf
    have hz : p.1 = z := of_decide_eq_true (List.find?_some (p := fun p : Str × Key => decide (p.1 = z)) hf)
    obtain ⟨u, e1, e2⟩ := h1 p hm
    rw [hz] at e1
    exact .inl ⟨u, e1, e2⟩
  | none =>
    rw [hf] at e
    refine .inr ⟨h2 z fun p hp q => ?_, e⟩
    have := List.find?_eq_none.mp hf p hp
    exact this (by simp [q])
theorem tab_get {x : Str} {kvs : List (Str × Key)} {i : Key} {b d : Expr} {p apos pos : Pos} (T : TabC X.K X.w X.mg x kvs) (hg : Gl X x) (hx : (x == ("__debug__" : Str)) = false) (h1 : noStar b = true) (h2 : noStar d = true) (hl : (apos.endLine == pos.line) = true) (hd : PE X d (tC (keyV i))) :
    Rule1 X (.Call (.Attribute (.Name x p) "get" apos) [b, d] [] pos) b (rTab kvs (some i)) := fun tb hb => by
  obtain ⟨a, es, n, gx, D, e1, e2⟩ := T.ex
  have ho : PE X (.Name x p) (tC (.ref a)) := pe_glob hg gx rfl hx
  have m : M2 X (.Name x p) "get" apos b d pos := m2_of rfl h1 h2 hl
  refine ⟨fun pins s σ H Q I h => ?_⟩
  refine wpAny_Call_method m.base m.few m.line PySem.F.plainAttrs_dict PySem.F.slot_dict_get PySem.F.type_dict_get (thn (ho.run pins s σ H (fun x1 H1 => x1 = .ref a ∧ H1 = H) I ⟨rfl, rfl⟩) fun u s1 ⟨x1, H1, I1, rx, e3, e4⟩ => ?_)
  subst e3 e4
  obtain rfl : u = Value.ref a := rx
  refine ⟨kd_type D I1, fun b q => ?_, ?_⟩
  · cases q
    exact ⟨_, I1.kIn _ _ D.at_, rfl⟩
  rw [m.trees]
  refine Calls.callWith_builtin rfl (Calls.evalArgs_plain (Calls.spliced_cons (thn (hb.run pins s1 σ H1 _ I1 h) fun iv s2 ⟨y, H2, I2, ry, z, k, ez, ek, q2⟩ =>
    Calls.spliced_cons (thn (hd.run pins s2 σ H2 (fun x1 H1 => x1 = keyV i ∧ H1 = H2) I2 ⟨rfl, rfl⟩) fun fv s3 ⟨w, H3, I3, rw3, e5, e6⟩ => Calls.spliced_nil ?_))))
  subst ez e5 e6
  obtain ⟨t, rfl⟩ := ry
  refine call_meetsIn PySem.F.slot_dict_get (kd_type D I3) PySem.F.entry_dict_get (PySem.F.args_dict_get_3 _ _ _) (meets_dict_get_default (PySem.strKind X.prog X.w) a (PySem.strKind_is X.prog X.w z t) D.low fv) ⟨_, PySem.W.mapOf_K I3.kIn D.at_ D.lit, ?_⟩
  rcases tab_find e1 e2 ek with ⟨u, f1, f2⟩ | ⟨f1, f2⟩
  · rw [PySem.W.find_K D.at_ f1]
    exact ⟨keyV k, H3, I3.tok _, f2, q2⟩
  · injection f2 with f2
    subst f2
    rw [PySem.W.find_K D.at_ f1]
    exact ⟨keyV i, H3, I3.tok _, rw3, q2⟩
end MP
/-! MP7: pure expressions: the checker, its truth. -/
namespace MP
open PySem PySem.Spec PyProof.Rows L2
/-- what is said of the module, as data -/
structure Sx where
  blt : List Str
  glo : List (Str × D)
  fld : List (Str × Str)
  tabs : List (Str × List (Str × Key)) := []
def visB (sc : Scope) (x : Str) : Bool := match sc.names.lookup x with
  | some .local => true
  | some .cell => true
  | some .free => true
  | _ => false
def glB (sc : Scope) (x : Str) : Bool := match sc.names.lookup x with
  | some .globalImplicit => true
  | _ => false
def eqF : D → D → Bool
  | .int a, .int b => decide (a = b)
  | .str a, .str b => decide (a = b)
  | .non, .non => true
  | .bl a, .bl b => decide (a = b)
  | _, _ => false
theorem eqF_eq {a b : D} (h : eqF a b = true) : a = b := by
  unfold eqF at h
  split at h
  · rw [of_decide_eq_true h]
  · rw [of_decide_eq_true h]
  · rfl
  · rw [of_decide_eq_true h]
  · cases h
structure Gx (c : Cv) (sx : Sx) (X : Cx) (sc : Scope) (N : List Str) : Prop where
  kk : X.K = c.K
  scp : X.env.scope = sc
  nn : X.N = N
  nd : N.Nodup
  calm : X.calm = true
  units : X.A.units + 64 < cLine
  blt : ∀ x ∈ sx.blt, X.mg x = none
  glo : ∀ p ∈ sx.glo, ∃ u v, X.mg p.1 = some u ∧ RelV v u ∧ ∀ F, R c F p.2 v
  fld : ∀ p ∈ sx.fld, Cls X.K (c.cl p.1) ∧ NoAttr X.K (c.cl p.1) p.2
  tab : ∀ p ∈ sx.tabs, TabC X.K X.w X.mg p.1 p.2
variable {c : Cv} {sx : Sx} {X : Cx} {sc : Scope} {N : List Str}
theorem visB_ok {x : Str} (h : visB sc x = true) : Vis sc x := by
  unfold visB at h
  unfold Vis
  split at h
  · rename_i e; exact .inl e
  · rename_i e; exact .inr (.inl e)
  · rename_i e; exact .inr (.inr e)
  · cases h
theorem glB_ok (g : Gx c sx X sc N) {x : Str} (h : glB sc x = true) : Gl X x := by
  unfold glB at h
  show X.env.scope.names.lookup x = some .globalImplicit
  rw [g.scp]
  split at h
  · rename_i e; exact e
  · cases h
def bltB (sx : Sx) (sc : Scope) (x : Str) : Bool := glB sc x && decide (x ∈ sx.blt)
theorem bltB_ok (g : Gx c sx X sc N) {x : Str} (h : bltB sx sc x = true) : Blt X x := by
  unfold bltB at h
  rw [Bool.and_eq_true] at h
  exact ⟨glB_ok g h.1, g.blt x (of_decide_eq_true h.2)⟩
/-! ### shapes -/
def dfB : Option Key → Expr → Bool
  | some (.inl i), .Constant (.int j) _ _ => decide (i = j)
  | some (.inr x), .Constant (.str y) _ _ => decide (x = y)
  | _, _ => false
theorem dfB_ok {df : Option Key} {d : Expr} (h : dfB df d = true) : ∃ k, df = some k ∧ PE X d (tC (keyV k)) ∧ noStar d = true := by
  unfold dfB at h
  split at h
  · have := of_decide_eq_true h; subst this
    exact ⟨_, rfl, pe_int, rfl⟩
  · have := of_decide_eq_true h; subst this
    exact ⟨_, rfl, pe_str, rfl⟩
  · cases h
def tabB (sx : Sx) (x : Str) (kvs : List (Str × Key)) : Bool := sx.tabs.any fun p => decide (p.1 = x) && decide (p.2 = kvs)
theorem tabB_ok {sx : Sx} {x : Str} {kvs : List (Str × Key)} (h : tabB sx x kvs = true) : (x, kvs) ∈ sx.tabs := by
  unfold tabB at h
  rw [List.any_eq_true] at h
  obtain ⟨p, hp, q⟩ := h
  rw [Bool.and_eq_true] at q
  obtain ⟨a, b⟩ := p
  have e1 : a = x := of_decide_eq_true q.1
  have e2 : b = kvs := of_decide_eq_true q.2
  subst e1 e2
  exact hp
def sub1 (sx : Sx) (sc : Scope) (o : Op1) (e : Expr) : Option Expr :=
  match o, e with
  | .neg, .UnaryOp .USub a _ => some a
  | .len, .Call (.Name x _) [a] [] _ => if x = "len" ∧ bltB sx sc "len" = true ∧ noStar a = true then some a else none
  | .strI, .Call (.Name x _) [a] [] _ => if x = "str" ∧ bltB sx sc "str" = true ∧ noStar a = true then some a else none
  | .tupL, .Call (.Name x _) [a] [] _ => if x = "tuple" ∧ bltB sx sc "tuple" = true ∧ noStar a = true then some a else none
  | .listL, .Call (.Name x _) [a] [] _ => if x = "list" ∧ bltB sx sc "list" = true ∧ noStar a = true then some a else none
  | .allL, .Call (.Name x _) [a] [] _ => if x = "all" ∧ bltB sx sc "all" = true ∧ noStar a = true then some a else none
  | .anyL, .Call (.Name x _) [a] [] _ => if x = "any" ∧ bltB sx sc "any" = true ∧ noStar a = true then some a else none
  | .isN, .Compare a [.Is] [.Constant .none _ _] _ => some a
  | .notN, .Compare a [.IsNot] [.Constant .none _ _] _ => some a
  | .isinst ts, .Call (.Name x _) [a, t] [] _ => if x = "isinstance" ∧ bltB sx sc "isinstance" = true ∧ noStar a = true ∧ tysOf (bltB sx sc) t = some ts then some a else none
  | .dictD, .Call (.Name x _) [a] [] _ => if x = "dict" ∧ bltB sx sc "dict" = true ∧ noStar a = true then some a else none
  | .sortL, .Call (.Name x _) [a] [] _ => if x = "sorted" ∧ bltB sx sc "sorted" = true ∧ noStar a = true then some a else none
  | .dictP, .Call (.Name x _) [a] [] _ => if x = "dict" ∧ bltB sx sc "dict" = true ∧ noStar a = true then some a else none
  | .sortSet, .Call (.Name x _) [.Call (.Name y _) [a] [] _] [] _ => if x = "sorted" ∧ y = "set" ∧ bltB sx sc "sorted" = true ∧ bltB sx sc "set" = true ∧ noStar a = true then some a else none
  | .lenSet, .Call (.Name x _) [.Call (.Name y _) [a] [] _] [] _ => if x = "len" ∧ y = "set" ∧ bltB sx sc "len" = true ∧ bltB sx sc "set" = true ∧ noStar a = true then some a else none
  | .tab x kvs df, .Call (.Attribute (.Name y _) m apos) [b, d] [] pos => if y = x ∧ m = "get" ∧ glB sc x = true ∧ (x != "__debug__") = true ∧ noStar b = true ∧ (apos.endLine == pos.line) = true ∧ tabB sx x kvs = true ∧ dfB df d = true then some b else none
  | .revL, .Subscript a (.Slice none none (some (.UnaryOp .USub (.Constant (.int i) _ _) _)) _) _ => if i = 1 then some a else none
  | _, _ => none
def binOf : Op2 → Option Operator
  | .add => some .Add
  | .sub => some .Sub
  | .mul => some .Mult
  | .fdiv => some .FloorDiv
  | .mod => some .Mod
  | .pow => some .Pow
  | _ => none
def cmpOf : Op2 → Option CmpOp
  | .eq => some .Eq
  | .ne => some .NotEq
  | .lt => some .Lt
  | .le => some .LtE
  | .gt => some .Gt
  | .ge => some .GtE
  | .inn => some .In
  | .nin => some .NotIn
  | _ => none
def sub2 (o : Op2) (e : Expr) : Option (Expr × Expr) :=
  match e with
  | .BinOp a op b _ => if binOf o = some op then some (a, b) else none
  | .Compare a [op] [b] _ => if cmpOf o = some op ∧ noSet b = true then some (a, b) else none
  | .Subscript a s _ => match o with
    | .idx => if noSlice s = true then some (a, s) else none
    | .sliceF => match s with
      | .Slice (some b) none none _ => some (a, b)
      | _ => none
    | .sliceT => match s with
      | .Slice none (some b) none _ => some (a, b)
      | _ => none
    | _ => none
  | .Call (.Attribute a m apos) [b] [] pos => match o with
    | .join => if m = "join" ∧ baseOk a = true ∧ noStar b = true ∧ (apos.endLine == pos.line) = true then some (a, b) else none
    | _ => none
  | _ => none
def sub3 (o : Op3) (e : Expr) : Option (Expr × Expr × Expr) :=
  match o, e with
  | .slice, .Subscript a (.Slice (some b) (some d) none _) _ => some (a, b, d)
  | .get, .Call (.Attribute a m apos) [b, d] [] pos => if m = "get" ∧ baseOk a = true ∧ noStar b = true ∧ noStar d = true ∧ (apos.endLine == pos.line) = true then some (a, b, d) else none
  | _, _ => none
theorem sub1_ok (g : Gx c sx X sc N) {o : Op1} {e a : Expr} {s u : T} (h : sub1 sx sc o e = some a) (hu : ev1 o s = some u) : Ex1 X c e a s u := by
  unfold sub1 at h
  split at h
  · cases h; exact neg_ok hu
  · split at h
    · rename_i z; cases h; obtain ⟨rfl, hb, hs⟩ := z; exact len_ok g.kk (bltB_ok g hb) hs hu
    · cases h
  · split at h
    · rename_i z; cases h; obtain ⟨rfl, hb, hs⟩ := z; exact strI_ok (bltB_ok g hb) hs hu
    · cases h
  · split at h
    · rename_i z; cases h; obtain ⟨rfl, hb, hs⟩ := z; exact tupL_ok g.kk (bltB_ok g hb) hs hu
    · cases h
  · split at h
    · rename_i z; cases h; obtain ⟨rfl, hb, hs⟩ := z; exact listL_ok g.kk (bltB_ok g hb) hs hu
    · cases h
  · split at h
    · rename_i z; cases h; obtain ⟨rfl, hb, hs⟩ := z; exact allL_ok g.calm (bltB_ok g hb) hs hu
    · cases h
  · split at h
    · rename_i z; cases h; obtain ⟨rfl, hb, hs⟩ := z; exact anyL_ok g.calm (bltB_ok g hb) hs hu
    · cases h
  · cases h; exact isN_ok hu
  · cases h; exact notN_ok hu
  · split at h
    · rename_i z; cases h; obtain ⟨rfl, hb, hs, ht⟩ := z; exact isinst_ok' g.kk (fun y hy => bltB_ok g hy) (bltB_ok g hb) hs ht hu
    · cases h
  · split at h
    · rename_i z; cases h; obtain ⟨rfl, hb, hs⟩ := z; exact dictD_ok g.kk (bltB_ok g hb) hs hu
    · cases h
  · split at h
    · rename_i z; cases h; obtain ⟨rfl, hb, hs⟩ := z; exact sortL_ok g.kk g.calm (bltB_ok g hb) hs hu
    · cases h
  · split at h
    · rename_i z; cases h; obtain ⟨rfl, hb, hs⟩ := z; exact dictP_ok g.kk g.calm (bltB_ok g hb) hs hu
    · cases h
  · split at h
    · rename_i z; cases h; obtain ⟨rfl, rfl, hb, hb2, hs⟩ := z; exact sortSet_ok g.kk g.calm (bltB_ok g hb) (bltB_ok g hb2) hs hu
    · cases h
  · split at h
    · rename_i z; cases h; obtain ⟨rfl, rfl, hb, hb2, hs⟩ := z; exact lenSet_ok g.kk g.calm (bltB_ok g hb) (bltB_ok g hb2) hs hu
    · cases h
  · split at h
    · rename_i z
      cases h
      obtain ⟨rfl, rfl, h1, h2, h3, h4, h5, h6⟩ := z
      obtain ⟨k, rfl, pd, sd⟩ := dfB_ok (X := X) h6
      refine ⟨_, tab_get (g.tab _ (tabB_ok h5)) (glB_ok g h1) (by simpa using h2) h3 sd h4 pd, fun G F H v Q le hv q => ?_⟩
      simp only [ev1] at hu
      split at hu
      · rename_i zz hz
        obtain ⟨k2, e1, e2⟩ := Option.map_eq_some_iff.mp hu
        subst e2
        have := asS_eq hz; subst this
        refine ⟨zz, k2, hv.str, e1, ?_⟩
        cases k2
        · exact q.int
        · exact q.str
      · cases hu
    · cases h
  · split at h
    · rename_i z; cases h; subst z; exact revL_ok hu
    · cases h
  · cases h
theorem hu1 (g : Gx c sx X sc N) : X.A.units + 1 < cLine := by have := g.units; omega
theorem sub2_ok (g : Gx c sx X sc N) {o : Op2} {e a b : Expr} {s t u : T} (h : sub2 o e = some (a, b)) (hu : ev2 o s t = some u) : ExT X c e a b s t u := by
  unfold sub2 at h
  split at h
  · split at h
    · rename_i z
      cases h
      cases o <;> simp only [binOf, Option.some.injEq, reduceCtorEq] at z <;> subst z
      · exact (add_ok g.kk hu).bin
      · exact (sub_ok hu).bin
      · exact (mul_ok hu).bin
      · exact (fdiv_ok hu).bin
      · exact (mod_ok hu).bin
      · exact (pow_ok hu).bin
    · cases h
  · split at h
    · rename_i z
      obtain ⟨z, hs⟩ := z
      cases h
      cases o <;> simp only [cmpOf, Option.some.injEq, reduceCtorEq] at z <;> subst z
      · exact (eq_ok g.kk g.units hu).cmp hs
      · exact (ne_ok g.kk g.units hu).cmp hs
      · exact (lt_ok hu).cmp hs
      · exact (le_ok hu).cmp hs
      · exact (gt_ok hu).cmp hs
      · exact (ge_ok hu).cmp hs
      · exact (in_ok g.kk (hu1 g) hu).cmp hs
      · exact (nin_ok g.kk (hu1 g) hu).cmp hs
    · cases h
  · split at h
    · split at h
      · rename_i hs
        cases h
        exact idx_ok g.kk (hu1 g) hs hu
      · cases h
    · split at h
      · cases h; exact sliceF_ok g.kk hu
      · cases h
    · split at h
      · cases h; exact sliceT_ok g.kk hu
      · cases h
    · cases h
  · split at h
    · split at h
      · rename_i z
        cases h
        obtain ⟨rfl, h1, h2, h3⟩ := z
        exact join_ok h1 h2 h3 hu
      · cases h
    · cases h
  · cases h
theorem sub3_ok (g : Gx c sx X sc N) {o : Op3} {e a b d : Expr} {s t q u : T} (h : sub3 o e = some (a, b, d)) (hu : ev3 o s t q = some u) : Ex3O X c e a b d s t q u := by
  unfold sub3 at h
  split at h
  · cases h; exact slice3_ok g.kk hu
  · split at h
    · rename_i z; cases h; obtain ⟨rfl, h1, h2, h3, h4⟩ := z; exact get_ok (by have := g.units; omega) h1 h2 h3 h4 hu
    · cases h
  · cases h
/-! ### the checker -/
def litB : D → Expr → Bool
  | .non, .Constant .none _ _ => true
  | .bl b, .Constant (.bool k) _ _ => b == k
  | .int i, .Constant (.int j) _ _ => decide (i = j)
  | .str x, .Constant (.str y) _ _ => decide (x = y)
  | _, _ => false
def fmtE : Expr → Option Expr
  | .FormattedValue e k none _ => if k = -1 then some e else none
  | _ => none
theorem fmtE_eq {e e1 : Expr} (h : fmtE e = some e1) : ∃ pos, e = .FormattedValue e1 (-1) none pos := by
  unfold fmtE at h
  split at h
  · split at h
    · rename_i hk; injection h with h; subst hk h; exact ⟨_, rfl⟩
    · cases h
  · cases h
def isCon : Expr → Bool
  | .Constant (.str _) _ _ => true
  | _ => false
mutual
def chkP (sx : Sx) (sc : Scope) (N : List Str) : P → Expr → Bool
  | .lit d, e => litB d e
  | .glo x d, .Name y _ => decide (y = x) && glB sc x && (x != "__debug__") && sx.glo.any fun p => decide (p.1 = x) && eqF p.2 d
  | .var i, .Name y _ => decide (N[i]? = some y) && visB sc y && (y != "__debug__") && (y != "__classdict__")
  | .fld p f ks, .Attribute e g _ => decide (g = f) && baseOk e && (ks.all fun k => decide ((k, f) ∈ sx.fld)) && chkP sx sc N p e
  | .o1 o a, e => match sub1 sx sc o e with
    | some e1 => chkP sx sc N a e1
    | none => false
  | .o2 o a b, e => match sub2 o e with
    | some (e1, e2) => chkP sx sc N a e1 && chkP sx sc N b e2
    | none => false
  | .o3 o a b d, e => match sub3 o e with
    | some (e1, e2, e3) => chkP sx sc N a e1 && chkP sx sc N b e2 && chkP sx sc N d e3
    | none => false
  | .fcons a b, .JoinedStr (e1 :: e2 :: es) _ => (match fmtE e1 with
    | some e => chkP sx sc N a e
    | none => isCon e1 && chkP sx sc N a e1) && chkF sx sc N b (e2 :: es)
  | _, _ => false
def chkF (sx : Sx) (sc : Scope) (N : List Str) : P → List Expr → Bool
  | .fnil, [] => true
  | .fcons a b, e1 :: es => (match fmtE e1 with
    | some e => chkP sx sc N a e
    | none => isCon e1 && chkP sx sc N a e1) && chkF sx sc N b es
  | _, _ => false
end
/-! ### its truth -/
theorem _root_.L2.PE.weaken {e : Expr} {t t' : TE} (h : PE X e t) (w : ∀ σ H Q, t' σ H Q → t σ H Q) : PE X e t' := ⟨fun pins s σ H Q I hw => h.run pins s σ H Q I (w σ H Q hw)⟩
theorem _root_.L2.PT.weaken {e : Expr} {t t' : TT} (h : PT X e t) (w : ∀ σ H Q, t' σ H Q → t σ H Q) : PT X e t' := ⟨fun pins s σ H Q I hw => h.run pins s σ H Q I (w σ H Q hw)⟩
theorem _root_.L2.PS.weaken {e : Stmt} {t t' : TS} (h : PS X e t) (w : ∀ D σ H, t' D σ H → t D σ H) : PS X e t' := ⟨fun pins s σ H D I hw => h.run pins s σ H D I (w D σ H hw)⟩
theorem _root_.L2.PSs.weaken {e : List Stmt} {t t' : TS} (h : PSs X e t) (w : ∀ D σ H, t' D σ H → t D σ H) : PSs X e t' := ⟨fun pins s σ H D I hw => h.run pins s σ H D I (w D σ H hw)⟩
def tP (c : Cv) (G : Nat → Option Addr) (q : P) : TE := fun σ H Q => ∃ (Fr F : Hp) (ρ ts : List (Option T)) (us : List (Option V)) (L : List Addr), SR c G Fr F H (ρ ++ ts) (σ ++ us) L ∧ ρ.length = σ.length ∧
  ∃ t, evP ρ q = some t ∧ ∀ v H', Ext H H' → Vw c G F H' t v → Q v H'
theorem Vw.to {G : Nat → Option Addr} {F H H' : Hp} {t : T} {v : V} (h : Vw c G F H t v) (x : Ext H H') (hg : ∀ n a, G n = some a → ∃ o, H a = some o) : Vw c G F H' t v := by
  obtain ⟨L, r⟩ := h
  refine ⟨L, r.kept Le.refl ⟨fun a ha => ?_, fun n a g => ?_⟩⟩
  · obtain ⟨o, e, _⟩ := r.mem a ha
    rw [e, x a o e]
  · obtain ⟨o, e⟩ := hg n a g
    rw [e, x a o e]
theorem SR.gs {G : Nat → Option Addr} {Fr F H : Hp} {ρ : List (Option T)} {us : List (Option V)} {L : List Addr} (s : SR c G Fr F H ρ us L) : ∀ n a, G n = some a → ∃ o, H a = some o := fun n a g => by
  cases e : Fr a with
  | none => exact absurd e (s.gf n a g)
  | some o => exact ⟨o, s.fr a o e⟩
theorem Res.ext {G : Nat → Option Addr} {F H H' : Hp} {own : Bool} {u : T} {x : V} (r : Res c G F H own u x H') : Ext H H' := by
  rcases r with ⟨x, _⟩ | ⟨p, o, hp, rfl, _, _⟩ | ⟨_, rfl, _⟩
  · exact x
  · exact .upd hp
  · exact .refl
theorem Res.vw {G : Nat → Option Addr} {F H H' : Hp} {own : Bool} {u : T} {x : V} (r : Res c G F H own u x H') : Vw c G F H' u x := by
  rcases r with ⟨_, d, rfl, h⟩ | ⟨p, o, hp, rfl, _, h⟩ | ⟨_, rfl, h⟩
  · exact Vw.of h
  · exact ⟨_, h⟩
  · exact h
theorem slot_app {ρ ts : List (Option T)} {i : Nat} {t : T} (h : slot ρ i = some t) : (ρ ++ ts)[i]? = some (some t) ∧ i < ρ.length := by
  unfold slot at h
  split at h
  · rename_i o e
    subst h
    have := (List.getElem?_eq_some_iff.mp e).1
    exact ⟨by rw [List.getElem?_append_left this]; exact e, this⟩
  · cases h
/-- the parts of an f-string, read -/
def FJ (c : Cv) (G : Nat → Option Addr) (q : P) (ts : List TE) : Prop := ∀ (acc : Str) (σ : L2.St) (H : Hp) (Q : Str → Hp → Prop), (∃ (Fr F : Hp) (ρ us0 : List (Option T)) (us : List (Option V)) (L : List Addr), SR c G Fr F H (ρ ++ us0) (σ ++ us) L ∧ ρ.length = σ.length ∧
  ∃ y, evP ρ q = some (.sh (.str y)) ∧ (acc ++ y).length ≤ sizeLine ∧ ∀ H', Ext H H' → Q (acc ++ y) H') → tJs ts acc σ H Q
theorem app_len (x y : Str) : (x ++ y).length = x.length + y.length := Array.size_append
theorem app_nil (x : Str) : x ++ (⟨#[]⟩ : Str) = x := by
  show (⟨x.cps ++ #[]⟩ : Str) = x
  rw [Array.append_empty]
theorem app_assoc (x y z : Str) : x ++ y ++ z = x ++ (y ++ z) := by
  show (⟨x.cps ++ y.cps ++ z.cps⟩ : Str) = ⟨x.cps ++ (y.cps ++ z.cps)⟩
  rw [Array.append_assoc]
theorem fcons_eq {ρ : Env1} {a b : P} {y : Str} (h : evP ρ (.fcons a b) = some (.sh (.str y))) : ∃ s x z, evP ρ a = some s ∧ evP ρ b = some (.sh (.str z)) ∧ fmtV s = some x ∧ y = x ++ z := by
  simp only [evP] at h
  split at h
  · rename_i s t h1 h2
    split at h
    · rename_i x z h3 h4
      have := asS_eq h4; subst this
      split at h
      · injection h with h; injection h with h; injection h with h
        exact ⟨s, x, z, h1, h2, h3, h.symm⟩
      · cases h
    · cases h
  · cases h
theorem fmtV_eq {s : T} {x : Str} (h : fmtV s = some x) : (s = .sh (.str x) ∧ x.length ≤ sizeLine) ∨ ∃ i : Int, s = .sh (.int i) ∧ i.natAbs.log2 < 1920 ∧ x = Str.ofString (toString i) := by
  unfold fmtV at h
  split at h
  · split at h
    · rename_i hl; injection h with h; subst h; exact .inl ⟨rfl, hl⟩
    · cases h
  · split at h
    · rename_i hl; injection h with h; exact .inr ⟨_, rfl, hl, h.symm⟩
    · cases h
  · cases h
theorem fj_nil {G : Nat → Option Addr} : FJ c G .fnil [] := fun acc σ H Q ⟨Fr, F, ρ, us0, us, L, s, hl, y, e, le, k⟩ => by
  simp only [evP, Option.some.injEq] at e
  injection e with e; injection e with e
  have z := k H .refl
  rw [← e, app_nil] at z
  exact z
theorem fj_fmt {G : Nat → Option Addr} {a b : P} {t : TE} {ts : List TE} (ht : t = tP c G a) (h : FJ c G b ts) : FJ c G (.fcons a b) (tFmt t :: ts) := fun acc σ H Q ⟨Fr, F, ρ, us0, us, L, s, hl, y, e, le, k⟩ => by
  obtain ⟨s1, x, z, h1, h2, h3, rfl⟩ := fcons_eq e
  subst ht
  rw [← app_assoc] at le k
  have l1 : (acc ++ x).length ≤ sizeLine := by rw [app_len] at le; omega
  refine ⟨Fr, F, ρ, us0, us, L, s, hl, s1, h1, fun v H1 x1 hv => ?_⟩
  have nx : tJs ts (acc ++ x) σ H1 Q := h (acc ++ x) σ H1 Q ⟨Fr, F, ρ, us0, us, L, s.to x1, hl, z, h2, le, fun H' x2 => k H' (x1.trans x2)⟩
  rcases fmtV_eq h3 with ⟨rfl, hx⟩ | ⟨i, rfl, hi, rfl⟩
  · exact .inl ⟨x, hv.str, hx, x, rfl, l1, nx⟩
  · exact .inr ⟨i, hv.int, hi, _, rfl, l1, nx⟩
theorem fj_con {G : Nat → Option Addr} {x : Str} {b : P} {ts : List TE} (h : FJ c G b ts) : FJ c G (.fcons (.lit (.str x)) b) (tP c G (.lit (.str x)) :: ts) := fun acc σ H Q ⟨Fr, F, ρ, us0, us, L, s, hl, y, e, le, k⟩ => by
  obtain ⟨s1, x0, z, h1, h2, h3, rfl⟩ := fcons_eq e
  simp only [evP, Option.some.injEq] at h1
  subst h1
  rcases fmtV_eq h3 with ⟨e1, hx⟩ | ⟨i, e1, _⟩
  · injection e1 with e1; injection e1 with e1; subst e1
    rw [← app_assoc] at le k
    have l1 : (acc ++ x).length ≤ sizeLine := by rw [app_len] at le; omega
    refine ⟨Fr, F, ρ, us0, us, L, s, hl, _, rfl, fun v H1 x1 hv => ?_⟩
    exact ⟨x, hv.str, l1, h (acc ++ x) σ H1 Q ⟨Fr, F, ρ, us0, us, L, s.to x1, hl, z, h2, le, fun H' x2 => k H' (x1.trans x2)⟩⟩
  · cases e1
theorem nil_app (x : Str) : (⟨#[]⟩ : Str) ++ x = x := by
  show (⟨#[] ++ x.cps⟩ : Str) = x
  rw [Array.empty_append]
theorem fcons_str {ρ : Env1} {a b : P} {t : T} (h : evP ρ (.fcons a b) = some t) : ∃ y : Str, t = .sh (.str y) ∧ y.length ≤ sizeLine := by
  simp only [evP] at h
  split at h
  · split at h
    · split at h
      · rename_i hl
        injection h with h
        exact ⟨_, h.symm, by rw [app_len]; exact hl⟩
      · cases h
    · cases h
  · cases h
/-- a part's value is a text where it is a constant -/
theorem con_lit {sx : Sx} {sc : Scope} {N : List Str} {a : P} {e : Expr} (h : isCon e = true) (hc : chkP sx sc N a e = true) : ∃ x : Str, a = .lit (.str x) := by
  unfold isCon at h
  split at h
  · cases a with
    | lit d =>
      simp only [chkP] at hc
      cases d <;> first | exact ⟨_, rfl⟩ | (simp [litB] at hc; done)
    | glo _ _ => simp only [chkP] at hc; cases hc
    | var _ => simp only [chkP] at hc; cases hc
    | fld _ _ _ => simp only [chkP] at hc; cases hc
    | o1 o a => simp only [chkP] at hc; cases o <;> simp [sub1] at hc
    | o2 o a b => simp only [chkP] at hc; cases o <;> simp [sub2, binOf, cmpOf] at hc
    | o3 o a b d => simp only [chkP] at hc; cases o <;> simp [sub3] at hc
    | fnil => simp only [chkP] at hc; cases hc
    | fcons _ _ => simp only [chkP] at hc; cases hc
  · cases h
mutual
theorem chkP_ok (G : Nat → Option Addr) (g : Gx c sx X sc N) : ∀ {q : P} {e : Expr}, chkP sx sc N q e = true → PE X e (tP c G q)
  | .lit d, e, h => by
    simp only [chkP] at h
    unfold litB at h
    split at h
    · refine pe_non.weaken fun σ H Q ⟨Fr, F, ρ, ts, us, L, s, hl, t, ht, k⟩ => ?_
      simp only [evP, Option.some.injEq] at ht; subst ht
      exact k _ H .refl (Vw.of (by simp only [R]))
    · rename_i b b2 _ _
      have h' : b = b2 := by simpa using h
      subst h'
      refine pe_bl.weaken fun σ H Q ⟨Fr, F, ρ, ts, us, L, s, hl, t, ht, k⟩ => ?_
      simp only [evP, Option.some.injEq] at ht; subst ht
      exact k _ H .refl (Vw.of (by simp only [R]))
    · rename_i i j _ _
      have h' : i = j := of_decide_eq_true h
      subst h'
      refine pe_int.weaken fun σ H Q ⟨Fr, F, ρ, ts, us, L, s, hl, t, ht, k⟩ => ?_
      simp only [evP, Option.some.injEq] at ht; subst ht
      exact k _ H .refl (Vw.of (by simp only [R]))
    · rename_i i j _ _
      have h' : i = j := of_decide_eq_true h
      subst h'
      refine pe_str.weaken fun σ H Q ⟨Fr, F, ρ, ts, us, L, s, hl, t, ht, k⟩ => ?_
      simp only [evP, Option.some.injEq] at ht; subst ht
      exact k _ H .refl (Vw.of (by simp only [R]))
    · cases h
  | .glo x d, e, h => by
    cases e with
    | Name y pos =>
      simp only [chkP, Bool.and_eq_true, decide_eq_true_eq, List.any_eq_true] at h
      obtain ⟨⟨⟨rfl, h2⟩, h3⟩, p, hp, h4, h5⟩ := h
      subst h4
      have h6 := eqF_eq h5
      subst h6
      obtain ⟨u, v, e1, e2, e3⟩ := g.glo p hp
      refine (pe_glob (glB_ok g h2) e1 e2 (by simpa using h3)).weaken fun σ H Q ⟨Fr, F, ρ, ts, us, L, s, hl, t, ht, k⟩ => ?_
      simp only [evP, Option.some.injEq] at ht; subst ht
      exact k _ H .refl (Vw.of (e3 F))
    | _ => simp only [chkP] at h; cases h
  | .var i, e, h => by
    cases e with
    | Name y pos =>
      simp only [chkP, Bool.and_eq_true, decide_eq_true_eq] at h
      obtain ⟨⟨⟨h1, h2⟩, h3⟩, h4⟩ := h
      refine (pe_var (i := i) (by rw [g.nn]; exact h1) (by rw [g.scp]; exact visB_ok h2) (by simpa using h3) (by simpa using h4)).weaken fun σ H Q ⟨Fr, F, ρ, ts, us, L, s, hl, t, ht, k⟩ => ?_
      simp only [evP] at ht
      obtain ⟨e1, e2⟩ := slot_app (ts := ts) ht
      obtain ⟨u, L1, L2, L3, e3, _, ⟨v, rfl, r⟩, _⟩ := s.sl.at e1
      refine ⟨v, ?_, k v H .refl ⟨_, r⟩⟩
      rw [List.getElem?_append_left (by omega)] at e3
      exact e3
    | _ => simp only [chkP] at h; cases h
  | .fld p f ks, e, h => by
    cases e with
    | Attribute e m pos =>
      simp only [chkP, Bool.and_eq_true, decide_eq_true_eq, List.all_eq_true] at h
      obtain ⟨⟨⟨rfl, h2⟩, h3⟩, h4⟩ := h
      refine (pe_fld (chkP_ok G g h4) (base_of h2)).weaken fun σ H Q ⟨Fr, F, ρ, ts, us, L, s, hl, t, ht, k⟩ => ?_
      simp only [evP] at ht
      split at ht
      · rename_i t0 e0
        refine ⟨Fr, F, ρ, ts, us, L, s, hl, t0, e0, fun v H1 x1 r => ?_⟩
        split at ht
        · rename_i kk fs e1
          split at ht
          · rename_i hk
            obtain ⟨q, hq, rfl⟩ := Option.map_eq_some_iff.mp ht
            obtain ⟨hc, hn⟩ := g.fld _ (h3 kk hk)
            have le1 : Le F H1 := x1.le s.le
            -- the object
            have : ∃ a dx vs, v = .ref a ∧ H1 a = some (.ins (c.cl kk) dx vs) ∧ ∃ v', vs.lookup m = some v' ∧ Vw c G F H1 q.2 v' := by
              obtain ⟨L', r⟩ := r
              unfold asF at e1
              split at e1
              · injection e1 with e1
                obtain ⟨rfl, rfl⟩ := Prod.mk.inj e1
                simp only [RO, R] at r
                obtain ⟨_, a, dx, vs, e2, e3, e4⟩ := r
                refine ⟨a, dx, vs, e2, le1.ex e3 rfl, ?_⟩
                clear e2 e3
                revert vs hq
                generalize ‹List (Str × D)› = ds
                intro hq vs e4
                induction ds generalizing vs with
                | nil => simp at hq
                | cons pr r ih =>
                  obtain ⟨f1, d1⟩ := pr
                  simp only [RF] at e4
                  obtain ⟨v1, w1, rfl, x1', y1⟩ := e4
                  by_cases hf : f1 = m
                  · rw [List.map_cons, List.find?_cons_of_pos (by simpa using hf)] at hq
                    injection hq with hq; subst hq
                    exact ⟨v1, by rw [List.lookup_cons]; simp [hf], Vw.of x1'⟩
                  · rw [List.map_cons, List.find?_cons_of_neg (by simpa using hf)] at hq
                    obtain ⟨v2, a1, b1⟩ := ih hq w1 y1
                    exact ⟨v2, by rw [List.lookup_cons]; simp only [show (m == f1) = false from by simpa using fun e => hf e.symm]; exact a1, b1⟩
              · injection e1 with e1
                obtain ⟨rfl, rfl⟩ := Prod.mk.inj e1
                simp only [RO] at r
                obtain ⟨a, dx, vs, L1, e2, e3, e4, hL⟩ := r
                refine ⟨a, dx, vs, e2, e3, ?_⟩
                clear e2 e3 hL
                revert vs L1 hq
                generalize ‹List (Str × T)› = ds
                intro hq vs L1 e4
                induction ds generalizing vs L1 with
                | nil => simp at hq
                | cons pr r ih =>
                  obtain ⟨f1, d1⟩ := pr
                  simp only [ROF] at e4
                  obtain ⟨v1, w1, M1, M2, rfl, _, x1', y1⟩ := e4
                  by_cases hf : f1 = m
                  · rw [List.find?_cons_of_pos (by simpa using hf)] at hq
                    injection hq with hq; subst hq
                    exact ⟨v1, by rw [List.lookup_cons]; simp [hf], ⟨_, x1'⟩⟩
                  · rw [List.find?_cons_of_neg (by simpa using hf)] at hq
                    obtain ⟨v2, a1, b1⟩ := ih hq w1 M2 y1
                    exact ⟨v2, by rw [List.lookup_cons]; simp only [show (m == f1) = false from by simpa using fun e => hf e.symm]; exact a1, b1⟩
              · cases e1
            obtain ⟨a, dx, vs, e2, e3, v', e4, e5⟩ := this
            exact ⟨a, c.cl kk, dx, vs, v', e2, e3, hc, hn, e4, k v' H1 x1 e5⟩
          · cases ht
        · cases ht
      · cases ht
    | _ => simp only [chkP] at h; cases h
  | .o1 o a, e, h => by
    simp only [chkP] at h
    split at h
    · rename_i e1 hs
      have ih := chkP_ok G g (q := a) (e := e1) h
      refine ⟨fun pins s0 σ H Q I ⟨Fr, F, ρ, ts, us, L, s, hl, t, ht, k⟩ => ?_⟩
      simp only [evP] at ht
      split at ht
      · rename_i t0 e0
        obtain ⟨r, rl, ok⟩ := sub1_ok g hs ht
        refine (rl _ ih).run pins s0 σ H Q I ?_
        refine ⟨Fr, F, ρ, ts, us, L, s, hl, t0, e0, fun v H1 x1 rv => ?_⟩
        exact ok G F H1 v Q (x1.le s.le) rv fun x H' res => k x H' (x1.trans res.ext) res.vw
      · cases ht
    · cases h
  | .o2 o a b, e, h => by
    simp only [chkP] at h
    split at h
    · rename_i e1 e2 hs
      rw [Bool.and_eq_true] at h
      have ih1 := chkP_ok G g (q := a) (e := e1) h.1
      have ih2 := chkP_ok G g (q := b) (e := e2) h.2
      refine ⟨fun pins s0 σ H Q I ⟨Fr, F, ρ, ts, us, L, s, hl, t, ht, k⟩ => ?_⟩
      simp only [evP] at ht
      split at ht
      · rename_i t0 t1 e0 e01
        obtain ⟨pre, r, rl, hp, ok⟩ := sub2_ok g hs ht
        refine (rl _ _ ih1 ih2).run pins s0 σ H Q I ?_
        have main : ∀ v H1, Ext H H1 → Vw c G F H1 t0 v → tP c G b σ H1 fun y H2 => r v y H2 Q := fun v H1 x1 rv =>
          ⟨Fr, F, ρ, ts, us, L, s.to x1, hl, t1, e01, fun w H2 x2 rw' => ok G F H2 v w Q ((x1.trans x2).le s.le) (rv.to x2 (s.to x1).gs) rw' fun x H' res => k x H' ((x1.trans x2).trans res.ext) res.vw⟩
        cases pre with
        | none => exact ⟨Fr, F, ρ, ts, us, L, s, hl, t0, e0, main⟩
        | some p => exact ⟨Fr, F, ρ, ts, us, L, s, hl, t0, e0, fun v H1 x1 rv => ⟨hp p rfl G F H1 v (x1.le s.le) rv, main v H1 x1 rv⟩⟩
      · cases ht
    · cases h
  | .o3 o a b d, e, h => by
    simp only [chkP] at h
    split at h
    · rename_i e1 e2 e3 hs
      rw [Bool.and_eq_true, Bool.and_eq_true] at h
      have ih1 := chkP_ok G g (q := a) (e := e1) h.1.1
      have ih2 := chkP_ok G g (q := b) (e := e2) h.1.2
      have ih3 := chkP_ok G g (q := d) (e := e3) h.2
      refine ⟨fun pins s0 σ H Q I ⟨Fr, F, ρ, ts, us, L, s, hl, t, ht, k⟩ => ?_⟩
      simp only [evP] at ht
      split at ht
      · rename_i t0 t1 t2 e0 e01 e02
        obtain ⟨pre, mid, r, rl, hp, hm, ok⟩ := sub3_ok g hs ht
        refine (rl _ _ _ ih1 ih2 ih3).run pins s0 σ H Q I ?_
        have last : ∀ v w H1 H2, Ext H H1 → Ext H1 H2 → Vw c G F H1 t0 v → Vw c G F H2 t1 w → tP c G d σ H2 fun y H3 => r v w y H3 Q := fun v w H1 H2 x1 x2 rv rw' =>
          ⟨Fr, F, ρ, ts, us, L, s.to (x1.trans x2), hl, t2, e02, fun z H3 x3 rz => ok G F H3 v w z Q (((x1.trans x2).trans x3).le s.le) (rv.to (x2.trans x3) (s.to x1).gs) (rw'.to x3 (s.to (x1.trans x2)).gs) rz fun x H' res => k x H' (((x1.trans x2).trans x3).trans res.ext) res.vw⟩
        have main : ∀ v H1, Ext H H1 → Vw c G F H1 t0 v → tP c G b σ H1 fun y H2 => midO mid y fun y => tP c G d σ H2 fun z H3 => r v y z H3 Q := fun v H1 x1 rv =>
          ⟨Fr, F, ρ, ts, us, L, s.to x1, hl, t1, e01, fun w H2 x2 rw' => by
            cases mid with
            | false => exact last v w H1 H2 x1 x2 rv rw'
            | true =>
              obtain ⟨i, rfl⟩ := hm rfl
              have := rw'.int
              subst this
              exact ⟨i, rfl, last v _ H1 H2 x1 x2 rv rw'⟩⟩
        cases pre with
        | none => cases mid <;> exact ⟨Fr, F, ρ, ts, us, L, s, hl, t0, e0, main⟩
        | some p => cases mid <;> exact ⟨Fr, F, ρ, ts, us, L, s, hl, t0, e0, fun v H1 x1 rv => ⟨hp p rfl G F H1 v (x1.le s.le) rv, main v H1 x1 rv⟩⟩
      · cases ht
    · cases h
  | .fnil, e, h => by simp only [chkP] at h; cases h
  | .fcons a b, e, h => by
    cases e with
    | JoinedStr es pos =>
      cases es with
      | nil => simp only [chkP] at h; cases h
      | cons e1 es =>
        cases es with
        | nil => simp only [chkP] at h; cases h
        | cons e2 es =>
          simp only [chkP, Bool.and_eq_true] at h
          obtain ⟨t, ht⟩ : ∃ t, PE X e1 t ∧ ∀ {b : P} {ts : List TE}, FJ c G b ts → FJ c G (.fcons a b) (t :: ts) := by
            have h1 := h.1
            split at h1
            · rename_i e3 he
              obtain ⟨p2, rfl⟩ := fmtE_eq he
              exact ⟨_, pe_fmt (chkP_ok G g h1), fun h => fj_fmt rfl h⟩
            · rw [Bool.and_eq_true] at h1
              obtain ⟨x, rfl⟩ := con_lit h1.1 h1.2
              exact ⟨_, chkP_ok G g (q := .lit (.str x)) h1.2, fun h => fj_con h⟩
          obtain ⟨ts, pj, fj⟩ := chkF_ok G g (q := b) h.2
          have pj2 : PJ X (e1 :: e2 :: es) (t :: ts) := .cons ht.1 pj
          refine (pe_joined pj2).weaken fun σ H Q ⟨Fr, F, ρ, us0, us, L, s, hl, t1, e, k⟩ => ?_
          obtain ⟨y, rfl, ly⟩ := fcons_str e
          have em : Str.empty = (⟨#[]⟩ : Str) := rfl
          refine ht.2 fj Str.empty σ H _ ⟨Fr, F, ρ, us0, us, L, s, hl, y, e, ?_, fun H' x1 => ?_⟩
          · rw [em, nil_app]; exact ly
          · rw [em, nil_app]; exact k _ H' x1 (Vw.of (by simp only [R]))
    | _ => simp only [chkP] at h; cases h
theorem chkF_ok (G : Nat → Option Addr) (g : Gx c sx X sc N) : ∀ {q : P} {es : List Expr}, chkF sx sc N q es = true → ∃ ts, PJ X es ts ∧ FJ c G q ts
  | .fnil, es, h => by
    cases es with
    | nil => exact ⟨[], .nil, fj_nil⟩
    | cons _ _ => simp only [chkF] at h; cases h
  | .fcons a b, es, h => by
    cases es with
    | nil => simp only [chkF] at h; cases h
    | cons e1 es =>
      simp only [chkF, Bool.and_eq_true] at h
      obtain ⟨ts, pj, fj⟩ := chkF_ok G g (q := b) h.2
      have h1 := h.1
      split at h1
      · rename_i e3 he
        obtain ⟨p2, rfl⟩ := fmtE_eq he
        exact ⟨_, .cons (pe_fmt (chkP_ok G g h1)) pj, fj_fmt rfl fj⟩
      · rw [Bool.and_eq_true] at h1
        obtain ⟨x, rfl⟩ := con_lit h1.1 h1.2
        exact ⟨_, .cons (chkP_ok G g (q := .lit (.str x)) h1.2) pj, fj_con fj⟩
  | .lit _, _, h => by simp only [chkF] at h; cases h
  | .glo _ _, _, h => by simp only [chkF] at h; cases h
  | .var _, _, h => by simp only [chkF] at h; cases h
  | .fld _ _ _, _, h => by simp only [chkF] at h; cases h
  | .o1 _ _, _, h => by simp only [chkF] at h; cases h
  | .o2 _ _ _, _, h => by simp only [chkF] at h; cases h
  | .o3 _ _ _ _, _, h => by simp only [chkF] at h; cases h
end
end MP
/-! MP8: how states are cut, moved, handed to a call. -/
namespace MP
open PySem PySem.Spec PyProof.Rows L2
variable {c : Cv} {F F' H H' Fr : Hp} {G : Nat → Option Addr}
theorem nodup_mid {α : Type} {A B D : List α} (h : (A ++ B ++ D).Nodup) : (A ++ D).Nodup := by
  rw [List.append_assoc] at h
  obtain ⟨n1, n2, n3⟩ := List.nodup_append.mp h
  rw [List.nodup_append]
  exact ⟨n1, (List.nodup_append.mp n2).2.1, fun a ha b hb => n3 a ha b (List.mem_append_right _ hb)⟩
/-- the middle is dropped -/
theorem SR.del {ρ A B : List (Option T)} {us ua ub : List (Option V)} {L : List Addr} (s : SR c G Fr F H (ρ ++ A ++ B) (us ++ ua ++ ub) L) (h1 : us.length = ρ.length) (h2 : ua.length = A.length) :
    ∃ L', SR c G Fr F H (ρ ++ B) (us ++ ub) L' ∧ ∀ a ∈ L', a ∈ L := by
  obtain ⟨L12, L3, rfl, x, z⟩ := RSl.split (by simp [h1, h2]) s.sl
  obtain ⟨L1, L2, rfl, x, y⟩ := RSl.split h1 x
  have sub : ∀ a ∈ L1 ++ L3, a ∈ L1 ++ L2 ++ L3 := fun a ha => by
    rcases List.mem_append.mp ha with q | q <;> simp [q]
  exact ⟨L1 ++ L3, ⟨x.app z, nodup_mid s.nd, fun a ha => s.ap a (sub a ha), s.le, s.fr, s.gf, s.ff⟩, sub⟩
theorem SR.cut {ρ A : List (Option T)} {us ua : List (Option V)} {L : List Addr} (s : SR c G Fr F H (ρ ++ A) (us ++ ua) L) (h1 : us.length = ρ.length) :
    ∃ L', SR c G Fr F H ρ us L' ∧ ∀ a ∈ L', a ∈ L := by
  have h2 : ua.length = A.length := by
    have := s.len
    simp only [List.length_append] at this
    omega
  have s' : SR c G Fr F H (ρ ++ A ++ []) (us ++ ua ++ []) L := by simpa using s
  obtain ⟨L', z, q⟩ := s'.del h1 h2
  exact ⟨L', by simpa using z, q⟩
/-- the content of a slot behind is moved to a slot ahead, which bears the same value -/
theorem SR.moveTo {ρ A : List (Option T)} {us ua : List (Option V)} {L : List Addr} {i : Nat} {o : Option T} {u : Option V} (s : SR c G Fr F H (ρ ++ o :: A) (us ++ u :: ua) L) (h1 : us.length = ρ.length) (hi : us[i]? = some u) :
    ∃ L', SR c G Fr F H (ρ.set i o ++ A) (us ++ ua) L' ∧ ∀ a ∈ L', a ∈ L := by
  have hlt : i < ρ.length := by
    rw [← h1]
    exact (List.getElem?_eq_some_iff.mp hi).1
  obtain ⟨L1, L2, rfl, x, y⟩ := RSl.split h1 s.sl
  obtain ⟨u', ua', M1, M2, e, rfl, y1, y2⟩ := y
  injection e with e1 e2
  subst e1 e2
  obtain ⟨u2, K1, K2, K3, hu2, rfl, x1, f⟩ := x.at (List.getElem?_eq_getElem hlt)
  have z := f F H o u M1 Le.refl ⟨fun _ _ => rfl, fun _ _ _ => rfl⟩ y1
  rw [set_self hi] at z
  refine ⟨(K1 ++ M1 ++ K3) ++ M2, ⟨z.app y2, ?_, fun a ha => s.ap a ?_, s.le, s.fr, s.gf, s.ff⟩, fun a ha => ?_⟩
  · have nd := s.nd
    have p1 : (K1 ++ K2 ++ K3 ++ (M1 ++ M2)).Perm (K2 ++ (K1 ++ M1 ++ K3 ++ M2)) := by
      have a1 : (K1 ++ K2 ++ K3 ++ (M1 ++ M2)).Perm (K2 ++ K1 ++ K3 ++ (M1 ++ M2)) := ((List.perm_append_comm).append_right K3).append_right _
      refine a1.trans ?_
      simp only [List.append_assoc]
      refine (List.Perm.refl K2).append ((List.Perm.refl K1).append ?_)
      rw [← List.append_assoc, ← List.append_assoc]
      exact (List.perm_append_comm).append_right M2
    exact (List.nodup_append.mp (p1.nodup_iff.mp nd)).2.1
  · simp only [List.mem_append] at ha ⊢
    rcases ha with ((q | q) | q) | q <;> simp [q]
  · simp only [List.mem_append] at ha ⊢
    rcases ha with ((q | q) | q) | q <;> simp [q]
/-- a slot is moved behind -/
theorem SR.moveOut {ρ : List (Option T)} {us : List (Option V)} {L : List Addr} {i : Nat} {t : T} (s : SR c G Fr F H ρ us L) (h : ρ[i]? = some (some t)) :
    ∃ L' v, us[i]? = some (some v) ∧ SR c G Fr F H (ρ.set i none ++ [some t]) (us ++ [some v]) L' := by
  obtain ⟨u, L1, L2, L3, hu, rfl, ⟨v, rfl, r⟩, f⟩ := s.sl.at h
  have z := f F H none (some v) [] Le.refl ⟨fun _ _ => rfl, fun _ _ _ => rfl⟩ rfl
  rw [set_self hu] at z
  refine ⟨(L1 ++ [] ++ L3) ++ L2, v, hu, ⟨z.app ⟨some v, [], L2, [], rfl, by simp, ⟨v, rfl, r⟩, rfl, rfl⟩, ?_, fun a ha => s.ap a ?_, s.le, s.fr, s.gf, s.ff⟩⟩
  · have p1 : (L1 ++ L2 ++ L3).Perm (L1 ++ [] ++ L3 ++ L2) := by
      simp only [List.append_nil, List.append_assoc]
      exact (List.Perm.refl L1).append List.perm_append_comm
    exact p1.nodup_iff.mp s.nd
  · simp only [List.append_nil, List.mem_append] at ha ⊢
    rcases ha with (q | q) | q <;> simp [q]
/-- a slot's content is moved to the middle -/
theorem SR.moveMid {ρ A B : List (Option T)} {us ua ub : List (Option V)} {L : List Addr} {i : Nat} {t : T} (s : SR c G Fr F H (ρ ++ (A ++ B)) (us ++ (ua ++ ub)) L) (h1 : us.length = ρ.length) (h2 : ua.length = A.length) (h : ρ[i]? = some (some t)) :
    ∃ v L', us[i]? = some (some v) ∧ SR c G Fr F H (ρ.set i none ++ (A ++ some t :: B)) (us ++ (ua ++ some v :: ub)) L' := by
  obtain ⟨La, Lr, rfl, x, y⟩ := RSl.split h1 s.sl
  obtain ⟨Lb, Lc, rfl, y1, y2⟩ := RSl.split h2 y
  obtain ⟨u, L1, L2, L3, hu, rfl, ⟨v, e, r⟩, f⟩ := x.at h
  subst e
  have z := f F H none (some v) [] Le.refl ⟨fun _ _ => rfl, fun _ _ _ => rfl⟩ rfl
  rw [set_self hu] at z
  have p : (L1 ++ L2 ++ L3 ++ (Lb ++ Lc)).Perm ((L1 ++ [] ++ L3) ++ (Lb ++ (L2 ++ Lc))) := by
    simp only [List.append_nil, List.append_assoc]
    refine (List.Perm.refl L1).append ?_
    have q : (L2 ++ (L3 ++ (Lb ++ Lc))).Perm ((L3 ++ Lb) ++ L2 ++ Lc) := by
      have := (List.perm_append_comm (l₁ := L2) (l₂ := L3 ++ Lb)).append_right Lc
      simpa using this
    simpa using q
  refine ⟨v, _, hu, z.app (y1.app ⟨some v, ub, L2, Lc, rfl, rfl, ⟨v, rfl, r⟩, y2⟩), p.nodup_iff.mp s.nd, fun a ha => s.ap a (p.mem_iff.mpr ha), s.le, s.fr, s.gf, s.ff⟩
/-- what was borrowed comes back -/
def BorOk : List (Option Nat) → List V → List (Option V) → Prop
  | some i :: bs, v :: vs, us => us[i]? = some (some v) ∧ BorOk bs vs us
  | none :: bs, _ :: vs, us => BorOk bs vs us
  | _, _, _ => True
theorem back_length : ∀ {bs : List (Option Nat)} {fs r : Env1}, (back bs fs r).length = r.length
  | [], _, _ => by unfold back; rfl
  | some i :: bs, [], r => by unfold back; rfl
  | none :: bs, [], r => by unfold back; rfl
  | some i :: bs, f :: fs, r => by
    unfold back
    rw [back_length]
    exact List.length_set
  | none :: bs, _ :: fs, r => by
    unfold back
    exact back_length
theorem SR.back : ∀ {bs : List (Option Nat)} {fin ρ A : List (Option T)} {vs : List V} {us ua : List (Option V)} {L : List Addr}, SR c G Fr F H (ρ ++ (fin ++ A)) (us ++ (vs.map some ++ ua)) L → us.length = ρ.length → vs.length = fin.length →
    BorOk bs vs us → ∃ L', SR c G Fr F H (back bs fin ρ ++ A) (us ++ ua) L' ∧ ∀ a ∈ L', a ∈ L
  | bs, [], ρ, A, vs, us, ua, L, s, h1, h2, _ => by
    have : vs = [] := List.eq_nil_of_length_eq_zero h2
    subst this
    refine ⟨L, ?_, fun _ h => h⟩
    have e : MP.back bs [] ρ = ρ := by
      cases bs with
      | nil => unfold MP.back; rfl
      | cons b bs => cases b <;> (unfold MP.back; rfl)
    rw [e]
    simpa using s
  | [], f :: fin, ρ, A, vs, us, ua, L, s, h1, h2, _ => by
    have e : MP.back [] (f :: fin) ρ = ρ := by unfold MP.back; rfl
    rw [e]
    have s' : SR c G Fr F H (ρ ++ (f :: fin) ++ A) (us ++ vs.map some ++ ua) L := by simpa using s
    exact s'.del h1 (by simpa using h2)
  | some i :: bs, f :: fin, ρ, A, v :: vs, us, ua, L, s, h1, h2, hb => by
    obtain ⟨hb1, hb2⟩ : us[i]? = some (some v) ∧ BorOk bs vs us := hb
    have s' : SR c G Fr F H (ρ ++ f :: (fin ++ A)) (us ++ some v :: (vs.map some ++ ua)) L := by simpa using s
    obtain ⟨L1, s1, q1⟩ := s'.moveTo h1 hb1
    obtain ⟨L2, s2, q2⟩ := SR.back s1 (by rw [List.length_set]; exact h1) (by simpa using h2) hb2
    refine ⟨L2, ?_, fun a ha => q1 a (q2 a ha)⟩
    have e : MP.back (some i :: bs) (f :: fin) ρ = MP.back bs fin (ρ.set i f) := by
      conv => lhs; unfold MP.back
    rw [e]
    exact s2
  | none :: bs, f :: fin, ρ, A, v :: vs, us, ua, L, s, h1, h2, hb => by
    have s' : SR c G Fr F H (ρ ++ [f] ++ (fin ++ A)) (us ++ [some v] ++ (vs.map some ++ ua)) L := by simpa using s
    obtain ⟨L1, s1, q1⟩ := s'.del h1 rfl
    obtain ⟨L2, s2, q2⟩ := SR.back s1 h1 (by simpa using h2) (show BorOk bs vs us from hb)
    refine ⟨L2, ?_, fun a ha => q1 a (q2 a ha)⟩
    have e : MP.back (none :: bs) (f :: fin) ρ = MP.back bs fin ρ := by
      conv => lhs; unfold MP.back
    rw [e]
    exact s2
  | some i :: bs, f :: fin, ρ, A, [], us, ua, L, s, h1, h2, hb => by cases h2
  | none :: bs, f :: fin, ρ, A, [], us, ua, L, s, h1, h2, hb => by cases h2
/-- a call is handed what is behind; what is ahead is kept -/
theorem SR.call {ρ A : List (Option T)} {us ua : List (Option V)} {L : List Addr} (s : SR c G Fr F H (ρ ++ A) (us ++ ua) L) (h1 : us.length = ρ.length) :
    ∃ Fr' L2, SR c G Fr' F H A ua L2 ∧ ∀ (F' H' : Hp) (B : List (Option T)) (ub : List (Option V)) (L' : List Addr), Le F F' → SR c G Fr' F' H' B ub L' → ∃ L'', SR c G Fr F' H' (ρ ++ B) (us ++ ub) L'' := by
  obtain ⟨L1, L2, rfl, x, y⟩ := RSl.split h1 s.sl
  obtain ⟨n1, n2, n3⟩ := List.nodup_append.mp s.nd
  have inL1 : ∀ a ∈ L1, ∃ o, H a = some o := fun a ha => let ⟨o, e, _⟩ := x.mem a ha; ⟨o, e⟩
  have noG : ∀ n a, G n = some a → a ∉ L1 := fun n a g ha => s.gf n a g (s.ap a (List.mem_append_left _ ha)).2
  refine ⟨fun a => if a ∈ L1 then H a else Fr a, L2, ⟨y, n2, fun a ha => ⟨(s.ap a (List.mem_append_right _ ha)).1, ?_⟩, s.le, fun a o e => ?_, fun n a g => ?_, fun a ha => ?_⟩, fun F' H' B ub L' le s2 => ?_⟩
  · rw [if_neg fun h => n3 a h a ha rfl]
    exact (s.ap a (List.mem_append_right _ ha)).2
  · by_cases ha : a ∈ L1
    · rw [if_pos ha] at e; exact e
    · rw [if_neg ha] at e; exact s.fr a o e
  · rw [if_neg (noG n a g)]
    exact s.gf n a g
  · by_cases hl : a ∈ L1
    · exact (s.ap a (List.mem_append_left _ hl)).1
    · exact s.ff a (by rwa [if_neg hl] at ha)
  · have apart : ∀ a ∈ L', a ∉ L1 := fun a ha hl => by
      have := (s2.ap a ha).2
      rw [if_pos hl] at this
      obtain ⟨o, e⟩ := inL1 a hl
      rw [this] at e; cases e
    have kept : Kept G L1 H H' := ⟨fun a ha => by
      obtain ⟨o, e⟩ := inL1 a ha
      rw [e, s2.fr a o (by rw [if_pos ha]; exact e)], fun n a g => by
      cases e : Fr a with
      | none => exact absurd e (s.gf n a g)
      | some o => rw [s.fr a o e, s2.fr a o (by rw [if_neg (noG n a g)]; exact e)]⟩
    refine ⟨L1 ++ L', ⟨(x.kept le kept).app s2.sl, ?_, fun a ha => ?_, s2.le, fun a o e => ?_, s.gf, fun a ha => ?_⟩⟩
    · rw [List.nodup_append]
      exact ⟨n1, s2.nd, fun a ha b hb e => apart b hb (e ▸ ha)⟩
    · rcases List.mem_append.mp ha with ha | ha
      · refine ⟨?_, (s.ap a (List.mem_append_left _ ha)).2⟩
        refine s2.ff a ?_
        rw [if_pos ha]
        obtain ⟨o, e⟩ := inL1 a ha
        rw [e]; intro q; cases q
      · refine ⟨(s2.ap a ha).1, ?_⟩
        have := (s2.ap a ha).2
        rw [if_neg (apart a ha)] at this
        exact this
    · refine s2.fr a o ?_
      by_cases ha : a ∈ L1
      · exact absurd e (by rw [(s.ap a (List.mem_append_left _ ha)).2]; intro q; cases q)
      · rw [if_neg ha]; exact e
    · refine s2.ff a ?_
      by_cases hl : a ∈ L1
      · exact absurd (s.ap a (List.mem_append_left _ hl)).2 ha
      · rw [if_neg hl]; exact ha
end MP
/-! MP8b: sorted(d.items()) of numbers. -/
namespace MP
open PySem PySem.Spec PyProof.Rows L2
variable {c : Cv} {X : Cx} {G : Nat → Option Addr} {Fr F H H' : Hp}
theorem SR.snocX {ρ : List (Option T)} {us : List (Option V)} {L Lt : List Addr} {t : T} {v : V} (s : SR c G Fr F H ρ us L) (x : Ext H H') (hn : ∀ a ∈ Lt, H a = none) (nd : Lt.Nodup) (r : RO c G F H' t v Lt) : SR c G Fr F H' (ρ ++ [some t]) (us ++ [some v]) (L ++ Lt) := by
  refine (s.to x).snoc r ?_ fun a ha => ?_
  · rw [List.nodup_append]
    refine ⟨s.nd, nd, fun a ha b hb e => ?_⟩
    subst e
    obtain ⟨o, e, _⟩ := s.sl.mem a ha
    rw [hn a hb] at e; cases e
  · have q := hn a ha
    constructor
    · cases e : F a with
      | none => rfl
      | some o => rcases s.le a o e with e | ⟨_, _, e⟩ <;> (rw [q] at e; cases e)
    · cases e : Fr a with
      | none => rfl
      | some o => have := s.fr a o e; rw [q] at this; cases this
/-- the tuples of a dict's entries, laid -/
theorem tups_laid {pins : List (Addr × Obj)} {σ : L2.St} {H : Hp} {s : Shared} {h' : Heap} {tk : Nat} {kvs : List (Key × V)} {vs : List (Key × Value)} {as : List Addr} (I : Inv X pins σ H s) (kv : KV kvs vs)
    (hk : ∀ b o, s.heap.get? b = some o → h'.get? b = some o) (hl : as.length = vs.length) (hG : PySem.W.KdxG (mixKind X.prog X.w) vs s.heap.objs.size h' as) :
    ∃ H' : Hp, (∀ b o, H b = some o → H' b = some o) ∧ (∀ t ∈ as, H t = none) ∧ as.Nodup ∧ Paired (fun (t : Addr) (q : Key × V) => H' t = some (.tup [kV q.1, q.2])) as kvs ∧ (∀ b, b ∉ as → H' b = H b) ∧ Inv X pins σ H' { s with heap := h', toks := tk } := by
  have lk : kvs.length = vs.length := Paired.length kv
  have nd : as.Nodup := List.Pairwise.imp (fun {a b} (h : a < b) => Nat.ne_of_lt h) hG.rise
  have new : ∀ t ∈ as, H t = none := fun t ht => I.hok.fresh (Nat.le_of_lt (hG.above t ht))
  have atP := LiI.putT_at as kvs H (by omega) nd
  have off : ∀ b, b ∉ as → LiI.putT H as kvs b = H b := fun b h1 => LiI.putT_off as kvs _ h1
  have low : ∀ b o, s.heap.get? b = some o → b ∉ as := fun b o e z => absurd (Heap.lt_size e) (Nat.not_lt.mpr (Nat.le_of_lt (hG.above b z)))
  have kp : ∀ b u, H b = some u → (LiI.putT H as kvs) b = some u := fun b u e => by
    rw [off b (fun z => by rw [new b z] at e; cases e)]
    exact e
  refine ⟨LiI.putT H as kvs, kp, new, nd, atP, off, ?_⟩
  refine I.call' (ch := []) rfl ⟨fun b o q _ _ _ => hk b o q, fun b o q _ _ _ => ⟨o.slots, hk b o q⟩, fun b o q n _ => ?_, fun b o q _ => ⟨o, hk b o q⟩, fun b xs q => kp b _ q, fun b o u q => kp b _ q, fun b ps q => ⟨#[], by rw [kp b _ q]; simp⟩⟩ (fun b u q => ?_) I.bare fun b z => by simp at z
  · rw [off b (low b o q)]
    exact n
  · by_cases hb : b ∈ as
    · obtain ⟨j, pk, e1, e2, e3⟩ := LiI.paired_ix atP hb
      rw [e3] at q
      cases q
      obtain ⟨key, k, x, f1, f2, f3⟩ := hG.pairs j b e1
      obtain ⟨qv, g1, g2, g3⟩ := LiI.paired_get kv e2
      rw [f1] at g1
      cases g1
      have rk : RelV (kV pk.1) key := by
        rw [g2]
        exact relV_key (show keyIs k key = true from f2)
      exact ⟨by show 2 ≤ sizeLine; decide, [key, x], .cons rk (.cons g3 .nil), ⟨_, f3, rfl, _, rfl⟩⟩
    · rw [off b hb] at q
      exact (I.hok b u q).stay (fun d v _ y => hk d v y) (fun d y => kp d _ y) fun d xs y => kp d _ y
/-- which pair stands at an address -/
def pairAt (as : List Addr) (es : List (Int × Int)) (v : Value) : Int × Int := match v with
  | .ref a => ((as.zip es).lookup a).getD (0, 0)
  | _ => (0, 0)
theorem pairAt_at : ∀ {as : List Addr} {es : List (Int × Int)} {j : Nat} {a : Addr} {p : Int × Int}, as.Nodup → as[j]? = some a → es[j]? = some p → pairAt as es (.ref a) = p
  | [], _, j, _, _, _, h, _ => by simp at h
  | _ :: _, [], j, _, _, _, _, h => by simp at h
  | b :: as, q :: es, 0, a, p, _, h1, h2 => by
    simp only [List.getElem?_cons_zero, Option.some.injEq] at h1 h2
    subst h1 h2
    simp [pairAt]
  | b :: as, q :: es, j + 1, a, p, hn, h1, h2 => by
    simp only [List.getElem?_cons_succ] at h1 h2
    obtain ⟨n1, n2⟩ := List.nodup_cons.mp hn
    have hne : (a == b) = false := by
      rw [beq_eq_false_iff_ne]
      rintro rfl
      exact n1 (List.mem_of_getElem? h1)
    have ih := pairAt_at n2 h1 h2
    unfold pairAt at ih ⊢
    simp only [List.zip_cons_cons, List.lookup_cons, hne]
    exact ih
theorem pairAt_map {as : List Addr} {es : List (Int × Int)} (hn : as.Nodup) (hl : as.length = es.length) : as.map (fun a => pairAt as es (.ref a)) = es := by
  apply List.ext_getElem?
  intro j
  rw [List.getElem?_map]
  cases ha : as[j]? with
  | none =>
    have : es[j]? = none := by
      rw [List.getElem?_eq_none_iff] at ha ⊢
      omega
    rw [this]
    rfl
  | some a =>
    have hj := (List.getElem?_eq_some_iff.mp ha).1
    have he : es[j]? = some (es[j]'(by omega)) := List.getElem?_eq_getElem (by omega)
    rw [he, Option.map_some, pairAt_at hn ha he]
def rSortIt : V → Hp → VK → Prop := fun x H Q => ∃ (d : Addr) (es : List (Int × Int)), x = .ref d ∧ Rd H d (.dK (es.map fun p => (Sum.inl p.1, V.int p.2))) ∧
  ∀ (H' : Hp) (p : Addr) (ts : List Addr) (out : List (Int × Int)), Ext H H' → H p = none → (∀ t ∈ ts, H t = none) → p ∉ ts → ts.Nodup → out.Perm es → out.Pairwise (fun a b => SrtO.lexB b a = false) → H' p = some (.lst (ts.map V.ref)) →
    Paired (fun (t : Addr) (q : Int × Int) => H' t = some (.tup [.int q.1, .int q.2])) ts out → Q (.ref p) H'
theorem refs_out {as : List Addr} : ∀ {out : List Value}, (∀ v ∈ out, ∃ a ∈ as, v = Value.ref a) → ∃ ts : List Addr, out = ts.map Value.ref ∧ ∀ t ∈ ts, t ∈ as
  | [], _ => ⟨[], rfl, fun t h => by cases h⟩
  | v :: r, h => by
    obtain ⟨a, ha, rfl⟩ := h v List.mem_cons_self
    obtain ⟨ts, rfl, ht⟩ := refs_out fun u hu => h u (List.mem_cons_of_mem _ hu)
    refine ⟨a :: ts, rfl, fun t q => ?_⟩
    rcases List.mem_cons.mp q with rfl | q
    · exact ha
    · exact ht t q
theorem paired_of {α β : Type} {F : α → β → Prop} {f : α → β} : ∀ {xs : List α}, (∀ x ∈ xs, F x (f x)) → Paired F xs (xs.map f)
  | [], _ => .nil
  | x :: r, h => .cons (h x List.mem_cons_self) (paired_of fun y hy => h y (List.mem_cons_of_mem _ hy))
theorem pe_sortItems {e : Expr} {te : TE} {p apos cpos pos : Pos} (hc : X.calm = true) (he : PE X e te) (hg : Gl X "sorted") (hm : X.mg "sorted" = none) (hbase : attributeBase e "items" X.env (eval e X.env) = eval e X.env) (hline : (apos.endLine == cpos.line) = true) :
    PE X (.Call (.Name "sorted" p) [.Call (.Attribute e "items" apos) [] [] cpos] [] pos) (fun σ H Q => te σ H fun x H1 => rSortIt x H1 Q) := by
  refine ⟨fun pins s σ H Q I hq => ?_⟩
  refine wpAny_Call_Name_kw (ld_blt I hg hm PyProof.Rows.boot_sorted (PyProof.Rows.callWith_builtin1 ?_ rfl rfl))
  show wpAny _ _ (spliced ((false, eval (.Call (.Attribute e "items" apos) [] [] cpos) X.env) :: backTo pos (starEach [] X.env))) _ _ s
  refine Calls.spliced_cons ?_
  refine wpAny_Call_method (T := "dict") (id := "dict.items") hbase rfl hline F.plainAttrs_dict F.slot_dict_items F.type_dict_items (thn (he.run pins s σ H _ I hq) fun u s1 ⟨x, H1, I1, rx, d, es, ex, hd, q⟩ => ?_)
  subst ex
  obtain rfl : u = Value.ref d := rx
  obtain ⟨hz, hs0, vs, kv, hdo⟩ := dk_rd I1.hok hd
  obtain ⟨ep, hat⟩ := hdo.dictAt
  have lk : es.length = vs.length := by have := Paired.length kv; simpa using this
  have hz' : es.length ≤ sizeLine := by simpa using hz
  have I2 : Inv X pins σ H1 { s1 with heap := s1.heap.push { cls := .type "dict_items", data := .fields #[.ref d] } } := I1.kept (t' := s1.toks) fun b ob q => Heap.get?_push_of_some _ q
  refine ⟨hdo.typeIs, hdo.mapOf.noDict, ?_⟩
  show wpAny _ _ (callWith cpos (.builtin "dict.items") [.ref d] [] []) _ X.xe s1
  refine method_meetsIn F.slot_dict_items F.entry_dict_items rfl (PySem.evalArgs_none ⟨rfl, hdo.typeIs, F.args_dict_items_1 _, _, meets_dict_items (mixKind X.prog X.w) d hs0, ⟨vs, hdo⟩, ?_⟩)
  refine Calls.spliced_nil ?_
  refine Calls.call_function_entry kind_sorted plain_sorted entry_sorted (args_sorted1 _) ?_
  unfold Builtin.«sorted»
  refine wpAny_bind (m := checkCount "sorted" 1 1 _) (wpAny_pure (wpAny_bind (PySem.W.kdx_collect (knd := mixKind X.prog X.w) (kvs := vs) (ep := ep) (I1.ok.hd hc) ⟨_, Heap.get?_push_size _ rfl, rfl, rfl⟩ (hat.push _) (by omega) fun h' tk as hk hl hG => ?_)))
  obtain ⟨H', k1, k2, k3, k4, k5, J⟩ := tups_laid (tk := tk) I2 kv hk hl hG
  have la : as.length = es.length := by omega
  have lvs : (as.map Value.ref).length ≤ sizeLine := by rw [List.length_map]; omega
  have tup : ∀ (j : Nat) (a : Addr) (pr : Int × Int), as[j]? = some a → es[j]? = some pr → H' a = some (.tup [.int pr.1, .int pr.2]) := fun j a pr e1 e2 => by
    obtain ⟨y, f1, f2⟩ := LiI.paired_get k4 e1
    rw [List.getElem?_map, e2] at f1
    cases f1
    exact f2
  refine wpAny_bind (wpAny_newList ?_ lvs)
  have hoL : (h'.push (seqObj "list" (as.map Value.ref).toArray 0)).get? h'.objs.size = some (seqObj "list" (as.map Value.ref).toArray 0) := Heap.get?_push_size _ rfl
  refine wpAny_bind (wpAny_holding (wpAny_call_entry slot_list_sort ⟨_, hoL, rfl⟩ entry_list_sort (SrtO.list_sort_ord (s := { s1 with heap := h'.push (seqObj "list" (as.map Value.ref).toArray 0), toks := tk }) (SrtO.swo_lex (pairAt as es)) hoL lvs (fun h2 => ?_) fun out hs hb => ⟨_, rfl, ?_⟩) (args_list_sort _)))
  · refine SrtO.pairs_sortableO (by omega) (fun v hv => ?_) fun o e => ?_
    · obtain ⟨a, ha, rfl⟩ := List.mem_map.mp hv
      obtain ⟨j, hj⟩ := List.mem_iff_getElem?.mp ha
      have hjl := (List.getElem?_eq_some_iff.mp hj).1
      have he : es[j]? = some (es[j]'(by omega)) := List.getElem?_eq_getElem (by omega)
      rw [pairAt_at k3 hj he]
      obtain ⟨_, its2, r2, o, ho, hcl, n, hdd⟩ := J.hok _ _ (tup j a _ hj he)
      obtain ⟨u1, u2, rfl, ri, rj⟩ := vals2 r2
      obtain ⟨t1, rfl⟩ := ri
      obtain ⟨t2, rfl⟩ := rj
      exact ⟨a, o, t1, t2, n, rfl, Heap.get?_push_of_some _ ho, hcl, hdd⟩
    · rw [hoL] at e
      cases e
      intro c
      exact absurd (Value.type.inj c) (by decide)
  · have pm : out.Perm (as.map Value.ref) := hb.perm
    obtain ⟨ts, rfl, ht⟩ := refs_out (as := as) fun v hv => by
      obtain ⟨a, ha, e⟩ := List.mem_map.mp (pm.mem_iff.mp hv)
      exact ⟨a, ha, e.symm⟩
    have inj : ∀ {xs ys : List Addr}, (xs.map Value.ref).Perm (ys.map Value.ref) → xs.Perm ys := fun {xs ys} h => by
      have q := h.map (fun v => match v with | Value.ref a => a | _ => 0)
      rw [List.map_map, List.map_map] at q
      simpa [Function.comp_def] using q
    have pa : ts.Perm as := inj pm
    obtain ⟨c0, hc0⟩ := sortedHeap_at (vs := as.map Value.ref) (out := (ts.map Value.ref).toArray) hoL
    have nS : H' h'.objs.size = none := J.hok.fresh (Nat.le_refl _)
    have hlt : (ts.map V.ref).length ≤ sizeLine := by rw [List.length_map, pa.length_eq]; omega
    have kp : ∀ b o, h'.get? b = some o → (sortedHeap (h'.push (seqObj "list" (as.map Value.ref).toArray 0)) h'.objs.size (as.map Value.ref) (ts.map Value.ref).toArray).get? b = some o := fun b o e => by
      have lt := Heap.lt_size e
      rw [sortedHeap_old (Nat.ne_of_lt lt) (by rw [size_push']; exact Nat.lt_succ_of_lt lt)]
      exact Heap.get?_push_of_some _ e
    have J2 := J.laid (t' := tk) (o := .lst (ts.map V.ref)) kp (Nat.le_refl _) ⟨hlt, ts.map Value.ref, c0, LiI.vals_refs ts, hc0⟩
    have pS : h'.objs.size ∉ as := fun z => by
      exact Nat.lt_irrefl _ (hG.there z)
    refine wpAny_pure ⟨_, rfl, .ref h'.objs.size, _, J2, rfl, ?_⟩
    have off : ∀ b, b ≠ h'.objs.size → upd H' h'.objs.size (.lst (ts.map V.ref)) b = H' b := fun b hb => upd_ne hb
    refine q _ h'.objs.size ts (ts.map fun a => pairAt as es (.ref a)) (fun b o e => ?_) ?_ (fun t h => k2 t (ht t h)) (fun z => pS (ht _ z)) (pa.nodup_iff.mpr k3) ?_ ?_ upd_same (paired_of fun t h => ?_)
    · have e' := k1 b o e
      rw [off b fun z => by rw [z, nS] at e'; cases e']
      exact e'
    · cases z : H1 h'.objs.size with
      | none => rfl
      | some o => rw [k1 _ _ z] at nS; cases nS
    · have q2 := pa.map fun a => pairAt as es (.ref a)
      rw [pairAt_map k3 la] at q2
      exact q2
    · have hs' : (ts.map Value.ref).Pairwise fun a b => SrtO.lexB (pairAt as es b) (pairAt as es a) = false := hs
      rw [List.pairwise_map] at hs' ⊢
      exact hs'
    · obtain ⟨j, hj⟩ := List.mem_iff_getElem?.mp (ht t h)
      have hjl := (List.getElem?_eq_some_iff.mp hj).1
      have he : es[j]? = some (es[j]'(by omega)) := List.getElem?_eq_getElem (by omega)
      rw [off t fun z => pS (z ▸ ht t h), pairAt_at k3 hj he]
      exact tup j t _ hj he
end MP
/-! MP9: what calls promise, the rules of calls. -/
namespace MP
open PySem PySem.Spec PyProof.Rows L2
/-- an exception as a thing of ours -/
def ExR (c : Cv) (F H : Hp) (x : Exn) (cls : Value) (d : Option Addr) : Prop := cls = .ref (c.cl x.cls) ∧ ((x.fs = [] ∧ d = none) ∨ ∃ a vs, d = some a ∧ H a = some (.xd vs) ∧ RF c F x.fs vs)
/-- what a function of ours promises -/
def spF (c : Cv) (C : Ct) (f : Fk) : Sp := fun vs H Q E => ∃ (G : Nat → Option Addr) (Fr F : Hp) (ts : List T) (L : List Addr), SR c G Fr F H (ts.map some) (vs.map some) L ∧
  match C f ts with
  | .ok t fin => ∀ v H' F' L', Le F F' → fin.length = vs.length → SR c G Fr F' H' (fin ++ [some t]) (vs.map some ++ [some v]) L' → Q v H'
  | .ex x fin => ∀ cls d H' F' L', Le F F' → fin.length = vs.length → ExR c F' H' x cls d → SR c G Fr F' H' fin (vs.map some) L' → E cls d H'
  | .no => False
/-- what is known of a function -/
structure FnI (c : Cv) (X : Cx) (C : Ct) (k : Nat) (f : Fk) (np : Nat) (df : List D) (a : Addr) : Prop where
  ok : ∃ fd ps dvs, FnOk X.prog X.w X.K X.mg X.base (L2.CX X.prog X.w) k a fd ps (spF c C f) ∧ ps.length = np ∧ (∀ F, RL c F df dvs) ∧ ∀ j, j ≤ dvs.length → ∃ ds, Vals (dvs.drop j) ds ∧ Binds X.K fd ps ds
  kp : PySem.W.keepIn X.K (.ref a) = true
structure Sy extends Sx where
  fns : List (Fk × Nat × List D)
  exc : List Str := []
  exm : List (Str × Str × Bool) := []
/-- an own exception class over ValueError, without an __init__ -/
structure ExcC (c : Cv) (K : PySem.W.Frag) (mg : Str → Option Value) (x : Str) : Prop where
  gx : mg x = some (.ref (c.cl x))
  ex : PySem.W.excIn K (c.cl x) He.veBase "ValueError.__new__" = true
  kp : PySem.W.keepIn K (.ref (c.cl x)) = true
  sb : PySem.W.subIn K (.ref (c.cl x)) (.type "BaseException") = some true
  ty : PySem.W.typeIn K (.ref (c.cl x)) = some (.type "type")
structure Gy (c : Cv) (sy : Sy) (X : Cx) (sc : Scope) (N : List Str) (C : Ct) (W : WX) extends Gx c sy.toSx X sc N where
  k : Nat
  room : Room (k + 1) X.A
  tk : Takes X W
  exc : ∀ x ∈ sy.exc, ExcC c X.K X.mg x
  exm : ∀ p ∈ sy.exm, PySem.W.exmOne X.K (.ref (c.cl p.1)) (.ref (c.cl p.2.1)) = some p.2.2
  fns : ∀ p ∈ sy.fns, ∃ a, FnI c X C k p.1 p.2.1 p.2.2 a ∧ (p.1.1 = "" → X.mg p.1.2 = some (.ref a)) ∧
    (p.1.1 ≠ "" → Cls X.K (c.cl p.1.1) ∧ (p.1.2 = "__init__" → Mk X.K (c.cl p.1.1) a ∧ X.mg p.1.1 = some (.ref (c.cl p.1.1))) ∧ (p.1.2 ≠ "__init__" → Meth X.K (c.cl p.1.1) p.1.2 a))
variable {c : Cv} {X : Cx} {W : WX}
def noStars : List Expr → Bool
  | [] => true
  | e :: r => noStar e && noStars r
theorem stars_plain {env : Env} {pos : Pos} : ∀ {es : List Expr}, noStars es = true → (backTo pos (starEach es env)).any (·.1) = false ∧ (backTo pos (starEach es env)).all (fun x => !x.1) = true
  | [], _ => ⟨rfl, rfl⟩
  | e :: r, h => by
    have h' : (noStar e && noStars r) = true := h
    rw [Bool.and_eq_true] at h'
    obtain ⟨a, b⟩ := stars_plain (env := env) (pos := pos) h'.2
    rw [star_cons h'.1]
    unfold backTo at a b ⊢
    rw [List.map_cons, List.any_cons, List.all_cons, a, b]
    exact ⟨rfl, rfl⟩
theorem mform {o : Expr} {m : Str} {apos pos : Pos} {es : List Expr} {env : Env} (hb : baseOk o = true) (hs : noStars es = true) (hn : es.length < 30) (hl : (apos.endLine == pos.line) = true) :
    eval (.Call (.Attribute o m apos) es [] pos) env = (do
      let ov ← eval o env
      standAt apos.atName
      let (f, first) ← holding [ov] (getMethod ov m (plainOf o env))
      callWith pos f first (backTo pos (starEach es env)) (backToKw pos (keywordEach [] env))) := by
  refine mcall_of (base_of hb) fun ov => mcall_line ?_ hl
  unfold methodCallForm
  rw [(stars_plain hs).2]
  have : (backToKw pos (keywordEach [] env)) = [] := rfl
  rw [this]
  simp
  omega
section
variable {k : Nat} {f C : Addr} {fd : FuncData} {ps : List Str} {sp : Sp} {dvs : List V} {ds : List Value} {x m : Str} {p pos apos : Pos} {e o : Expr} {es : List Expr} {ta : TE} {t : TA}
/-- f(e, ..) -/
theorem pe_fn (F : FnOk X.prog X.w X.K X.mg X.base (L2.CX X.prog X.w) k f fd ps sp) (hr : Room k X.A) (hg : Gl X x) (hm : X.mg x = some (.ref f)) (hk : PySem.W.keepIn X.K (.ref f) = true) (hb : Binds X.K fd ps ds) (hd : Vals dvs ds) (tk : Takes X W)
    (ha : PA X (e :: es) t) (hs : noStars (e :: es) = true) (hdb : (x == ("__debug__" : Str)) = false) :
    PE X (.Call (.Name x p) (e :: es) [] pos) (fun σ H Q => t σ H fun vs H1 => sp (vs ++ dvs) H1 Q (WE W σ)) := by
  have h' : (noStar e && noStars es) = true := hs
  rw [Bool.and_eq_true] at h'
  refine ⟨fun pins s σ H Q I h => ?_⟩
  refine wpAny_Call_Name_kw (ld_glob I hg hm ?_ hdb)
  refine PySem.W.callWith_K (h₀ := X.base) I.ok.mod.kin hk (thn (ha.run pos pins s σ H _ I h) fun us s1 ⟨vs, H1, I1, r, q⟩ => ⟨I1.kIn, ?_⟩) (star_cons h'.1) (stars_plain h'.2).1
  exact run_fnSD (E := fun σ => WE W σ) F hr hb hd (passAt tk σ) I1 r q
theorem pe_fn0 (F : FnOk X.prog X.w X.K X.mg X.base (L2.CX X.prog X.w) k f fd ps sp) (hr : Room k X.A) (hg : Gl X x) (hm : X.mg x = some (.ref f)) (hk : PySem.W.keepIn X.K (.ref f) = true) (hb : Binds X.K fd ps ds) (hd : Vals dvs ds) (tk : Takes X W)
    (hdb : (x == ("__debug__" : Str)) = false) :
    PE X (.Call (.Name x p) [] [] pos) (fun σ H Q => sp dvs H Q (WE W σ)) := by
  refine ⟨fun pins s σ H Q I h => ?_⟩
  refine wpAny_Call_Name_kw (ld_glob I hg hm ?_ hdb)
  exact PySem.W.callWith_K0 I.kIn hk (run_fnSD (us := []) (vs := []) (E := fun σ => WE W σ) F hr hb hd (passAt tk σ) I .nil h)
/-- o.m(e, ..) -/
theorem pe_me (he : PE X o ta) (cc : Cls X.K C) (hm : Meth X.K C m f) (F : FnOk X.prog X.w X.K X.mg X.base (L2.CX X.prog X.w) k f fd ps sp) (hr : Room k X.A) (hb : Binds X.K fd ps ds) (hd : Vals dvs ds) (tk : Takes X W)
    (ha : PA X (e :: es) t) (hs : noStars (e :: es) = true) (hbo : baseOk o = true) (hn : (e :: es).length < 30) (hl : (apos.endLine == pos.line) = true) :
    PE X (.Call (.Attribute o m apos) (e :: es) [] pos) (fun σ H Q => ta σ H fun x H1 => ∃ a dx fs, x = .ref a ∧ H1 a = some (.ins C dx fs) ∧ fs.lookup m = none ∧ t σ H1 fun vs H2 => sp (x :: (vs ++ dvs)) H2 Q (WE W σ)) := by
  have h' : (noStar e && noStars es) = true := hs
  rw [Bool.and_eq_true] at h'
  refine ⟨fun pins s σ H Q I h => ?_⟩
  refine PySem.W.methodCall_KW (pl := plainOf o X.env) (thn (he.run pins s σ H _ I h) fun u s1 ⟨x, H1, I1, rx, a, dx, fs, ex, ea, l, q⟩ => ?_) (mform hbo hs hn hl)
  subst ex
  obtain rfl : u = Value.ref a := rx
  refine getmeth_ok I1 ea cc hm l ?_
  refine PySem.W.callWith_K (first := [.ref a]) (h₀ := X.base) I.ok.mod.kin hm.kp (thn (ha.run pos pins s1 σ H1 _ I1 q) fun us s2 ⟨vs, H2, I2, r, q2⟩ => ⟨I2.kIn, ?_⟩) (star_cons h'.1) (stars_plain h'.2).1
  exact run_fnSD (us := .ref a :: us) (vs := .ref a :: vs) (E := fun σ => WE W σ) F hr hb hd (passAt tk σ) I2 (.cons rfl r) q2
theorem pe_me0 (he : PE X o ta) (cc : Cls X.K C) (hm : Meth X.K C m f) (F : FnOk X.prog X.w X.K X.mg X.base (L2.CX X.prog X.w) k f fd ps sp) (hr : Room k X.A) (hb : Binds X.K fd ps ds) (hd : Vals dvs ds) (tk : Takes X W)
    (hbo : baseOk o = true) (hl : (apos.endLine == pos.line) = true) :
    PE X (.Call (.Attribute o m apos) [] [] pos) (fun σ H Q => ta σ H fun x H1 => ∃ a dx fs, x = .ref a ∧ H1 a = some (.ins C dx fs) ∧ fs.lookup m = none ∧ sp (x :: dvs) H1 Q (WE W σ)) := by
  refine ⟨fun pins s σ H Q I h => ?_⟩
  refine PySem.W.methodCall_KW (pl := plainOf o X.env) (thn (he.run pins s σ H _ I h) fun u s1 ⟨x, H1, I1, rx, a, dx, fs, ex, ea, l, q⟩ => ?_) (mform hbo rfl (by decide) hl)
  subst ex
  obtain rfl : u = Value.ref a := rx
  refine getmeth_ok I1 ea cc hm l ?_
  exact PySem.W.callWith_K0 (first := [.ref a]) I1.kIn hm.kp (run_fnSD (us := [.ref a]) (vs := [.ref a]) (E := fun σ => WE W σ) F hr hb hd (passAt tk σ) I1 (.cons rfl .nil) q)
/-- C(e, ..) -/
theorem run_mk {pins : List (Addr × Obj)} {σ : L2.St} {H : Hp} {s : Shared} {Q : VK} {us : List Value} {vs : List V} (M : Mk X.K C f) (F : FnOk X.prog X.w X.K X.mg X.base (L2.CX X.prog X.w) k f fd ps sp) (hr : Room (k + 1) X.A) (hb : Binds X.K fd ps ds) (hd : Vals dvs ds)
    (tk : Takes X W) (I : Inv X pins σ H s) (r : Vals vs us)
    (h : ∀ x dx, H x = none → H dx = none → dx ≠ x → sp (.ref x :: (vs ++ dvs)) (upd (upd H dx (.own x)) x (.ins C dx [])) (fun v H2 => v = .non ∧ Q (.ref x) H2) (WE W σ)) :
    wpAny (model X.prog X.w) X.A (call (.ref C) us) (EP X pins σ Q) X.xe s := by
  have hq := h (s.heap.objs.size + 1) s.heap.objs.size (I.hok.fresh (Nat.le_succ _)) (I.hok.fresh (Nat.le_refl _)) (Nat.ne_of_lt (Nat.lt_succ_self _))
  have I2 := Inv.made (C := C) I
  have r2 : Vals (V.ref (s.heap.objs.size + 1) :: (vs ++ dvs)) (Value.ref (s.heap.objs.size + 1) :: (us ++ ds)) := .cons rfl (r.append hd)
  have hl : (Value.ref (s.heap.objs.size + 1) :: us ++ ds).length = ps.length := by
    have e := r2.length
    rw [F.len _ _ _ _ hq] at e
    exact e.symm
  refine wpAny_call (L2.make_map (f := f) I.kIn M.makes M.init (beq_iff_eq.mp M.fn) (codeAny_mono (F.run _ X.stack _ _ ⟨Value.ref (s.heap.objs.size + 1) :: us, []⟩ (Value.ref (s.heap.objs.size + 1) :: (us ++ ds)) _ _ (WE W σ) (hr.make C us [])
    (I2.env0.make C us []) (hb _ (Value.ref (s.heap.objs.size + 1) :: us) I2.kIn hl) r2 hq) fun r s' hq' => ?_))
  cases r with
  | error e => exact passAt tk σ pins _ _ e s' I2 hq'
  | ok fl =>
    cases fl with
    | ret u =>
      obtain ⟨v, H', I3, rv, ev, q3⟩ := I2.after hq'
      subst ev
      exact ⟨rv, ⟨V.ref (s.heap.objs.size + 1), H', I3, rfl, q3⟩⟩
    | next => exact False.elim hq'
    | brk => exact False.elim hq'
    | cont => exact False.elim hq'
theorem pe_mk' (M : Mk X.K C f) (F : FnOk X.prog X.w X.K X.mg X.base (L2.CX X.prog X.w) k f fd ps sp) (hr : Room (k + 1) X.A) (hg : Gl X x) (hm : X.mg x = some (.ref C)) (hb : Binds X.K fd ps ds) (hd : Vals dvs ds) (tk : Takes X W)
    (ha : PA X (e :: es) t) (hs : noStars (e :: es) = true) (hdb : (x == ("__debug__" : Str)) = false) :
    PE X (.Call (.Name x p) (e :: es) [] pos) (fun σ H Q => t σ H fun vs H1 => ∀ x dx, H1 x = none → H1 dx = none → dx ≠ x → sp (.ref x :: (vs ++ dvs)) (upd (upd H1 dx (.own x)) x (.ins C dx [])) (fun v H2 => v = .non ∧ Q (.ref x) H2) (WE W σ)) := by
  have h' : (noStar e && noStars es) = true := hs
  rw [Bool.and_eq_true] at h'
  refine ⟨fun pins s σ H Q I h => ?_⟩
  refine wpAny_Call_Name_kw (ld_glob I hg hm ?_ hdb)
  refine PySem.W.callWith_K (h₀ := X.base) I.ok.mod.kin M.kp (thn (ha.run pos pins s σ H _ I h) fun us s1 ⟨vs, H1, I1, r, q⟩ => ⟨I1.kIn, ?_⟩) (star_cons h'.1) (stars_plain h'.2).1
  exact run_mk M F hr hb hd tk I1 r q
theorem pe_mk0 (M : Mk X.K C f) (F : FnOk X.prog X.w X.K X.mg X.base (L2.CX X.prog X.w) k f fd ps sp) (hr : Room (k + 1) X.A) (hg : Gl X x) (hm : X.mg x = some (.ref C)) (hb : Binds X.K fd ps ds) (hd : Vals dvs ds) (tk : Takes X W)
    (hdb : (x == ("__debug__" : Str)) = false) :
    PE X (.Call (.Name x p) [] [] pos) (fun σ H Q => ∀ x dx, H x = none → H dx = none → dx ≠ x → sp (.ref x :: dvs) (upd (upd H dx (.own x)) x (.ins C dx [])) (fun v H2 => v = .non ∧ Q (.ref x) H2) (WE W σ)) := by
  refine ⟨fun pins s σ H Q I h => ?_⟩
  refine wpAny_Call_Name_kw (ld_glob I hg hm ?_ hdb)
  exact PySem.W.callWith_K0 I.kIn M.kp (run_mk (us := []) (vs := []) M F hr hb hd tk I .nil h)
end
end MP
/-! MP10: expressions, case by case. -/
namespace MP
open PySem PySem.Spec PyProof.Rows L2
def tE (c : Cv) (G : Nat → Option Addr) (C : Ct) (W : WX) (e : E) : TE := fun σ H Q => ∃ (Fr F : Hp) (ρ ts : List (Option T)) (us : List (Option V)) (L : List Addr), SR c G Fr F H (ρ ++ ts) (σ ++ us) L ∧ ρ.length = σ.length ∧
  match evE C e ρ with
  | .ok t ρ' => ∀ v H' F' L', ρ'.length = ρ.length → Le F F' → SR c G Fr F' H' (ρ' ++ (ts ++ [some t])) (σ ++ (us ++ [some v])) L' → Q v H'
  | .ex x ρ' => ∀ cls d H' F' L', ρ'.length = ρ.length → Le F F' → ExR c F' H' x cls d → SR c G Fr F' H' ρ' σ L' → W cls d σ H'
  | .no => False
def tEs (c : Cv) (G : Nat → Option Addr) (C : Ct) (W : WX) (e : E) : TA := fun σ H Q => ∃ (Fr F : Hp) (ρ ts : List (Option T)) (us : List (Option V)) (L : List Addr), SR c G Fr F H (ρ ++ ts) (σ ++ us) L ∧ ρ.length = σ.length ∧
  match evEs C e ρ with
  | .ok rs ρ' => ∀ vs H' F' L', ρ'.length = ρ.length → Le F F' → BorOk e.bors vs σ → vs.length = rs.length → SR c G Fr F' H' (ρ' ++ (ts ++ rs.map some)) (σ ++ (us ++ vs.map some)) L' → Q vs H'
  | .ex x ρ' => ∀ cls d H' F' L', ρ'.length = ρ.length → Le F F' → ExR c F' H' x cls d → SR c G Fr F' H' ρ' σ L' → W cls d σ H'
  | .no => False
def tT (c : Cv) (G : Nat → Option Addr) (C : Ct) (W : WX) (e : E) : TT := fun σ H Q => ∃ (Fr F : Hp) (ρ ts : List (Option T)) (us : List (Option V)) (L : List Addr), SR c G Fr F H (ρ ++ ts) (σ ++ us) L ∧ ρ.length = σ.length ∧
  match tsE C e ρ with
  | .ok k ρ' => ∀ H' F' L', ρ'.length = ρ.length → Le F F' → SR c G Fr F' H' (ρ' ++ ts) (σ ++ us) L' → Q k H'
  | .ex x ρ' => ∀ cls d H' F' L', ρ'.length = ρ.length → Le F F' → ExR c F' H' x cls d → SR c G Fr F' H' ρ' σ L' → W cls d σ H'
  | .no => False
/-- an iterator that yields such frozen items -/
def Wk (c : Cv) (F : Hp) (J : It) (ds : List D) : Prop := ∀ (F1 H : Hp), Le F F1 → Le F1 H →
  J.stop ds.length H ∧ ∀ i d, ds[i]? = some d → J.go i H ∧ ∀ x H', J.yld i H x H' → (H' = H ∧ R c F1 d x) ∨ ∃ p o, H p = none ∧ H' = upd H p o ∧ R c (upd F1 p o) d x
def tIt (c : Cv) (G : Nat → Option Addr) (C : Ct) (W : WX) (e : E) : TI := fun σ H R => ∃ (Fr F : Hp) (ρ ts : List (Option T)) (us : List (Option V)) (L : List Addr), SR c G Fr F H (ρ ++ ts) (σ ++ us) L ∧ ρ.length = σ.length ∧
  match evI C e ρ with
  | .ok ds ρ' => ∀ J H' F' L', ρ'.length = ρ.length → Le F F' → SR c G Fr F' H' (ρ' ++ ts) (σ ++ us) L' → Wk c F' J ds → R J H'
  | .ex x ρ' => ∀ cls d H' F' L', ρ'.length = ρ.length → Le F F' → ExR c F' H' x cls d → SR c G Fr F' H' ρ' σ L' → W cls d σ H'
  | .no => False
variable {c : Cv} {sy : Sy} {X : Cx} {sc : Scope} {N : List Str} {C : Ct} {W : WX} {G : Nat → Option Addr} {Fr F F' H H' : Hp}
/-! ### states -/
theorem SR.lastV {ρ : List (Option T)} {us : List (Option V)} {t : T} {v : V} {L : List Addr} (s : SR c G Fr F H (ρ ++ [some t]) (us ++ [some v]) L) (h1 : us.length = ρ.length) : Vw c G F H t v := by
  obtain ⟨L1, L2, rfl, x, y⟩ := RSl.split h1 s.sl
  obtain ⟨u, w, M1, M2, e, q, ⟨v', e2, r⟩, _⟩ := y
  injection e with e1 _
  subst e1
  injection e2 with e2; subst e2
  exact ⟨_, r⟩
theorem frz_eq {t : T} {d : D} (h : frz t = some d) : t.free = true ∧ d = t.toD := by
  unfold frz at h
  split at h
  · rename_i q; injection h with h; exact ⟨q, h.symm⟩
  · cases h
theorem SR.frzLast {ρ : List (Option T)} {us : List (Option V)} {t : T} {v : V} {d : D} {L : List Addr} (s : SR c G Fr F H (ρ ++ [some t]) (us ++ [some v]) L) (h1 : us.length = ρ.length) (hf : frz t = some d) :
    ∃ F' L', Le F F' ∧ R c F' d v ∧ SR c G Fr F' H (ρ ++ [some (.sh d)]) (us ++ [some v]) L' := by
  obtain ⟨hf1, rfl⟩ := frz_eq hf
  have hi : (ρ ++ [some t])[ρ.length]? = some (some t) := by simp
  obtain ⟨F', L', v', le, hv, hr, s', _⟩ := s.freeze hi hf1
  have : v' = v := by
    have e : (us ++ [some v])[ρ.length]? = some (some v) := by rw [← h1]; simp
    rw [e] at hv
    simpa using hv.symm
  subst this
  refine ⟨F', L', le, hr, ?_⟩
  have e : (ρ ++ [some t]).set ρ.length (some (.sh t.toD)) = ρ ++ [some (.sh t.toD)] := by
    rw [List.set_append_right _ _ (Nat.le_refl _)]; simp
  rw [← e]
  exact s'
theorem SR.res {ρ : List (Option T)} {us : List (Option V)} {L : List Addr} {u : T} {x : V} (s : SR c G Fr F H ρ us L) (r : Res c G F H false u x H') : ∃ L', SR c G Fr F H' (ρ ++ [some u]) (us ++ [some x]) L' := by
  rcases r with ⟨x, d, rfl, h⟩ | ⟨p, o, hp, rfl, rfl, h⟩ | ⟨e, _⟩
  · exact ⟨_, (s.to x).snocF h⟩
  · exact ⟨_, s.snocN hp h⟩
  · cases e
/-- an expression evaluated and frozen -/
theorem tE.frz {e : E} {σ : L2.St} {Q : VK} {ρ ts : List (Option T)} {us : List (Option V)} {L : List Addr} (s : SR c G Fr F H (ρ ++ ts) (σ ++ us) L) (hl : ρ.length = σ.length)
    (k : match evE C e ρ with
      | .ok t ρ' => ∃ d, frz t = some d ∧ ∀ v H' F' L', ρ'.length = ρ.length → Le F F' → R c F' d v → SR c G Fr F' H' (ρ' ++ (ts ++ [some (.sh d)])) (σ ++ (us ++ [some v])) L' → Q v H'
      | .ex x ρ' => ∀ cls d H' F' L', ρ'.length = ρ.length → Le F F' → ExR c F' H' x cls d → SR c G Fr F' H' ρ' σ L' → W cls d σ H'
      | .no => False) : tE c G C W e σ H Q := by
  refine ⟨Fr, F, ρ, ts, us, L, s, hl, ?_⟩
  split
  · rename_i t ρ' he
    rw [he] at k
    obtain ⟨d, hd, k⟩ := k
    intro v H' F' L' h1 h2 s'
    have s2 : SR c G Fr F' H' (ρ' ++ ts ++ [some t]) (σ ++ us ++ [some v]) L' := by simpa using s'
    have hlen : (σ ++ us).length = (ρ' ++ ts).length := by
      have := s2.len
      simp at this ⊢
      omega
    obtain ⟨F2, L2, le, r, s3⟩ := s2.frzLast hlen hd
    exact k v H' F2 L2 h1 (h2.trans le) r (by simpa using s3)
  · rename_i x ρ' he
    rw [he] at k
    exact k
  · rename_i he
    rw [he] at k
    exact k
theorem SR.lenT {ρ ts : List (Option T)} {σ us : List (Option V)} {L : List Addr} (s : SR c G Fr F H (ρ ++ ts) (σ ++ us) L) (hl : ρ.length = σ.length) : us.length = ts.length := by
  have := s.len
  simp at this
  omega
/-! ### cases -/
theorem s_p (g : Gy c sy X sc N C W) {q : P} {e : Expr} (h : chkP sy.toSx sc N q e = true) : PE X e (tE c G C W (.p q)) := by
  refine (chkP_ok G g.toGx h).weaken fun σ H Q ⟨Fr, F, ρ, ts, us, L, s, hl, k⟩ => ?_
  simp only [evE] at k
  split at k
  · rename_i t ρ' he
    split at he
    · rename_i d hd
      injection he with he1 he2
      subst he1 he2
      refine ⟨Fr, F, ρ, ts, us, L, s, hl, _, hd, fun v H' x vw => ?_⟩
      have z := (s.to x).snocF vw.sh
      exact k v H' F _ rfl .refl (by simpa using z)
    · cases he
  · rename_i x ρ' he
    split at he <;> cases he
  · exact k.elim
theorem frE_core {a : E} {σ : L2.St} {H : Hp} {Q : VK} (h : tE c G C W (.frE a) σ H Q) : tE c G C W a σ H Q := by
  obtain ⟨Fr, F, ρ, ts, us, L, s, hl, k⟩ := h
  simp only [evE] at k
  refine tE.frz s hl ?_
  cases he : evE C a ρ with
  | no => rw [he] at k; exact k
  | ex x ρ' => rw [he] at k; exact k
  | ok t ρ' =>
    rw [he] at k
    dsimp only at k ⊢
    cases hf : frz t with
    | none => rw [hf] at k; exact k.elim
    | some d =>
      rw [hf] at k
      exact ⟨d, rfl, fun v H' F' L' h1 le rv s' => k v H' F' L' h1 le s'⟩
theorem s_frE {a : E} {e : Expr} (ha : PE X e (tE c G C W a)) : PE X e (tE c G C W (.frE a)) := ha.weaken fun σ H Q h => frE_core h
theorem sub1_any (g : Gx c sy.toSx X sc N) {o : Op1} {e a : Expr} (h : sub1 sy.toSx sc o e = some a) : ∃ r, Rule1 X e a r := by
  unfold sub1 at h
  split at h
  · cases h; exact ⟨_, fun ta ha => pe_un un_neg ha⟩
  · split at h
    · rename_i z; cases h; obtain ⟨rfl, hb, hs⟩ := z; exact ⟨_, rule_callB call_len_str (bltB_ok g hb) boot_len hs⟩
    · cases h
  · split at h
    · rename_i z; cases h; obtain ⟨rfl, hb, hs⟩ := z; exact ⟨_, rule_callTy call_str_int (bltB_ok g hb) (by decide +kernel) hs⟩
    · cases h
  · split at h
    · rename_i z; cases h; obtain ⟨rfl, hb, hs⟩ := z; exact ⟨_, rule_callTy call_tuple_of (bltB_ok g hb) (by decide +kernel) hs⟩
    · cases h
  · split at h
    · rename_i z; cases h; obtain ⟨rfl, hb, hs⟩ := z; exact ⟨_, rule_callTy call_list_of (bltB_ok g hb) (by decide +kernel) hs⟩
    · cases h
  · split at h
    · rename_i z; cases h; obtain ⟨rfl, hb, hs⟩ := z; exact ⟨_, rule_callB (cr_all g.calm) (bltB_ok g hb) (by decide +kernel) hs⟩
    · cases h
  · split at h
    · rename_i z; cases h; obtain ⟨rfl, hb, hs⟩ := z; exact ⟨_, rule_callB (cr_any g.calm) (bltB_ok g hb) (by decide +kernel) hs⟩
    · cases h
  · cases h; exact ⟨fun v H Q => Q (.bl (decide (v = .non))) H, fun ta ha => pe_cmp (pc_isN ha) rfl⟩
  · cases h; exact ⟨fun v H Q => Q (.bl (!decide (v = .non))) H, fun ta ha => pe_cmp (pc_notN ha) rfl⟩
  · split at h
    · rename_i z; cases h; obtain ⟨rfl, hb, hs, ht⟩ := z; exact isinst_any (fun y hy => bltB_ok g hy) (bltB_ok g hb) hs ht
    · cases h
  · split at h
    · rename_i z; cases h; obtain ⟨rfl, hb, hs⟩ := z; exact ⟨_, rule_callTy call_dictD (bltB_ok g hb) (by decide +kernel) hs⟩
    · cases h
  · split at h
    · rename_i z; cases h; obtain ⟨rfl, hb, hs⟩ := z; exact ⟨_, rule_callB cr_sortedI (bltB_ok g hb) (by decide +kernel) hs⟩
    · cases h
  · split at h
    · rename_i z; cases h; obtain ⟨rfl, hb, hs⟩ := z; exact ⟨_, rule_callTy (call_dictP g.calm) (bltB_ok g hb) (by decide +kernel) hs⟩
    · cases h
  · split at h
    · rename_i z; cases h; obtain ⟨rfl, rfl, hb, hb2, hs⟩ := z; exact ⟨_, sortSet_rule g.calm (bltB_ok g hb) (bltB_ok g hb2) hs⟩
    · cases h
  · split at h
    · rename_i z; cases h; obtain ⟨rfl, rfl, hb, hb2, hs⟩ := z; exact ⟨_, lenSet_rule g.calm (bltB_ok g hb) (bltB_ok g hb2) hs⟩
    · cases h
  · split at h
    · rename_i z
      cases h
      obtain ⟨rfl, rfl, h1, h2, h3, h4, h5, h6⟩ := z
      obtain ⟨k, rfl, pd, sd⟩ := dfB_ok (X := X) h6
      exact ⟨_, tab_get (g.tab _ (tabB_ok h5)) (glB_ok g h1) (by simpa using h2) h3 sd h4 pd⟩
    · cases h
  · split at h
    · rename_i z; cases h; subst z; exact ⟨fun x H1 Q => ∃ a xs, x = .ref a ∧ SqL X.K H1 a xs ∧ ∀ p, H1 p = none → Q (.ref p) (upd H1 p (.lst xs.reverse)), fun ta ha => pe_revL ha⟩
    · cases h
  · cases h
theorem sub2_any (g : Gx c sy.toSx X sc N) {o : Op2} {e a b : Expr} (h : sub2 o e = some (a, b)) : ∃ r, (∀ ta tb, PE X a ta → PE X b tb → PE X e (tOpO none r ta tb)) ∨ (o = .join ∧ ∀ ta tb, PE X a ta → PE X b tb → PE X e (tOpO (some fun x H => ∃ a, x = .str a) r ta tb)) := by
  unfold sub2 at h
  split at h
  · split at h
    · rename_i z
      cases h
      cases o <;> simp only [binOf, Option.some.injEq, reduceCtorEq] at z <;> subst z
      · exact ⟨_, .inl fun ta tb ha hb => pe_op op_add ha hb⟩
      · exact ⟨_, .inl fun ta tb ha hb => pe_op op_sub ha hb⟩
      · exact ⟨_, .inl fun ta tb ha hb => pe_op op_mul ha hb⟩
      · exact ⟨_, .inl fun ta tb ha hb => pe_op op_fdiv ha hb⟩
      · exact ⟨_, .inl fun ta tb ha hb => pe_op op_mod ha hb⟩
      · exact ⟨_, .inl fun ta tb ha hb => pe_op op_pow ha hb⟩
    · cases h
  · split at h
    · rename_i z
      obtain ⟨z, hs⟩ := z
      cases h
      cases o <;> simp only [cmpOf, Option.some.injEq, reduceCtorEq] at z <;> subst z
      · exact ⟨_, .inl fun ta tb ha hb => pe_cmpR op_eq ha hb (noMarks hs)⟩
      · exact ⟨_, .inl fun ta tb ha hb => pe_cmpR op_ne ha hb (noMarks hs)⟩
      · exact ⟨_, .inl fun ta tb ha hb => pe_cmpR op_lt ha hb (noMarks hs)⟩
      · exact ⟨_, .inl fun ta tb ha hb => pe_cmpR op_le ha hb (noMarks hs)⟩
      · exact ⟨_, .inl fun ta tb ha hb => pe_cmpR op_gt ha hb (noMarks hs)⟩
      · exact ⟨_, .inl fun ta tb ha hb => pe_cmpR op_ge ha hb (noMarks hs)⟩
      · exact ⟨_, .inl fun ta tb ha hb => pe_cmpR op_in_seq ha hb (noMarks hs)⟩
      · exact ⟨_, .inl fun ta tb ha hb => pe_cmpR op_notIn_seq ha hb (noMarks hs)⟩
    · cases h
  · split at h
    · split at h
      · rename_i hs
        cases h
        exact ⟨_, .inl fun ta tb ha hb => pe_ix ix_str ha hb (plainIx_of hs)⟩
      · cases h
    · split at h
      · cases h; exact ⟨fun x y H Q => ∃ i, y = .int i ∧ rSlS x (some i) none H Q, .inl fun ta tb ha hb => pe_slice sl_str ha (po_some hb) po_none⟩
      · cases h
    · split at h
      · cases h; exact ⟨fun x y H Q => ∃ i, y = .int i ∧ rSlS x none (some i) H Q, .inl fun ta tb ha hb => pe_slice sl_str ha po_none (po_some hb)⟩
      · cases h
    · cases h
  · split at h
    · split at h
      · rename_i z
        cases h
        obtain ⟨rfl, h1, h2, h3⟩ := z
        exact ⟨_, .inr ⟨rfl, fun ta tb ha hb => pe_join ha hb (star_cons h2) (base_of h1) h3⟩⟩
      · cases h
    · cases h
  · cases h
theorem s_o1 (g : Gy c sy X sc N C W) {o : Op1} {a : E} {e e1 : Expr} (hs : sub1 sy.toSx sc o e = some e1) (ha : PE X e1 (tE c G C W a)) : PE X e (tE c G C W (.o1 o a)) := by
  refine ⟨fun pins s0 σ H Q I ⟨Fr, F, ρ, ts, us, L, s, hl, k⟩ => ?_⟩
  simp only [evE] at k
  cases he : evE C a ρ with
  | no => rw [he] at k; exact k.elim
  | ex x ρ' =>
    rw [he] at k
    obtain ⟨r, rl⟩ := sub1_any g.toGx hs
    refine (rl _ ha).run pins s0 σ H Q I ⟨Fr, F, ρ, ts, us, L, s, hl, ?_⟩
    rw [he]
    exact k
  | ok t ρ' =>
    rw [he] at k
    dsimp only at k
    cases hf : frz t with
    | none => rw [hf] at k; exact k.elim
    | some d =>
      rw [hf] at k
      dsimp only at k
      cases hu : ev1 o (.sh d) with
      | none => rw [hu] at k; exact k.elim
      | some u =>
        rw [hu] at k
        dsimp only at k
        obtain ⟨r, rl, ok⟩ := sub1_ok g.toGx hs hu
        refine (rl _ ha).run pins s0 σ H Q I ?_
        refine tE.frz s hl ?_
        rw [he]
        refine ⟨d, hf, fun v H' F' L' h1 le rv s' => ?_⟩
        refine ok G F' H' v Q s'.le (Vw.of rv) fun x H2 res => ?_
        have s2 : SR c G Fr F' H' ((ρ' ++ ts) ++ [some (.sh d)]) ((σ ++ us) ++ [some v]) L' := by simpa using s'
        obtain ⟨L2, s3, _⟩ := s2.cut (by have := s.lenT hl; simp; omega)
        obtain ⟨L3, s4⟩ := s3.res res
        exact k x H2 F' L3 h1 le (by simpa using s4)
theorem s_o2 (g : Gy c sy X sc N C W) {o : Op2} {a b : E} {e e1 e2 : Expr} (hs : sub2 o e = some (e1, e2)) (ha : PE X e1 (tE c G C W a)) (hb : PE X e2 (tE c G C W b)) (hj : o ≠ .join ∨ ∃ q, a = .p (.lit (.str q))) : PE X e (tE c G C W (.o2 o a b)) := by
  refine ⟨fun pins s0 σ H Q I ⟨Fr, F, ρ, ts, us, L, s, hl, k⟩ => ?_⟩
  simp only [evE] at k
  cases he : evE C a ρ with
  | no => rw [he] at k; exact k.elim
  | ex x ρ' =>
    rw [he] at k
    obtain ⟨r, rl | ⟨hj2, rl⟩⟩ := sub2_any g.toGx hs
    · refine (rl _ _ ha hb).run pins s0 σ H Q I ⟨Fr, F, ρ, ts, us, L, s, hl, ?_⟩
      rw [he]
      exact k
    · rcases hj with hj | ⟨q, rfl⟩
      · exact absurd hj2 hj
      · simp only [evE, evP] at he; cases he
  | ok t ρ' =>
    rw [he] at k
    dsimp only at k
    cases he2 : evE C b ρ' with
    | no => rw [he2] at k; exact k.elim
    | ex x ρ2 =>
      rw [he2] at k
      dsimp only at k
      have main : ∀ (R : V → V → Hp → Prop) v H' F' L', ρ'.length = ρ.length → Le F F' → SR c G Fr F' H' (ρ' ++ (ts ++ [some t])) (σ ++ (us ++ [some v])) L' → tE c G C W b σ H' fun y H2 => R v y H2 := fun R v H' F' L' h1 le s' => by
        refine ⟨Fr, F', ρ', _, _, L', s', by omega, ?_⟩
        rw [he2]
        exact fun cls d H3 F3 L3 h3 le3 xr s3 => k cls d H3 F3 L3 (by omega) (le.trans le3) xr s3
      obtain ⟨r, rl | ⟨hj2, rl⟩⟩ := sub2_any g.toGx hs
      · refine (rl _ _ ha hb).run pins s0 σ H Q I ⟨Fr, F, ρ, ts, us, L, s, hl, ?_⟩
        rw [he]
        exact fun v H' F' L' h1 le s' => main (fun v y H2 => r v y H2 Q) v H' F' L' h1 le s'
      · rcases hj with hj | ⟨q, rfl⟩
        · exact absurd hj2 hj
        · refine (rl _ _ ha hb).run pins s0 σ H Q I ⟨Fr, F, ρ, ts, us, L, s, hl, ?_⟩
          rw [he]
          intro v H' F' L' h1 le s'
          refine ⟨?_, main (fun v y H2 => r v y H2 Q) v H' F' L' h1 le s'⟩
          simp only [evE, evP] at he
          injection he with he3 he4
          subst he3
          have s2 : SR c G Fr F' H' ((ρ' ++ ts) ++ [some (.sh (.str q))]) ((σ ++ us) ++ [some v]) L' := by simpa using s'
          exact ⟨q, (s2.lastV (by have := s.lenT hl; simp; omega)).str⟩
    | ok t2 ρ2 =>
      rw [he2] at k
      dsimp only at k
      cases hf : frz t with
      | none => rw [hf] at k; exact k.elim
      | some d =>
        cases hf2 : frz t2 with
        | none => rw [hf, hf2] at k; exact k.elim
        | some d2 =>
          rw [hf, hf2] at k
          dsimp only at k
          cases hu : ev2 o (.sh d) (.sh d2) with
          | none => rw [hu] at k; exact k.elim
          | some u =>
            rw [hu] at k
            dsimp only at k
            obtain ⟨pre, r, rl, hp, ok⟩ := sub2_ok g.toGx hs hu
            refine (rl _ _ ha hb).run pins s0 σ H Q I ?_
            have main : ∀ v H' F' L', ρ'.length = ρ.length → Le F F' → R c F' d v → SR c G Fr F' H' (ρ' ++ (ts ++ [some (.sh d)])) (σ ++ (us ++ [some v])) L' → tE c G C W b σ H' fun y H2 => r v y H2 Q := fun v H' F' L' h1 le rv s' => by
              refine tE.frz s' (by omega) ?_
              rw [he2]
              refine ⟨d2, hf2, fun w H2 F2 L2 h2 le2 rw2 s2 => ?_⟩
              refine ok G F2 H2 v w Q s2.le (Vw.of (rv.mono le2)) (Vw.of rw2) fun x H3 res => ?_
              have s3 : SR c G Fr F2 H2 ((ρ2 ++ ts) ++ [some (.sh d), some (.sh d2)]) ((σ ++ us) ++ [some v, some w]) L2 := by simpa using s2
              obtain ⟨L3, s4, _⟩ := s3.cut (by have := s.lenT hl; simp; omega)
              obtain ⟨L4, s5⟩ := s4.res res
              exact k x H3 F2 L4 (by omega) (le.trans le2) (by simpa using s5)
            cases pre with
            | none =>
              refine tE.frz s hl ?_
              rw [he]
              exact ⟨d, hf, main⟩
            | some p =>
              refine tE.frz s hl ?_
              rw [he]
              exact ⟨d, hf, fun v H' F' L' h1 le rv s' => ⟨hp p rfl G F' H' v s'.le (Vw.of rv), main v H' F' L' h1 le rv s'⟩⟩
end MP
/-! MP11: more expressions. -/
namespace MP
open PySem PySem.Spec PyProof.Rows L2
variable {c : Cv} {sy : Sy} {X : Cx} {sc : Scope} {N : List Str} {C : Ct} {W : WX} {G : Nat → Option Addr} {Fr F F' H H' : Hp}
def nameB (sc : Scope) (N : List Str) (i : Nat) (y : Str) : Bool := decide (N[i]? = some y) && visB sc y && (y != "__debug__") && (y != "__classdict__")
theorem pe_slot (g : Gx c sy.toSx X sc N) {i : Nat} {y : Str} {pos : Pos} (h : nameB sc N i y = true) : PE X (.Name y pos) (tVar i) := by
  unfold nameB at h
  simp only [Bool.and_eq_true, decide_eq_true_eq] at h
  obtain ⟨⟨⟨h1, h2⟩, h3⟩, h4⟩ := h
  exact pe_var (i := i) (by rw [g.nn]; exact h1) (by rw [g.scp]; exact visB_ok h2) (by simpa using h3) (by simpa using h4)
theorem set_app {α : Type} {A B : List α} {i : Nat} {x : α} (h : i < A.length) : (A ++ B).set i x = A.set i x ++ B := List.set_append_left _ _ h
theorem s_fz (g : Gy c sy X sc N C W) {i : Nat} {y : Str} {pos : Pos} (h : nameB sc N i y = true) : PE X (.Name y pos) (tE c G C W (.fz i)) := by
  refine (pe_slot g.toGx h).weaken fun σ H Q ⟨Fr, F, ρ, ts, us, L, s, hl, k⟩ => ?_
  simp only [evE] at k
  cases hs : slot ρ i with
  | none => rw [hs] at k; exact k.elim
  | some t =>
    rw [hs] at k
    dsimp only at k
    cases hf : frz t with
    | none => rw [hf] at k; exact k.elim
    | some d =>
      rw [hf] at k
      dsimp only at k
      obtain ⟨hf1, rfl⟩ := frz_eq hf
      obtain ⟨e1, e2⟩ := slot_app (ts := ts) hs
      obtain ⟨F', L', v, le, hv, hr, s', _⟩ := s.freeze e1 hf1
      rw [List.getElem?_append_left (by omega)] at hv
      rw [set_app e2] at s'
      have z := s'.snocF hr
      exact ⟨v, hv, k v H F' _ (by simp) le (by simpa using z)⟩
theorem s_mv (g : Gy c sy X sc N C W) {i : Nat} {y : Str} {pos : Pos} (h : nameB sc N i y = true) : PE X (.Name y pos) (tE c G C W (.mv i)) := by
  refine (pe_slot g.toGx h).weaken fun σ H Q ⟨Fr, F, ρ, ts, us, L, s, hl, k⟩ => ?_
  simp only [evE] at k
  cases hs : slot ρ i with
  | none => rw [hs] at k; exact k.elim
  | some t =>
    rw [hs] at k
    dsimp only at k
    obtain ⟨e1, e2⟩ := slot_app (ts := ts) hs
    obtain ⟨L', v, hv, s'⟩ := s.moveOut e1
    rw [List.getElem?_append_left (by omega)] at hv
    rw [set_app e2] at s'
    exact ⟨v, hv, k v H F _ (by simp) .refl (by simpa using s')⟩
/-- a borrowed argument: which value it bears -/
theorem s_bor (g : Gy c sy X sc N C W) {i : Nat} {y : Str} {pos : Pos} (h : nameB sc N i y = true) : PE X (.Name y pos) (fun σ H Q => ∃ (Fr F : Hp) (ρ ts : List (Option T)) (us : List (Option V)) (L : List Addr), SR c G Fr F H (ρ ++ ts) (σ ++ us) L ∧ ρ.length = σ.length ∧
  ∃ t, slot ρ i = some t ∧ ∀ v L', σ[i]? = some (some v) → SR c G Fr F H (ρ.set i none ++ (ts ++ [some t])) (σ ++ (us ++ [some v])) L' → Q v H) := by
  refine (pe_slot g.toGx h).weaken fun σ H Q ⟨Fr, F, ρ, ts, us, L, s, hl, t, hs, k⟩ => ?_
  obtain ⟨e1, e2⟩ := slot_app (ts := ts) hs
  obtain ⟨L', v, hv, s'⟩ := s.moveOut e1
  rw [List.getElem?_append_left (by omega)] at hv
  rw [set_app e2] at s'
  exact ⟨v, hv, k v _ hv (by simpa using s')⟩
theorem sub3_any (g : Gx c sy.toSx X sc N) {o : Op3} {e a b d : Expr} (h : sub3 o e = some (a, b, d)) {ta tb td : TE} (ha : PE X a ta) (hb : PE X b tb) (hd : PE X d td) : ∃ t, PE X e t ∧ ∀ σ H Q, (∀ Q', ta σ H Q') → t σ H Q := by
  unfold sub3 at h
  split at h
  · cases h
    exact ⟨tOp3O none true (fun x y z H Q => ∃ j, z = .int j ∧ (match y with | .int i => rSlS x (some i) (some j) H Q | _ => False)) ta tb td, ⟨fun pins s σ H Q I h => (pe_slice sl_str ha (po_some hb) (po_some hd)).run pins s σ H Q I h⟩, fun σ H Q h => h _⟩
  · split at h
    · rename_i z
      cases h
      obtain ⟨rfl, h1, h2, h3, h4⟩ := z
      exact ⟨_, get_rule (by have := g.units; omega) h1 h2 h3 h4 ta tb td ha hb hd, fun σ H Q h => h _⟩
    · cases h
  · cases h
/-- where the middle operand is a pure number the slice is asked by a pure rule -/
theorem s_o3 (g : Gy c sy X sc N C W) {o : Op3} {a : E} {b d : P} {e e1 e2 e3 : Expr} (hs : sub3 o e = some (e1, e2, e3)) (ha : PE X e1 (tE c G C W a)) (hb : chkP sy.toSx sc N b e2 = true) (hd : chkP sy.toSx sc N d e3 = true) :
    PE X e (tE c G C W (.o3 o a (.p b) (.p d))) := by
  refine ⟨fun pins s0 σ H Q I ⟨Fr, F, ρ, ts, us, L, s, hl, k⟩ => ?_⟩
  simp only [evE] at k
  cases he : evE C a ρ with
  | no => rw [he] at k; exact k.elim
  | ex x ρ' =>
    rw [he] at k
    obtain ⟨t3, pe, im⟩ := sub3_any g.toGx hs ha (chkP_ok G g.toGx hb) (chkP_ok G g.toGx hd)
    refine pe.run pins s0 σ H Q I (im σ H Q fun Q' => ⟨Fr, F, ρ, ts, us, L, s, hl, ?_⟩)
    rw [he]
    exact k
  | ok t ρ' =>
    rw [he] at k
    dsimp only at k
    cases hb1 : evP ρ' b with
    | none => rw [hb1] at k; exact k.elim
    | some tb =>
      cases tb with
      | sh db =>
        rw [hb1] at k
        dsimp only at k
        cases hd1 : evP ρ' d with
        | none => rw [hd1] at k; exact k.elim
        | some td =>
          cases td with
          | sh dd =>
            rw [hd1] at k
            dsimp only at k
            cases hf : frz t with
            | none => rw [hf] at k; exact k.elim
            | some dt =>
              rw [hf] at k
              simp only [frz, T.free, T.toD, if_pos] at k
              cases hu : ev3 o (.sh dt) (.sh db) (.sh dd) with
              | none => rw [hu] at k; exact k.elim
              | some u =>
                rw [hu] at k
                dsimp only at k
                obtain ⟨pre, mid, r, rl, hp, hm, ok⟩ := sub3_ok g.toGx hs hu
                refine (rl _ _ _ ha (chkP_ok G g.toGx hb) (chkP_ok G g.toGx hd)).run pins s0 σ H Q I ?_
                have last : ∀ v w H1 H2 F' L', ρ'.length = ρ.length → Le F F' → R c F' dt v → SR c G Fr F' H1 (ρ' ++ (ts ++ [some (.sh dt)])) (σ ++ (us ++ [some v])) L' → Ext H1 H2 → R c F' db w → tP c G d σ H2 fun y H3 => r v w y H3 Q := fun v w H1 H2 F' L' h1 le rv s' x1 rw' =>
                  ⟨Fr, F', ρ', _, _, L', s'.to x1, by omega, _, hd1, fun z H3 x3 rz => ok G F' H3 v w z Q ((x1.trans x3).le s'.le) (Vw.of rv) (Vw.of rw') rz fun x H4 res => by
                    have s2 : SR c G Fr F' H3 ((ρ' ++ ts) ++ [some (.sh dt)]) ((σ ++ us) ++ [some v]) L' := by simpa using s'.to (x1.trans x3)
                    obtain ⟨L2, s3, _⟩ := s2.cut (by have := s.lenT hl; simp; omega)
                    obtain ⟨L3, s4⟩ := s3.res res
                    exact k x H4 F' L3 h1 le (by simpa using s4)⟩
                have main : ∀ v H1 F' L', ρ'.length = ρ.length → Le F F' → R c F' dt v → SR c G Fr F' H1 (ρ' ++ (ts ++ [some (.sh dt)])) (σ ++ (us ++ [some v])) L' → tP c G b σ H1 fun y H2 => midO mid y fun y => tP c G d σ H2 fun z H3 => r v y z H3 Q := fun v H1 F' L' h1 le rv s' =>
                  ⟨Fr, F', ρ', _, _, L', s', by omega, _, hb1, fun w H2 x2 rw' => by
                    cases mid with
                    | false => exact last v w H1 H2 F' L' h1 le rv s' x2 rw'.sh
                    | true =>
                      obtain ⟨i, hi⟩ := hm rfl
                      have ei : db = .int i := by injection hi
                      subst ei
                      have := rw'.int
                      subst this
                      exact ⟨i, rfl, last v _ H1 H2 F' L' h1 le rv s' x2 rw'.sh⟩⟩
                cases pre with
                | none => cases mid <;> exact tE.frz s hl (by rw [he]; exact ⟨dt, hf, main⟩)
                | some p => cases mid <;> exact tE.frz s hl (by rw [he]; exact ⟨dt, hf, fun v H1 F' L' h1 le rv s' => ⟨hp p rfl G F' H1 v s'.le (Vw.of rv), main v H1 F' L' h1 le rv s'⟩⟩)
          | _ => rw [hd1] at k; exact k.elim
      | _ => rw [hb1] at k; exact k.elim
theorem s_k2 (g : Gy c sy X sc N C W) {o : Op2} {a : E} {b : P} {e e1 e2 : Expr} (hs : sub2 o e = some (e1, e2)) (ho : o ≠ .join) (ha : PE X e1 (tE c G C W a)) (hb : chkP sy.toSx sc N b e2 = true) : PE X e (tE c G C W (.k2 o a b)) := by
  refine ⟨fun pins s0 σ H Q I ⟨Fr, F, ρ, ts, us, L, s, hl, k⟩ => ?_⟩
  simp only [evE] at k
  cases he : evE C a ρ with
  | no => rw [he] at k; exact k.elim
  | ex x ρ' =>
    rw [he] at k
    obtain ⟨r, rl | ⟨hj2, rl⟩⟩ := sub2_any g.toGx hs
    · refine (rl _ _ ha (chkP_ok G g.toGx hb)).run pins s0 σ H Q I ⟨Fr, F, ρ, ts, us, L, s, hl, ?_⟩
      rw [he]
      exact k
    · exact absurd hj2 ho
  | ok t ρ' =>
    rw [he] at k
    dsimp only at k
    cases hf : frz t with
    | none => rw [hf] at k; exact k.elim
    | some d =>
      cases hb1 : evP ρ' b with
      | none => rw [hf, hb1] at k; exact k.elim
      | some tb =>
        rw [hf, hb1] at k
        dsimp only at k
        cases hu : ev2 o (.sh d) tb with
        | none => rw [hu] at k; exact k.elim
        | some u =>
          rw [hu] at k
          cases u with
          | sh du =>
            dsimp only at k
            obtain ⟨pre, r, rl, hp, ok⟩ := sub2_ok g.toGx hs hu
            refine (rl _ _ ha (chkP_ok G g.toGx hb)).run pins s0 σ H Q I ?_
            have main : ∀ v H1 F' L', ρ'.length = ρ.length → Le F F' → R c F' d v → SR c G Fr F' H1 (ρ' ++ (ts ++ [some (.sh d)])) (σ ++ (us ++ [some v])) L' → tP c G b σ H1 fun y H2 => r v y H2 Q := fun v H1 F' L' h1 le rv s' =>
              ⟨Fr, F', ρ', _, _, L', s', by omega, _, hb1, fun w H2 x2 rw' => ok G F' H2 v w Q (x2.le s'.le) (Vw.of rv) rw' fun x H3 res => by
                have s2 : SR c G Fr F' H3 ((ρ' ++ ts) ++ [some (.sh d)]) ((σ ++ us) ++ [some v]) L' := by simpa using s'.to (x2.trans res.ext)
                obtain ⟨L2, s3, _⟩ := s2.cut (by have := s.lenT hl; simp; omega)
                have s4 := s3.snocF res.vw.sh
                exact k x H3 F' _ h1 le (by simpa using s4)⟩
            cases pre with
            | none => exact tE.frz s hl (by rw [he]; exact ⟨d, hf, main⟩)
            | some p => exact tE.frz s hl (by rw [he]; exact ⟨d, hf, fun v H1 F' L' h1 le rv s' => ⟨hp p rfl G F' H1 v s'.le (Vw.of rv), main v H1 F' L' h1 le rv s'⟩⟩)
          | _ => exact k.elim
/-! ### lists of expressions, displays -/
theorem s_nil : PA X [] (tEs c G C W .nil) := by
  refine ⟨fun pos pins s0 σ H Q I ⟨Fr, F, ρ, ts, us, L, s, hl, k⟩ => pa_nil.run pos pins s0 σ H Q I ?_⟩
  simp only [evEs] at k
  exact k [] H F L (by simp) .refl (by unfold E.bors; trivial) (by simp) (by simpa using s)
theorem _root_.L2.PA.weaken {es : List Expr} {t t' : TA} (h : PA X es t) (w : ∀ σ H Q, t' σ H Q → t σ H Q) : PA X es t' := ⟨fun pos pins s σ H Q I hw => h.run pos pins s σ H Q I (w σ H Q hw)⟩
theorem BorOk.none {bs : List (Option Nat)} {v : V} {vs : List V} {us : List (Option V)} (h : BorOk bs vs us) : BorOk (Option.none :: bs) (v :: vs) us := h
theorem s_cons (g : Gy c sy X sc N C W) {a b : E} {e : Expr} {es : List Expr} (ha : PE X e (tE c G C W a)) (hs : noStar e = true) (hb : PA X es (tEs c G C W b)) (hn : ∀ i, a ≠ .bor i) : PA X (e :: es) (tEs c G C W (.cons a b)) := by
  refine (pa_cons ha hb (star_cons hs)).weaken fun σ H Q ⟨Fr, F, ρ, ts, us, L, s, hl, k⟩ => ?_
  refine ⟨Fr, F, ρ, ts, us, L, s, hl, ?_⟩
  have hb1 : a.bor1 = none := by cases a <;> first | rfl | exact absurd rfl (hn _)
  simp only [evEs, hb1] at k
  cases he : evE C a ρ with
  | no => rw [he] at k; exact k
  | ex x ρ' => rw [he] at k; exact k
  | ok t ρ' =>
    rw [he] at k
    dsimp only at k ⊢
    intro v H' F' L' h1 le s'
    refine ⟨Fr, F', ρ', _, _, L', s', by omega, ?_⟩
    cases he2 : evEs C b ρ' with
    | no => rw [he2] at k; exact k
    | ex x ρ2 =>
      rw [he2] at k
      exact fun cls d H3 F3 L3 h3 le3 xr s3 => k cls d H3 F3 L3 (by omega) (le.trans le3) xr s3
    | ok rs ρ2 =>
      rw [he2] at k
      dsimp only at k ⊢
      intro vs H2 F2 L2 h2 le2 bo lv s2
      refine k (v :: vs) H2 F2 L2 (by omega) (le.trans le2) ?_ (by simp [lv]) (by simpa using s2)
      have e : (E.cons a b).bors = Option.none :: b.bors := by
        cases a <;> first | rfl | exact absurd rfl (hn _)
      rw [e]
      exact bo.none
theorem s_consB (g : Gy c sy X sc N C W) {i : Nat} {y : Str} {pos : Pos} {b : E} {es : List Expr} (h : nameB sc N i y = true) (hb : PA X es (tEs c G C W b)) : PA X (.Name y pos :: es) (tEs c G C W (.cons (.bor i) b)) := by
  refine (pa_cons (pe_slot g.toGx h) hb rfl).weaken fun σ H Q ⟨Fr, F, ρ, ts, us, L, s, hl, k⟩ => ?_
  simp only [evEs, E.bor1] at k
  cases hs : slot ρ i with
  | none => rw [hs] at k; exact k.elim
  | some t =>
    rw [hs] at k
    dsimp only at k
    obtain ⟨e1, e2⟩ := slot_app (ts := ts) hs
    obtain ⟨_, v, hv, _⟩ := s.moveOut e1
    rw [List.getElem?_append_left (by omega)] at hv
    refine ⟨v, hv, Fr, F, ρ, ts, us, L, s, hl, ?_⟩
    cases he2 : evEs C b ρ with
    | no => rw [he2] at k; exact k
    | ex x ρ2 => rw [he2] at k; exact k
    | ok rs ρ2 =>
      rw [he2] at k
      dsimp only at k ⊢
      intro vs H2 F2 L2 h2 le2 bo lv s2
      cases hs2 : slot ρ2 i with
      | none => rw [hs2] at k; exact k.elim
      | some t2 =>
        rw [hs2] at k
        dsimp only at k
        have e3 : ρ2[i]? = some (some t2) := by simpa using (slot_app (ts := []) hs2).1
        obtain ⟨v2, L3, hv2, s3⟩ := s2.moveMid (by omega) (s.lenT hl) e3
        rw [hv] at hv2
        have e4 : v = v2 := by simpa using hv2
        subst e4
        exact k (v :: vs) H2 F2 L3 (by simpa using h2) le2 ⟨hv, bo⟩ (by simp [lv]) (by simpa using s3)
theorem RSl.toROL : ∀ {rs : List T} {vs : List V} {L : List Addr}, vs.length = rs.length → RSl c G F H (rs.map some) (vs.map some) L → ROL c G F H rs vs L
  | [], [], L, _, h => by
    simp only [ROL]
    exact ⟨trivial, h.2⟩
  | t :: rs, v :: vs, L, hl, ⟨u, w, L1, L2, e, q, ⟨v', e2, r⟩, y⟩ => by
    rw [List.map_cons] at e
    injection e with e1 e3
    subst e3
    rw [← e1] at e2
    injection e2 with e2; subst e2
    simp only [ROL]
    exact ⟨v, vs, L1, L2, rfl, q, r, RSl.toROL (by simpa using hl) y⟩
  | [], _ :: _, _, h, _ => by cases h
  | _ :: _, [], _, h, _ => by cases h
/-- what lies behind is put into a new object -/
theorem SR.pack {ρ : List (Option T)} {us : List (Option V)} {rs : List T} {vs : List V} {L : List Addr} {p : Addr} {o : HO} {t : T} (s : SR c G Fr F H (ρ ++ rs.map some) (us ++ vs.map some) L) (h1 : us.length = ρ.length) (hv : vs.length = rs.length) (hp : H p = none)
    (r : ∀ L1, ROL c G F (upd H p o) rs vs L1 → RO c G F (upd H p o) t (.ref p) (p :: L1)) : ∃ L', SR c G Fr F (upd H p o) (ρ ++ [some t]) (us ++ [some (.ref p)]) L' := by
  have s2 := s.alloc (o := o) hp
  obtain ⟨L1, L2, rfl, x, y⟩ := RSl.split h1 s2.sl
  have z := r L2 (y.toROL hv)
  have pn : p ∉ L1 ++ L2 := fun h => by
    obtain ⟨o', e, _⟩ := s.sl.mem p h
    rw [hp] at e; cases e
  have Fp : F p = none := by
    cases e : F p with
    | none => rfl
    | some o' => rcases s.le p o' e with e | ⟨_, _, e⟩ <;> (rw [hp] at e; cases e)
  have Frp : Fr p = none := by
    cases e : Fr p with
    | none => rfl
    | some o' => have := s.fr p o' e; rw [hp] at this; cases this
  refine ⟨L1 ++ (p :: L2), ⟨x.app ⟨some (.ref p), [], p :: L2, [], rfl, by simp, ⟨_, rfl, z⟩, rfl, rfl⟩, ?_, fun a ha => ?_, s2.le, s2.fr, s2.gf, s2.ff⟩⟩
  · have nd := s.nd
    rw [List.nodup_append] at nd ⊢
    refine ⟨nd.1, List.nodup_cons.mpr ⟨fun h => pn (List.mem_append_right _ h), nd.2.1⟩, fun a ha b hb e => ?_⟩
    rcases List.mem_cons.mp hb with rfl | hb
    · exact pn (List.mem_append_left _ (e ▸ ha))
    · exact nd.2.2 a ha b hb e
  · rcases List.mem_append.mp ha with ha | ha
    · exact s.ap a (List.mem_append_left _ ha)
    · rcases List.mem_cons.mp ha with rfl | ha
      · exact ⟨Fp, Frp⟩
      · exact s.ap a (List.mem_append_right _ ha)
theorem s_tup {es : E} {xs : List Expr} {k0 : Nat} {pos : Pos} (h : PA X xs (tEs c G C W es)) : PE X (.Tuple xs k0 pos) (tE c G C W (.tup es)) := by
  refine (pe_tup h).weaken fun σ H Q ⟨Fr, F, ρ, ts, us, L, s, hl, k⟩ => ?_
  refine ⟨Fr, F, ρ, ts, us, L, s, hl, ?_⟩
  simp only [evE] at k
  cases he : evEs C es ρ with
  | no => rw [he] at k; exact k
  | ex x ρ' => rw [he] at k; exact k
  | ok rs ρ' =>
    rw [he] at k
    dsimp only at k ⊢
    intro vs H' F' L' h1 le _ lv s'
    by_cases hz : rs.length ≤ sizeLine
    · rw [if_pos hz] at k
      refine ⟨by omega, fun p hp => ?_⟩
      have s2 : SR c G Fr F' H' ((ρ' ++ ts) ++ rs.map some) ((σ ++ us) ++ vs.map some) L' := by simpa using s'
      obtain ⟨L2, s3⟩ := s2.pack (t := .tup rs) (o := .tup vs) (by have := s.lenT hl; simp; omega) lv hp fun L1 r => by simp only [RO]; exact ⟨p, vs, L1, rfl, upd_same, r, rfl⟩
      exact k _ _ F' L2 h1 le (by simpa using s3)
    · rw [if_neg hz] at k; exact k.elim
theorem s_lst {es : E} {xs : List Expr} {pos : Pos} (h : PA X xs (tEs c G C W es)) : PE X (.List xs pos) (tE c G C W (.lst es)) := by
  refine (pe_lst h).weaken fun σ H Q ⟨Fr, F, ρ, ts, us, L, s, hl, k⟩ => ?_
  refine ⟨Fr, F, ρ, ts, us, L, s, hl, ?_⟩
  simp only [evE] at k
  cases he : evEs C es ρ with
  | no => rw [he] at k; exact k
  | ex x ρ' => rw [he] at k; exact k
  | ok rs ρ' =>
    rw [he] at k
    dsimp only at k ⊢
    intro vs H' F' L' h1 le _ lv s'
    by_cases hz : rs.length ≤ sizeLine
    · rw [if_pos hz] at k
      refine ⟨by omega, fun p hp => ?_⟩
      have s2 : SR c G Fr F' H' ((ρ' ++ ts) ++ rs.map some) ((σ ++ us) ++ vs.map some) L' := by simpa using s'
      obtain ⟨L2, s3⟩ := s2.pack (t := .lst rs) (o := .lst vs) (by have := s.lenT hl; simp; omega) lv hp fun L1 r => by simp only [RO]; exact ⟨p, vs, L1, rfl, upd_same, r, rfl⟩
      exact k _ _ F' L2 h1 le (by simpa using s3)
    · rw [if_neg hz] at k; exact k.elim
theorem lit_pe0 {X' : Cx} {d : D} {e : Expr} (h : litB d e = true) : ∃ v, PE X' e (tC v) ∧ ∀ F, R c F d v := by
  unfold litB at h
  split at h
  · exact ⟨_, pe_non, fun F => by simp only [R]⟩
  · rename_i b k _ _
    have : b = k := by simpa using h
    subst this
    exact ⟨_, pe_bl, fun F => by simp only [R]⟩
  · have := of_decide_eq_true h; subst this
    exact ⟨_, pe_int, fun F => by simp only [R]⟩
  · have := of_decide_eq_true h; subst this
    exact ⟨_, pe_str, fun F => by simp only [R]⟩
  · cases h
def litKs : List (Key × D) → List (Option Expr) → List Expr → Bool
  | [], [], [] => true
  | (k, d) :: r, some e :: es, x :: xs => litB (keyD k) e && litB d x && litKs r es xs
  | _, _, _ => false
theorem litKs_ok {pos : Pos} : ∀ {kvs : List (Key × D)} {es : List (Option Expr)} {xs : List Expr}, litKs kvs es xs = true → ∃ vv : List (Key × V), PPs X pos es xs (vv.map fun p => (tC (kV p.1), tC p.2)) ∧ (∀ F, RK c F kvs vv) ∧ vv.map (·.1) = kvs.map (·.1) ∧ es.all (·.isSome) = true ∧ es.length = xs.length ∧ es.length = kvs.length
  | [], [], [], _ => ⟨[], pps_nil, fun F => by simp only [RK], rfl, rfl, rfl, rfl⟩
  | (k, d) :: r, some e :: es, x :: xs, h => by
    simp only [litKs, Bool.and_eq_true] at h
    obtain ⟨⟨h1, h2⟩, h3⟩ := h
    obtain ⟨u, p1, r1⟩ := lit_pe0 (c := c) (X' := X) h1
    obtain ⟨v, p2, r2⟩ := lit_pe0 (c := c) (X' := X) h2
    obtain ⟨vv, p3, r3, e1, e2, e3, e4⟩ := litKs_ok h3
    have hu : u = kV k := by
      have := r1 fun _ => none
      cases k <;> simp only [keyD, R] at this <;> exact this
    subst hu
    refine ⟨(k, v) :: vv, pps_cons p1 p2 p3, fun F => by simp only [RK]; exact ⟨v, vv, rfl, r2 F, r3 F⟩, by simp [e1], by simpa using e2, by simp [e3], by simp [e4]⟩
  | [], [], _ :: _, h => by cases h
  | [], _ :: _, _, h => by cases h
  | _ :: _, [], _, h => by cases h
  | _ :: _, none :: _, _, h => by cases h
  | _ :: _, some _ :: _, [], h => by cases h
theorem tPairs_con {σ : L2.St} {H : Hp} : ∀ {vv : List (Key × V)} {Q : List (V × V) → Hp → Prop}, Q (vv.map fun p => (kV p.1, p.2)) H → tPairs (vv.map fun p => (tC (kV p.1), tC p.2)) σ H Q
  | [], _, h => h
  | p :: r, Q, h => by
    show tPairs (r.map fun p => (tC (kV p.1), tC p.2)) σ H fun ps H3 => Q ((kV p.1, p.2) :: ps) H3
    exact tPairs_con h
theorem s_dlit {kvs : List (Key × D)} {es : List (Option Expr)} {xs : List Expr} {pos : Pos} (h : litKs kvs es xs = true) : PE X (.Dict es xs pos) (tE c G C W (.dlit kvs)) := by
  obtain ⟨vv, pp, hr, e1, e2, e3, e4⟩ := litKs_ok (c := c) (X := X) (pos := pos) h
  by_cases hz : kvs ≠ [] ∧ kvs.length ≤ 15 ∧ (kvs.map (·.1)).Nodup
  · have h0 : es ≠ [] := fun e => by
      rw [e] at e4
      exact hz.1 (List.length_eq_zero_iff.mp e4.symm)
    refine (pe_disp pp e2 e3 h0 (by rw [e4]; exact hz.2.1)).weaken fun σ H Q ⟨Fr, F, ρ, ts, us, L, s, hl, k⟩ => fun p hp => tPairs_con ?_
    have lv : vv.length = kvs.length := by have := congrArg List.length e1; simpa using this
    refine ⟨upd_same, vv, rfl, by rw [lv]; exact hz.2.1, ?_⟩
    have em : mergeK [] vv = vv := by
      have := mergeK_new (acc := []) (more := vv) (by simpa [e1] using hz.2.2)
      simpa using this
    have eu : upd (upd H p (.dK [])) p (.dK (mergeK [] vv)) = upd H p (.dK vv) := by
      rw [em]
      funext b
      by_cases hb : b = p
      · subst hb; rw [upd_same, upd_same]
      · rw [upd_ne hb, upd_ne hb, upd_ne hb]
    rw [eu]
    simp only [evE, if_pos hz] at k
    have s3 := s.snocN (t := .dK (kvs.map fun p => (p.1, .sh p.2))) (o := .dK vv) hp (by simp only [RO]; exact ⟨p, vv, [], rfl, upd_same, ROK.ofRK (hr F), rfl⟩)
    exact k _ _ F _ (by simp) .refl (by simpa using s3)
  · have none : ∀ {σ H Q}, tE c G C W (.dlit kvs) σ H Q → False := fun ⟨Fr, F, ρ, ts, us, L, s, hl, k⟩ => by
      simp only [evE, if_neg hz] at k
    exact ⟨fun pins s σ H Q I h => (none h).elim⟩
theorem sortE_uniq {es out : List (Int × Int)} (h1 : out.Perm es) (h2 : out.Pairwise fun a b => SrtO.lexB b a = false) : out = sortE es := by
  have le : ∀ a b : Int × Int, leE a b = true ↔ SrtO.lexB b a = false := fun a b => by
    unfold leE SrtO.lexB
    rw [Bool.not_eq_true']
  have p : (sortE es).Pairwise (fun a b => leE a b = true) := List.pairwise_mergeSort (le := leE) (fun a b c h1 h2 => by
    rw [le, SrtO.lexB_no] at *
    omega) (fun a b => by
    rw [Bool.or_eq_true, le, le, SrtO.lexB_no, SrtO.lexB_no]
    omega) es
  have q : out.Pairwise (fun a b => leE a b = true) := h2.imp fun {a b} h => (le a b).mpr h
  refine List.Perm.eq_of_pairwise (le := fun a b => leE a b = true) (fun a b _ _ h1 h2 => ?_) q p (h1.trans (List.mergeSort_perm es leE).symm)
  rw [le, SrtO.lexB_no] at h1 h2
  exact Prod.ext (by omega) (by omega)
theorem intsK_eq {F : Hp} : ∀ {ds : List (Key × D)} {vs : List (Key × V)} {es : List (Int × Int)}, RK c F ds vs → intsK ds = some es → vs = es.map fun p => (Sum.inl p.1, V.int p.2)
  | [], vs, es, h, e => by
    simp only [RK] at h
    simp only [intsK, Option.some.injEq] at e
    subst h e
    rfl
  | (k, d) :: r, vs, es, h, e => by
    simp only [RK] at h
    obtain ⟨v, w, rfl, x, y⟩ := h
    unfold intsK at e
    split at e
    · rename_i h; cases h
    · rename_i i j r' heq
      injection heq with e1 e2
      injection e1 with e3 e4
      subst e2 e3 e4
      obtain ⟨es', h1, rfl⟩ := Option.map_eq_some_iff.mp e
      have := intsK_eq y h1
      subst this
      simp only [R] at x
      subst x
      rfl
    · cases e
theorem pairs_ROL {G : Nat → Option Addr} {F H : Hp} : ∀ {ts : List Addr} {out : List (Int × Int)}, Paired (fun (t : Addr) (q : Int × Int) => H t = some (.tup [.int q.1, .int q.2])) ts out → ROL c G F H (out.map pairT) (ts.map V.ref) ts
  | [], [], _ => by simp only [List.map_nil, ROL]; exact ⟨trivial, trivial⟩
  | t :: ts, q :: out, .cons h r => by
    simp only [List.map_cons, ROL]
    refine ⟨.ref t, _, [t], ts, rfl, rfl, ?_, pairs_ROL r⟩
    unfold pairT
    simp only [RO]
    exact ⟨t, _, [], rfl, h, by simp only [ROL, RO, R]; exact ⟨_, _, [], [], rfl, rfl, ⟨rfl, rfl⟩, _, _, [], [], rfl, rfl, ⟨rfl, rfl⟩, rfl, rfl⟩, rfl⟩
theorem s_sortIt (g : Gx c sy.toSx X sc N) {a : P} {e : Expr} {p apos cpos pos : Pos} (hb : bltB sy.toSx sc "sorted" = true) (h1 : baseOk e = true) (h2 : (apos.endLine == cpos.line) = true) (h3 : chkP sy.toSx sc N a e = true) :
    PE X (.Call (.Name "sorted" p) [.Call (.Attribute e "items" apos) [] [] cpos] [] pos) (tE c G C W (.sortIt a)) := by
  have b := bltB_ok g hb
  refine (pe_sortItems g.calm (chkP_ok G g h3) b.1 b.2 (base_of h1) h2).weaken fun σ H Q ⟨Fr, F, ρ, ts, us, L, s, hl, k⟩ => ?_
  simp only [evE] at k
  cases ht : evP ρ a with
  | none => rw [ht] at k; exact k.elim
  | some t =>
    rw [ht] at k
    dsimp only at k
    cases hk : asK t with
    | none => rw [hk] at k; exact k.elim
    | some ks =>
      rw [hk] at k
      dsimp only at k
      cases hd : allK ks with
      | none => rw [hd] at k; exact k.elim
      | some ds =>
        rw [hd] at k
        dsimp only at k
        cases he : intsK ds with
        | none => rw [he] at k; exact k.elim
        | some es =>
          rw [he] at k
          dsimp only at k
          refine ⟨Fr, F, ρ, ts, us, L, s, hl, t, ht, fun v H1 x vw => ?_⟩
          have s1 := s.to x
          obtain ⟨d, vs, e1, e2, e3⟩ := vw.dk s1.le hk
          have := intsK_eq (e3.allK hd) he
          subst this
          refine ⟨d, es, e1, e2, fun H' q tt out x2 hq ht2 hqn nd pm pw hl2 pr => ?_⟩
          have := sortE_uniq pm pw
          subst this
          have s3 := s1.snocX (t := .lst ((sortE es).map pairT)) (v := .ref q) (Lt := q :: tt) x2 (fun b hb => by
            rcases List.mem_cons.mp hb with rfl | hb
            · exact hq
            · exact ht2 b hb) (List.nodup_cons.mpr ⟨hqn, nd⟩) (by
            simp only [RO]
            exact ⟨q, _, tt, rfl, hl2, pairs_ROL pr, rfl⟩)
          exact k _ _ F _ (by simp) .refl (by simpa using s3)
theorem s_dnew {pos : Pos} : PE X (.Dict [] [] pos) (tE c G C W .dnew) := by
  refine pe_dnewK.weaken fun σ H Q ⟨Fr, F, ρ, ts, us, L, s, hl, k⟩ => fun p hp => ?_
  simp only [evE] at k
  have s3 := s.snocN (t := .dK []) (o := .dK []) hp (by simp only [RO]; exact ⟨p, [], [], rfl, upd_same, by simp only [ROK]; exact ⟨trivial, trivial⟩, rfl⟩)
  exact k _ _ F _ (by simp) .refl (by simpa using s3)
end MP
/-! MP12: truth values, chains, calls. -/
namespace MP
open PySem PySem.Spec PyProof.Rows L2
variable {c : Cv} {sy : Sy} {X : Cx} {sc : Scope} {N : List Str} {C : Ct} {W : WX} {G : Nat → Option Addr} {Fr F F' H H' : Hp}
theorem SR.dropLast {ρ ts : List (Option T)} {σ us : List (Option V)} {o : Option T} {u : Option V} {L : List Addr} (s : SR c G Fr F H (ρ ++ (ts ++ [o])) (σ ++ (us ++ [u])) L) (h : (σ ++ us).length = (ρ ++ ts).length) : ∃ L', SR c G Fr F H (ρ ++ ts) (σ ++ us) L' := by
  have s2 : SR c G Fr F H ((ρ ++ ts) ++ [o]) ((σ ++ us) ++ [u]) L := by simpa using s
  obtain ⟨L2, s3, _⟩ := s2.cut h
  exact ⟨L2, s3⟩
theorem SR.lastV' {ρ ts : List (Option T)} {σ us : List (Option V)} {t : T} {v : V} {L : List Addr} (s : SR c G Fr F H (ρ ++ (ts ++ [some t])) (σ ++ (us ++ [some v])) L) (h : (σ ++ us).length = (ρ ++ ts).length) : Vw c G F H t v := by
  have s2 : SR c G Fr F H ((ρ ++ ts) ++ [some t]) ((σ ++ us) ++ [some v]) L := by simpa using s
  exact s2.lastV h
theorem SR.eqLen {ρ ρ' ts : List (Option T)} {σ us : List (Option V)} {L : List Addr} (s : SR c G Fr F H (ρ ++ ts) (σ ++ us) L) (hl : ρ.length = σ.length) (h1 : ρ'.length = ρ.length) : (σ ++ us).length = (ρ' ++ ts).length := by
  have := s.lenT hl
  simp
  omega
theorem s_and {a b : E} {x y : Expr} {r : List Expr} {pos : Pos} (ha : PE X x (tE c G C W a)) (hb : PE X (.BoolOp .And (y :: r) pos) (tE c G C W b)) : PE X (.BoolOp .And (x :: y :: r) pos) (tE c G C W (.and a b)) := by
  refine (pe_and ha hb).weaken fun σ H Q ⟨Fr, F, ρ, ts, us, L, s, hl, k⟩ => ?_
  refine ⟨Fr, F, ρ, ts, us, L, s, hl, ?_⟩
  simp only [evE] at k
  cases he : evE C a ρ with
  | no => rw [he] at k; exact k
  | ex x ρ' => rw [he] at k; exact k
  | ok t ρ' =>
    rw [he] at k
    dsimp only at k ⊢
    intro v H' F' L' h1 le s'
    have hL := s.eqLen hl h1
    split at k
    · rename_i t2 ρ2 e2
      split at e2
      · rename_i r1 e3
        cases e3
        have := (s'.lastV' hL).bl
        subst this
        obtain ⟨L2, s2⟩ := s'.dropLast hL
        refine ⟨true, rfl, ?_⟩
        rw [if_pos rfl]
        refine ⟨Fr, F', _, ts, us, L2, s2, by omega, ?_⟩
        rw [e2]
        exact fun v H3 F3 L3 h3 le3 s3 => k v H3 F3 L3 (by omega) (le.trans le3) s3
      · rename_i r1 e3
        cases e3
        cases e2
        have := (s'.lastV' hL).bl
        subst this
        exact ⟨false, rfl, k _ H' F' L' h1 le s'⟩
      · rename_i e3; cases e3
      · cases e2
    · rename_i x ρ2 e2
      split at e2
      · rename_i r1 e3
        cases e3
        have := (s'.lastV' hL).bl
        subst this
        obtain ⟨L2, s2⟩ := s'.dropLast hL
        refine ⟨true, rfl, ?_⟩
        rw [if_pos rfl]
        refine ⟨Fr, F', _, ts, us, L2, s2, by omega, ?_⟩
        rw [e2]
        exact fun cls d H3 F3 L3 h3 le3 xr s3 => k cls d H3 F3 L3 (by omega) (le.trans le3) xr s3
      · cases e2
      · rename_i e3; cases e3
      · cases e2
    · exact k.elim
theorem s_or {a b : E} {x y : Expr} {r : List Expr} {pos : Pos} (ha : PE X x (tE c G C W a)) (hb : PE X (.BoolOp .Or (y :: r) pos) (tE c G C W b)) : PE X (.BoolOp .Or (x :: y :: r) pos) (tE c G C W (.or a b)) := by
  refine (pe_or ha hb).weaken fun σ H Q ⟨Fr, F, ρ, ts, us, L, s, hl, k⟩ => ?_
  refine ⟨Fr, F, ρ, ts, us, L, s, hl, ?_⟩
  simp only [evE] at k
  cases he : evE C a ρ with
  | no => rw [he] at k; exact k
  | ex x ρ' => rw [he] at k; exact k
  | ok t ρ' =>
    rw [he] at k
    dsimp only at k ⊢
    intro v H' F' L' h1 le s'
    have hL := s.eqLen hl h1
    split at k
    · rename_i t2 ρ2 e2
      split at e2
      · rename_i r1 e3
        cases e3
        have := (s'.lastV' hL).bl
        subst this
        obtain ⟨L2, s2⟩ := s'.dropLast hL
        refine ⟨false, rfl, ?_⟩
        rw [if_neg (by simp)]
        refine ⟨Fr, F', _, ts, us, L2, s2, by omega, ?_⟩
        rw [e2]
        exact fun v H3 F3 L3 h3 le3 s3 => k v H3 F3 L3 (by omega) (le.trans le3) s3
      · rename_i r1 e3
        cases e3
        cases e2
        have := (s'.lastV' hL).bl
        subst this
        exact ⟨true, rfl, k _ H' F' L' h1 le s'⟩
      · rename_i e3; cases e3
      · cases e2
    · rename_i x ρ2 e2
      split at e2
      · rename_i r1 e3
        cases e3
        have := (s'.lastV' hL).bl
        subst this
        obtain ⟨L2, s2⟩ := s'.dropLast hL
        refine ⟨false, rfl, ?_⟩
        rw [if_neg (by simp)]
        refine ⟨Fr, F', _, ts, us, L2, s2, by omega, ?_⟩
        rw [e2]
        exact fun cls d H3 F3 L3 h3 le3 xr s3 => k cls d H3 F3 L3 (by omega) (le.trans le3) xr s3
      · cases e2
      · rename_i e3; cases e3
      · cases e2
    · exact k.elim
theorem s_not {a : E} {x : Expr} {pos : Pos} (ha : PE X x (tE c G C W a)) : PE X (.UnaryOp .Not x pos) (tE c G C W (.not a)) := by
  refine (pe_not ha).weaken fun σ H Q ⟨Fr, F, ρ, ts, us, L, s, hl, k⟩ => ?_
  refine ⟨Fr, F, ρ, ts, us, L, s, hl, ?_⟩
  simp only [evE] at k
  cases he : evE C a ρ with
  | no => rw [he] at k; exact k
  | ex x ρ' => rw [he] at k; exact k
  | ok t ρ' =>
    rw [he] at k
    dsimp only at k ⊢
    intro v H' F' L' h1 le s'
    have hL := s.eqLen hl h1
    split at k
    · rename_i t2 ρ2 e2
      split at e2
      · rename_i q r1 e3
        cases e3
        cases e2
        have := (s'.lastV' hL).bl
        subst this
        obtain ⟨L2, s2⟩ := s'.dropLast hL
        have z := s2.snocF (d := .bl (!q)) (v := .bl (!q)) (by simp only [R])
        exact ⟨q, rfl, k _ H' F' _ h1 le (by simpa [tB] using z)⟩
      · rename_i e3; cases e3
      · cases e2
    · rename_i x ρ2 e2
      split at e2
      · cases e2
      · rename_i e3; cases e3
      · cases e2
    · exact k.elim
theorem s_ife {t a b : E} {x y z : Expr} {pos : Pos} (ht : PT X x (tT c G C W t)) (ha : PE X y (tE c G C W a)) (hb : PE X z (tE c G C W b)) : PE X (.IfExp x y z pos) (tE c G C W (.ife t a b)) := by
  refine (pe_ifExp ht ha hb).weaken fun σ H Q ⟨Fr, F, ρ, ts, us, L, s, hl, k⟩ => ?_
  refine ⟨Fr, F, ρ, ts, us, L, s, hl, ?_⟩
  simp only [evE] at k
  cases he : tsE C t ρ with
  | no => rw [he] at k; exact k
  | ex x ρ' => rw [he] at k; exact k
  | ok q ρ' =>
    rw [he] at k
    dsimp only at k ⊢
    intro H' F' L' h1 le s'
    cases q with
    | true =>
      rw [if_pos rfl]
      refine ⟨Fr, F', ρ', ts, us, L', s', by omega, ?_⟩
      dsimp only at k
      split
      · rename_i t2 r2 e2
        rw [e2] at k
        exact fun v H3 F3 L3 h3 le3 s3 => k v H3 F3 L3 (by omega) (le.trans le3) s3
      · rename_i t2 r2 e2
        rw [e2] at k
        exact fun cls d H3 F3 L3 h3 le3 xr s3 => k cls d H3 F3 L3 (by omega) (le.trans le3) xr s3
      · rename_i e2
        rw [e2] at k
        exact k
    | false =>
      rw [if_neg (by simp)]
      refine ⟨Fr, F', ρ', ts, us, L', s', by omega, ?_⟩
      dsimp only at k
      split
      · rename_i t2 r2 e2
        rw [e2] at k
        exact fun v H3 F3 L3 h3 le3 s3 => k v H3 F3 L3 (by omega) (le.trans le3) s3
      · rename_i t2 r2 e2
        rw [e2] at k
        exact fun cls d H3 F3 L3 h3 le3 xr s3 => k cls d H3 F3 L3 (by omega) (le.trans le3) xr s3
      · rename_i e2
        rw [e2] at k
        exact k
/-! ### chains -/
theorem cmp_T (g : Gx c sy.toSx X sc N) {o : Op2} {op : CmpOp} {s t u : T} (z : cmpOf o = some op) (hu : ev2 o s t = some u) : OpT X c (compareOp op) s t u := by
  cases o <;> simp only [cmpOf, Option.some.injEq, reduceCtorEq] at z <;> subst z
  · exact eq_ok g.kk g.units hu
  · exact ne_ok g.kk g.units hu
  · exact lt_ok hu
  · exact le_ok hu
  · exact gt_ok hu
  · exact ge_ok hu
  · exact in_ok g.kk (hu1 g) hu
  · exact nin_ok g.kk (hu1 g) hu
theorem cmp_any {o : Op2} {op : CmpOp} (z : cmpOf o = some op) : ∃ r, OpR X (compareOp op) r := by
  cases o <;> simp only [cmpOf, Option.some.injEq, reduceCtorEq] at z <;> subst z
  · exact ⟨_, op_eq⟩
  · exact ⟨_, op_ne⟩
  · exact ⟨_, op_lt⟩
  · exact ⟨_, op_le⟩
  · exact ⟨_, op_gt⟩
  · exact ⟨_, op_ge⟩
  · exact ⟨_, op_in_seq⟩
  · exact ⟨_, op_notIn_seq⟩
/-- a chain, as a value and as a test -/
theorem chain_core (g : Gy c sy X sc N C W) {o o' : Op2} {op op' : CmpOp} {a b d : P} {x y z : Expr} (ho : cmpOf o = some op) (ho' : cmpOf o' = some op')
    (ha : chkP sy.toSx sc N a x = true) (hb : chkP sy.toSx sc N b y = true) (hd : chkP sy.toSx sc N d z = true) {σ : L2.St} {H : Hp} {K : Bool → Hp → Prop} {ρ ts : List (Option T)} {us : List (Option V)} {L : List Addr}
    (s : SR c G Fr F H (ρ ++ ts) (σ ++ us) L) (hl : ρ.length = σ.length) {k : Bool} (he : evE C (.chain o o' a b d) ρ = .ok (tB k) ρ) (q : ∀ H', Ext H H' → K k H') :
    ∃ r r' ta tb td, OpR X (compareOp op) r ∧ OpR X (compareOp op') r' ∧ PE X x ta ∧ PE X y tb ∧ PE X z td ∧ tChain r r' ta tb td σ H fun v H' => ∃ k, v = .bl k ∧ K k H' := by
  simp only [evE] at he
  split at he
  · rename_i s1 t1 e1 e2
    split at he
    · rename_i e3
      split at he
      · rename_i u1 e4
        split at he
        · rename_i k1 e5
          injection he with he1 _
          have hk : k1 = k := by simpa [tB] using he1
          subst hk
          obtain ⟨r, h1, h2⟩ := cmp_T g.toGx ho e3
          obtain ⟨r', h1', h2'⟩ := cmp_T g.toGx ho' e5
          refine ⟨r, r', _, _, _, h1, h1', chkP_ok G g.toGx ha, chkP_ok G g.toGx hb, chkP_ok G g.toGx hd, ?_⟩
          refine ⟨Fr, F, ρ, ts, us, L, s, hl, _, e1, fun v1 H1 x1 w1 => ?_⟩
          refine ⟨Fr, F, ρ, ts, us, L, s.to x1, hl, _, e2, fun v2 H2 x2 w2 => ?_⟩
          refine h2 G F H2 v1 v2 _ ((x1.trans x2).le s.le) (w1.to x2 (s.to x1).gs) w2 fun v3 H3 res => ?_
          have := res.vw.bl
          subst this
          refine ⟨true, rfl, ?_⟩
          rw [if_pos rfl]
          have x3 := (x1.trans x2).trans res.ext
          refine ⟨Fr, F, ρ, ts, us, L, s.to x3, hl, _, e4, fun v4 H4 x4 w4 => ?_⟩
          refine h2' G F H4 v2 v4 _ ((x3.trans x4).le s.le) (w2.to (res.ext.trans x4) (s.to (x1.trans x2)).gs) w4 fun v5 H5 res5 => ?_
          exact ⟨k1, res5.vw.bl, q H5 ((x3.trans x4).trans res5.ext)⟩
        · cases he
      · cases he
    · rename_i e3
      injection he with he1 _
      have hk : false = k := by simpa [tB] using he1
      subst hk
      obtain ⟨r, h1, h2⟩ := cmp_T g.toGx ho e3
      obtain ⟨r', h1'⟩ := cmp_any (X := X) ho'
      refine ⟨r, r', _, _, _, h1, h1', chkP_ok G g.toGx ha, chkP_ok G g.toGx hb, chkP_ok G g.toGx hd, ?_⟩
      refine ⟨Fr, F, ρ, ts, us, L, s, hl, _, e1, fun v1 H1 x1 w1 => ?_⟩
      refine ⟨Fr, F, ρ, ts, us, L, s.to x1, hl, _, e2, fun v2 H2 x2 w2 => ?_⟩
      refine h2 G F H2 v1 v2 _ ((x1.trans x2).le s.le) (w1.to x2 (s.to x1).gs) w2 fun v3 H3 res => ?_
      have := res.vw.bl
      subst this
      refine ⟨false, rfl, ?_⟩
      rw [if_neg (by simp)]
      exact ⟨false, rfl, q H3 ((x1.trans x2).trans res.ext)⟩
    · cases he
  · cases he
theorem chain_out {o o' : Op2} {a b d : P} {ρ : Env1} : (∃ k, evE C (.chain o o' a b d) ρ = .ok (tB k) ρ) ∨ evE C (.chain o o' a b d) ρ = .no := by
  simp only [evE]
  split
  · split
    · split
      · split
        · exact .inl ⟨_, rfl⟩
        · exact .inr rfl
      · exact .inr rfl
    · exact .inl ⟨_, rfl⟩
    · exact .inr rfl
  · exact .inr rfl
theorem s_chain (g : Gy c sy X sc N C W) {o o' : Op2} {op op' : CmpOp} {a b d : P} {x y z : Expr} {pos : Pos} (ho : cmpOf o = some op) (ho' : cmpOf o' = some op') (hz : noSet z = true)
    (ha : chkP sy.toSx sc N a x = true) (hb : chkP sy.toSx sc N b y = true) (hd : chkP sy.toSx sc N d z = true) : PE X (.Compare x [op, op'] [y, z] pos) (tE c G C W (.chain o o' a b d)) := by
  refine ⟨fun pins s0 σ H Q I ⟨Fr, F, ρ, ts, us, L, s, hl, k⟩ => ?_⟩
  rcases chain_out (C := C) (o := o) (o' := o') (a := a) (b := b) (d := d) (ρ := ρ) with ⟨q, he⟩ | he
  · rw [he] at k
    obtain ⟨r, r', ta, tb, td, h1, h2, h3, h4, h5, h6⟩ := chain_core g ho ho' ha hb hd s hl (K := fun k H' => Q (.bl k) H') he fun H' x => by
      have z := (s.to x).snocF (d := .bl q) (v := .bl q) (by simp only [R])
      exact k _ H' F _ rfl .refl (by simpa [tB] using z)
    refine thn ((pe_chain (pos := pos) h1 h2 h3 h4 h5 (noMarks hz)).run pins s0 σ H _ I h6) fun v s1 ⟨v', H1, I1, rv, k, e, q⟩ => ?_
    subst e
    exact ⟨_, H1, I1, rv, q⟩
  · rw [he] at k; exact k.elim
theorem s_chainT (g : Gy c sy X sc N C W) {o o' : Op2} {op op' : CmpOp} {a b d : P} {x y z : Expr} {pos : Pos} (ho : cmpOf o = some op) (ho' : cmpOf o' = some op') (hz : noSet z = true)
    (ha : chkP sy.toSx sc N a x = true) (hb : chkP sy.toSx sc N b y = true) (hd : chkP sy.toSx sc N d z = true) : PT X (.Compare x [op, op'] [y, z] pos) (tT c G C W (.chain o o' a b d)) := by
  refine ⟨fun pins s0 σ H Q I ⟨Fr, F, ρ, ts, us, L, s, hl, k⟩ => ?_⟩
  simp only [tsE] at k
  rcases chain_out (C := C) (o := o) (o' := o') (a := a) (b := b) (d := d) (ρ := ρ) with ⟨q, he⟩ | he
  · rw [he] at k
    simp only [tB] at k
    obtain ⟨r, r', ta, tb, td, h1, h2, h3, h4, h5, h6⟩ := chain_core g ho ho' ha hb hd s hl (K := Q) he fun H' x => k H' F L trivial .refl (s.to x)
    exact (pt_chain (pos := pos) h1 h2 h3 h4 h5 (noMarks hz)).run pins s0 σ H Q I h6
  · rw [he] at k; exact k.elim
end MP
/-! MP13: calls. -/
namespace MP
open PySem PySem.Spec PyProof.Rows L2
variable {c : Cv} {sy : Sy} {X : Cx} {sc : Scope} {N : List Str} {C : Ct} {W : WX} {G : Nat → Option Addr} {Fr F F' H H' : Hp}
def eqFs : List D → List D → Bool
  | [], [] => true
  | a :: r, b :: s => eqF a b && eqFs r s
  | _, _ => false
theorem eqFs_eq : ∀ {a b : List D}, eqFs a b = true → a = b
  | [], [], _ => rfl
  | a :: r, b :: s, h => by
    have h' : (eqF a b && eqFs r s) = true := h
    rw [Bool.and_eq_true] at h'
    rw [eqF_eq h'.1, eqFs_eq h'.2]
  | [], _ :: _, h => by cases h
  | _ :: _, [], h => by cases h
def fnB (sy : Sy) (f : Fk) (n : Nat) (df : List D) : Bool := sy.fns.any fun p => decide (p.1 = f) && decide (p.2.1 = n + df.length) && decide (df.length ≤ p.2.2.length) && eqFs df (p.2.2.drop (p.2.2.length - df.length))
/-- the facts of a call with some defaults -/
theorem fn_use (g : Gy c sy X sc N C W) {f : Fk} {n : Nat} {df : List D} (h : fnB sy f n df = true) : ∃ a fd ps dv ds, FnOk X.prog X.w X.K X.mg X.base (L2.CX X.prog X.w) g.k a fd ps (spF c C f) ∧ (∀ F, RL c F df dv) ∧ Vals dv ds ∧ Binds X.K fd ps ds ∧ PySem.W.keepIn X.K (.ref a) = true ∧
    (f.1 = "" → X.mg f.2 = some (.ref a)) ∧ (f.1 ≠ "" → Cls X.K (c.cl f.1) ∧ (f.2 = "__init__" → Mk X.K (c.cl f.1) a ∧ X.mg f.1 = some (.ref (c.cl f.1))) ∧ (f.2 ≠ "__init__" → Meth X.K (c.cl f.1) f.2 a)) := by
  unfold fnB at h
  rw [List.any_eq_true] at h
  obtain ⟨p, hp, h⟩ := h
  simp only [Bool.and_eq_true, decide_eq_true_eq] at h
  obtain ⟨⟨⟨rfl, h2⟩, h3⟩, h4⟩ := h
  obtain ⟨a, I, g1, g2⟩ := g.fns p hp
  obtain ⟨fd, ps, dvs, ok, hl, hr, hb⟩ := I.ok
  have e := eqFs_eq h4
  have hlen : dvs.length = p.2.2.length := (hr fun _ => none).length
  obtain ⟨ds, v1, b1⟩ := hb (p.2.2.length - df.length) (by omega)
  refine ⟨a, fd, ps, dvs.drop (p.2.2.length - df.length), ds, ok, fun F => ?_, v1, b1, I.kp, g1, g2⟩
  have z := (hr F).drop (p.2.2.length - df.length)
  rw [← e] at z
  exact z
theorem SR.snocs : ∀ {ds : List D} {vs : List V} {ρ : List (Option T)} {us : List (Option V)} {L : List Addr}, SR c G Fr F H ρ us L → RL c F ds vs → SR c G Fr F H (ρ ++ (ds.map T.sh).map some) (us ++ vs.map some) L
  | [], _, ρ, us, L, s, h => by
    simp only [RL] at h
    subst h
    simpa using s
  | d :: r, _, ρ, us, L, s, h => by
    simp only [RL] at h
    obtain ⟨v, w, e, x, y⟩ := h
    subst e
    have z := SR.snocs (s.snocF x) y
    simpa using z
theorem BorOk.app {σ us : List (Option V)} : ∀ {bs : List (Option Nat)} {vs : List V}, BorOk bs vs σ → BorOk bs vs (σ ++ us)
  | [], _, _ => by unfold BorOk; trivial
  | some i :: bs, [], _ => by unfold BorOk; trivial
  | Option.none :: bs, [], _ => by unfold BorOk; trivial
  | some i :: bs, v :: vs, ⟨h1, h2⟩ => ⟨by rw [List.getElem?_append_left (List.getElem?_eq_some_iff.mp h1).1]; exact h1, BorOk.app h2⟩
  | Option.none :: bs, _ :: vs, h => BorOk.app (bs := bs) (vs := vs) h
theorem BorOk.more {σ : List (Option V)} {ws : List V} : ∀ {bs : List (Option Nat)} {vs : List V}, bs.length ≤ vs.length → BorOk bs vs σ → BorOk bs (vs ++ ws) σ
  | [], _, _, _ => by unfold BorOk; trivial
  | _ :: _, [], h, _ => by simp at h
  | some i :: bs, v :: vs, h, ⟨h1, h2⟩ => ⟨h1, BorOk.more (by simpa using h) h2⟩
  | Option.none :: bs, _ :: vs, h, h2 => BorOk.more (bs := bs) (vs := vs) (by simpa using h) h2
theorem back_app {ts : List (Option T)} {σ : List (Option V)} : ∀ {bs : List (Option Nat)} {fs : List (Option T)} {vs : List V} {ρ : List (Option T)}, ρ.length = σ.length → BorOk bs vs σ → bs.length ≤ vs.length → back bs fs (ρ ++ ts) = back bs fs ρ ++ ts
  | [], fs, vs, ρ, _, _, _ => by unfold back; rfl
  | some i :: bs, [], vs, ρ, _, _, _ => by unfold back; rfl
  | Option.none :: bs, [], vs, ρ, _, _, _ => by unfold back; rfl
  | _ :: _, _ :: _, [], ρ, _, _, h => by simp at h
  | some i :: bs, f :: fs, v :: vs, ρ, hl, ⟨h1, h2⟩, h => by
    have hi : i < ρ.length := by rw [hl]; exact (List.getElem?_eq_some_iff.mp h1).1
    conv => lhs; unfold back
    conv => rhs; unfold back
    rw [set_app hi, back_app (by simpa using hl) h2 (by simpa using h)]
  | Option.none :: bs, f :: fs, v :: vs, ρ, hl, h1, h => by
    conv => lhs; unfold back
    conv => rhs; unfold back
    exact back_app hl (show BorOk bs vs σ from h1) (by simpa using h)
theorem bors_le : ∀ {es : E} {ρ : Env1} {rs : List T} {ρ' : Env1}, evEs C es ρ = .ok rs ρ' → es.bors.length = rs.length
  | .nil, ρ, rs, ρ', h => by
    simp only [evEs] at h
    injection h with h _
    subst h
    rfl
  | .cons a b, ρ, rs, ρ', h => by
    have this : (E.cons a b).bors.length = b.bors.length + 1 := by cases a <;> rfl
    simp only [evEs] at h
    split at h
    · split at h
      · split at h
        · rename_i ts r1 e2
          split at h
          · injection h with h1 h2
            subst h1 h2
            rw [this, bors_le e2]; rfl
          · cases h
        · rename_i x hx
          exact (hx _ _ h).elim
      · cases h
    · split at h
      · rename_i t r1 e1
        split at h
        · rename_i ts r2 e2
          injection h with h1 h2
          subst h1 h2
          rw [this, bors_le e2]; rfl
        · rename_i x hx
          exact (hx _ _ h).elim
      · cases h
      · cases h
  | .p _, _, _, _, h => by simp only [evEs] at h; cases h
  | .fz _, _, _, _, h => by simp only [evEs] at h; cases h
  | .mv _, _, _, _, h => by simp only [evEs] at h; cases h
  | .bor _, _, _, _, h => by simp only [evEs] at h; cases h
  | .frE _, _, _, _, h => by simp only [evEs] at h; cases h
  | .o1 _ _, _, _, _, h => by simp only [evEs] at h; cases h
  | .o2 _ _ _, _, _, _, h => by simp only [evEs] at h; cases h
  | .o3 _ _ _ _, _, _, _, h => by simp only [evEs] at h; cases h
  | .k2 _ _ _, _, _, _, h => by simp only [evEs] at h; cases h
  | .chain _ _ _ _ _, _, _, _, h => by simp only [evEs] at h; cases h
  | .tup _, _, _, _, h => by simp only [evEs] at h; cases h
  | .lst _, _, _, _, h => by simp only [evEs] at h; cases h
  | .and _ _, _, _, _, h => by simp only [evEs] at h; cases h
  | .or _ _, _, _, _, h => by simp only [evEs] at h; cases h
  | .not _, _, _, _, h => by simp only [evEs] at h; cases h
  | .ife _ _ _, _, _, _, h => by simp only [evEs] at h; cases h
  | .call _ _ _, _, _, _, h => by simp only [evEs] at h; cases h
  | .new _ _ _, _, _, _, h => by simp only [evEs] at h; cases h
  | .meth _ _ _ _ _, _, _, _, h => by simp only [evEs] at h; cases h
  | .lc _ _ _ _, _, _, _, h => by simp only [evEs] at h; cases h
  | .iv _, _, _, _, h => by simp only [evEs] at h; cases h
  | .ip _, _, _, _, h => by simp only [evEs] at h; cases h
  | .rng1 _, _, _, _, h => by simp only [evEs] at h; cases h
  | .rng2 _ _, _, _, _, h => by simp only [evEs] at h; cases h
  | .zip _ _, _, _, _, h => by simp only [evEs] at h; cases h
  | .enum _, _, _, _, h => by simp only [evEs] at h; cases h
  | .yes, _, _, _, h => by simp only [evEs] at h; cases h
  | .dnew, _, _, _, h => by simp only [evEs] at h; cases h
  | .dlit _, _, _, _, h => by simp only [evEs] at h; cases h
  | .sortIt _, _, _, _, h => by simp only [evEs] at h; cases h
  | .lenO _ _, _, _, _, h => by simp only [evEs] at h; cases h
  | .vk _ _ _, _, _, _, h => by simp only [evEs] at h; cases h
  | .n1 _ _, _, _, _, h => by simp only [evEs] at h; cases h
  | .callP _ _ _, _, _, _, h => by simp only [evEs] at h; cases h
/-- the promise of a call, from the state at it -/
theorem call_sp {f : Fk} {df : List D} {dv : List V} {σ : L2.St} {ρ' ts : List (Option T)} {us : List (Option V)} {rs : List T} {vs : List V} {L : List Addr} {bs : List (Option Nat)} {Q : VK}
    (hd : ∀ F, RL c F df dv) (s : SR c G Fr F H (ρ' ++ (ts ++ rs.map some)) (σ ++ (us ++ vs.map some)) L) (hl : ρ'.length = σ.length) (hu : us.length = ts.length) (lv : vs.length = rs.length) (bo : BorOk bs vs σ) (bl : bs.length = rs.length)
    (k : match C f (rs ++ df.map .sh) with
      | .ok t fin => ∀ v H' F' L', Le F F' → SR c G Fr F' H' (back bs fin ρ' ++ (ts ++ [some t])) (σ ++ (us ++ [some v])) L' → Q v H'
      | .ex x fin => ∀ cls d H' F' L', Le F F' → ExR c F' H' x cls d → SR c G Fr F' H' (back bs fin ρ') σ L' → W cls d σ H'
      | .no => False) : spF c C f (vs ++ dv) H Q (WE W σ) := by
  have s0 : SR c G Fr F H ((ρ' ++ ts) ++ rs.map some) ((σ ++ us) ++ vs.map some) L := by simpa using s
  have s1 := s0.snocs (hd F)
  have s2 : SR c G Fr F H ((ρ' ++ ts) ++ (rs ++ df.map T.sh).map some) ((σ ++ us) ++ (vs ++ dv).map some) L := by simpa using s1
  have h1 : (σ ++ us).length = (ρ' ++ ts).length := by simp; omega
  obtain ⟨Fr', L2, s3, go⟩ := s2.call h1
  have bo2 : BorOk bs (vs ++ dv) (σ ++ us) := BorOk.app (BorOk.more (by omega) bo)
  have bl2 : bs.length ≤ (vs ++ dv).length := by simp; omega
  refine ⟨G, Fr', F, rs ++ df.map .sh, L2, s3, ?_⟩
  cases hC : C f (rs ++ df.map .sh) with
  | no => rw [hC] at k; exact k
  | ok t fin =>
    rw [hC] at k
    dsimp only at k ⊢
    intro v H' F' L' le hf s4
    obtain ⟨L5, s5⟩ := go F' H' _ _ _ le s4
    obtain ⟨L6, s6, _⟩ := s5.back h1 hf.symm bo2
    rw [back_app (vs := vs ++ dv) hl (BorOk.more (by omega) bo) bl2] at s6
    exact k v H' F' L6 le (by simpa using s6)
  | ex x fin =>
    rw [hC] at k
    dsimp only at k ⊢
    intro cls d H' F' L' le hf xr s4
    obtain ⟨L5, s5⟩ := go F' H' _ _ _ le s4
    have s5' : SR c G Fr F' H' ((ρ' ++ ts) ++ (fin ++ [])) ((σ ++ us) ++ ((vs ++ dv).map some ++ [])) L5 := by simpa using s5
    obtain ⟨L6, s6, _⟩ := s5'.back h1 hf.symm bo2
    rw [back_app (vs := vs ++ dv) hl (BorOk.more (by omega) bo) bl2] at s6
    have s7 : SR c G Fr F' H' (back bs fin ρ' ++ ts) (σ ++ us) L6 := by simpa using s6
    obtain ⟨L8, s8, _⟩ := s7.cut (by rw [back_length]; exact hl.symm)
    exact k cls d H' F' L8 le xr s8
theorem s_call (g : Gy c sy X sc N C W) {x : Str} {p pos : Pos} {es : E} {xs : List Expr} {df : List D} (hx : glB sc x = true) (hdb : (x == ("__debug__" : Str)) = false) (hs : noStars xs = true) (hf : fnB sy ("", x) xs.length df = true)
    (h : PA X xs (tEs c G C W es)) (h0 : xs = [] → es = .nil) : PE X (.Call (.Name x p) xs [] pos) (tE c G C W (.call ("", x) es df)) := by
  obtain ⟨a, fd, ps, dv, ds, ok, hd, vd, bd, kp, hm, _⟩ := fn_use g hf
  have hm := hm rfl
  have hr : Room g.k X.A := g.room.mono (by omega)
  have body : ∀ {σ H Q}, tE c G C W (.call ("", x) es df) σ H Q → tEs c G C W es σ H fun vs H1 => spF c C ("", x) (vs ++ dv) H1 Q (WE W σ) := by
    intro σ H Q ⟨Fr, F, ρ, ts, us, L, s, hl, k⟩
    refine ⟨Fr, F, ρ, ts, us, L, s, hl, ?_⟩
    simp only [evE] at k
    cases he : evEs C es ρ with
    | no => rw [he] at k; exact k
    | ex x ρ' => rw [he] at k; exact k
    | ok rs ρ' =>
      rw [he] at k
      dsimp only at k ⊢
      intro vs H' F' L' h1 le bo lv s'
      refine call_sp hd s' (by omega) (s.lenT hl) lv bo (bors_le he) ?_
      cases hC : C ("", x) (rs ++ df.map .sh) with
      | no => rw [hC] at k; exact k
      | ok t fin =>
        rw [hC] at k
        exact fun v H2 F2 L2 le2 s2 => k v H2 F2 L2 (by rw [back_length]; exact h1) (le.trans le2) s2
      | ex x fin =>
        rw [hC] at k
        exact fun cls d H2 F2 L2 le2 xr s2 => k cls d H2 F2 L2 (by rw [back_length]; exact h1) (le.trans le2) xr s2
  cases xs with
  | nil =>
    refine (pe_fn0 ok hr (glB_ok g.toGx hx) hm kp bd vd g.tk hdb).weaken fun σ H Q hh => ?_
    have e0 := h0 rfl
    subst e0
    obtain ⟨Fr, F, ρ, ts, us, L, s, hl, k⟩ := body hh
    simp only [evEs] at k
    exact k [] H F L trivial .refl (by unfold E.bors; trivial) (by simp) (by simpa using s)
  | cons e xs => exact (pe_fn ok hr (glB_ok g.toGx hx) hm kp bd vd g.tk h hs hdb).weaken fun σ H Q hh => body hh
end MP
/-! MP14: objects made, methods called. -/
namespace MP
open PySem PySem.Spec PyProof.Rows L2
variable {c : Cv} {sy : Sy} {X : Cx} {sc : Scope} {N : List Str} {C : Ct} {W : WX} {G : Nat → Option Addr} {Fr F F' H H' : Hp}
/-- a new object ahead -/
theorem SR.consN {ρ : List (Option T)} {us : List (Option V)} {L : List Addr} {t : T} {p : Addr} (s : SR c G Fr F H ρ us L) (x : Ext H H') (hp : H p = none) (r : RO c G F H' t (.ref p) [p]) :
    SR c G Fr F H' (some t :: ρ) (some (.ref p) :: us) (p :: L) := by
  have s2 := s.to (H' := H') x
  have Fp : F p = none := by
    cases e : F p with
    | none => rfl
    | some o' => rcases s.le p o' e with e | ⟨_, _, e⟩ <;> (rw [hp] at e; cases e)
  have Frp : Fr p = none := by
    cases e : Fr p with
    | none => rfl
    | some o' => have := s.fr p o' e; rw [hp] at this; cases this
  refine ⟨⟨some (.ref p), us, [p], L, rfl, rfl, ⟨_, rfl, r⟩, s2.sl⟩, List.nodup_cons.mpr ⟨fun h => ?_, s.nd⟩, fun a ha => ?_, s2.le, s2.fr, s2.gf, s2.ff⟩
  · obtain ⟨o', e, _⟩ := s.sl.mem p h
    rw [hp] at e; cases e
  · rcases List.mem_cons.mp ha with rfl | ha
    · exact ⟨Fp, Frp⟩
    · exact s.ap a ha
/-- the first is put last -/
theorem SR.toEnd {ρ A : List (Option T)} {us ua : List (Option V)} {o : Option T} {u : Option V} {L : List Addr} (s : SR c G Fr F H (ρ ++ o :: A) (us ++ u :: ua) L) (h1 : us.length = ρ.length) : ∃ L', SR c G Fr F H (ρ ++ A ++ [o]) (us ++ ua ++ [u]) L' := by
  obtain ⟨L1, L2, rfl, x, y⟩ := RSl.split h1 s.sl
  obtain ⟨u', ua', M1, M2, e, rfl, y1, y2⟩ := y
  injection e with e1 e2
  subst e1 e2
  refine ⟨L1 ++ M2 ++ M1, ⟨(x.app y2).app ⟨u, [], M1, [], rfl, by simp, y1, rfl, rfl⟩, ?_, fun a ha => s.ap a ?_, s.le, s.fr, s.gf, s.ff⟩⟩
  · have p1 : (L1 ++ (M1 ++ M2)).Perm (L1 ++ M2 ++ M1) := by
      rw [List.append_assoc]
      exact (List.Perm.refl L1).append List.perm_append_comm
    exact p1.nodup_iff.mp s.nd
  · simp only [List.mem_append] at ha ⊢
    rcases ha with (q | q) | q <;> simp [q]
theorem make_sp {k : Str} {df : List D} {dv : List V} {σ : L2.St} {ρ' ts : List (Option T)} {us : List (Option V)} {rs : List T} {vs : List V} {L : List Addr} {bs : List (Option Nat)} {Q : VK} {x dx : Addr}
    (hd : ∀ F, RL c F df dv) (s : SR c G Fr F H (ρ' ++ (ts ++ rs.map some)) (σ ++ (us ++ vs.map some)) L) (hl : ρ'.length = σ.length) (hu : us.length = ts.length) (lv : vs.length = rs.length) (bo : BorOk bs vs σ) (bl : bs.length = rs.length)
    (hx : H x = none) (hdx : H dx = none) (ne : dx ≠ x)
    (kk : match C (k, "__init__") (.obj k [] :: (rs ++ df.map .sh)) with
      | .ok (.sh .non) (some o :: fin) => ∀ H' F' L', Le F F' → SR c G Fr F' H' (back bs fin ρ' ++ (ts ++ [some o])) (σ ++ (us ++ [some (.ref x)])) L' → Q (.ref x) H'
      | .ex x (_ :: fin) => ∀ cls d H' F' L', Le F F' → ExR c F' H' x cls d → SR c G Fr F' H' (back bs fin ρ') σ L' → W cls d σ H'
      | _ => False) : spF c C (k, "__init__") (.ref x :: (vs ++ dv)) (upd (upd H dx (.own x)) x (.ins (c.cl k) dx [])) (fun v H2 => v = .non ∧ Q (.ref x) H2) (WE W σ) := by
  have s0 : SR c G Fr F H ((ρ' ++ ts) ++ rs.map some) ((σ ++ us) ++ vs.map some) L := by simpa using s
  have s1 := s0.snocs (hd F)
  have s2 : SR c G Fr F H ((ρ' ++ ts) ++ (rs ++ df.map T.sh).map some) ((σ ++ us) ++ (vs ++ dv).map some) L := by simpa using s1
  have h1 : (σ ++ us).length = (ρ' ++ ts).length := by simp; omega
  obtain ⟨Fr', L2, s3, go⟩ := s2.call h1
  have bo2 : BorOk bs (vs ++ dv) (σ ++ us) := BorOk.app (BorOk.more (by omega) bo)
  have bl2 : bs.length ≤ (vs ++ dv).length := by simp; omega
  have x1 : Ext H (upd (upd H dx (.own x)) x (.ins (c.cl k) dx [])) := (Ext.upd hdx).trans (Ext.upd (by rw [upd_ne (Ne.symm ne)]; exact hx))
  have s4 := s3.consN (t := .obj k []) (p := x) x1 hx (by simp only [RO]; exact ⟨x, dx, [], [], rfl, upd_same, by simp only [ROF]; exact ⟨trivial, trivial⟩, rfl⟩)
  refine ⟨G, Fr', F, T.obj k [] :: (rs ++ df.map T.sh), _, s4, ?_⟩
  cases hC : C (k, "__init__") (.obj k [] :: (rs ++ df.map .sh)) with
  | no => rw [hC] at kk; exact kk
  | ok t fin =>
    rw [hC] at kk
    dsimp only at kk ⊢
    intro v H' F' L' le hf s5
    split at kk
    · rename_i o fin' e1
      injection e1 with e2 e3
      subst e2 e3
      have s6 : SR c G Fr' F' H' (some o :: (fin' ++ [some (.sh .non)])) (some (.ref x) :: ((vs ++ dv).map some ++ [some v])) L' := by simpa using s5
      obtain ⟨L5, s7⟩ := go F' H' _ _ _ le s6
      have hv : v = .non := by
        have s8 : SR c G Fr F' H' (((ρ' ++ ts) ++ (some o :: fin')) ++ [some (.sh .non)]) (((σ ++ us) ++ (some (.ref x) :: (vs ++ dv).map some)) ++ [some v]) L5 := by simpa using s7
        have hf2 : fin'.length = (vs ++ dv).length := by simpa using hf
        exact (s8.lastV (by simp at hf2 ⊢; omega)).non
      subst hv
      refine ⟨rfl, ?_⟩
      obtain ⟨L6, s8⟩ := s7.toEnd h1
      have s9 : SR c G Fr F' H' ((ρ' ++ ts) ++ (fin' ++ [some (.sh .non), some o])) ((σ ++ us) ++ ((vs ++ dv).map some ++ [some .non, some (.ref x)])) L6 := by simpa using s8
      have hf2 : (vs ++ dv).length = fin'.length := by
        have : fin'.length = (vs ++ dv).length := by simpa using hf
        exact this.symm
      obtain ⟨L7, s10, _⟩ := s9.back h1 hf2 bo2
      rw [back_app (vs := vs ++ dv) hl (BorOk.more (by omega) bo) bl2] at s10
      have s11 : SR c G Fr F' H' ((back bs fin' ρ' ++ ts) ++ [some (.sh .non)] ++ [some o]) ((σ ++ us) ++ [some .non] ++ [some (.ref x)]) L7 := by simpa using s10
      obtain ⟨L8, s12, _⟩ := s11.del (by simp [back_length]; omega) rfl
      exact kk H' F' L8 le (by simpa using s12)
    · rename_i e1; cases e1
    · exact kk.elim
  | ex xx fin =>
    rw [hC] at kk
    dsimp only at kk ⊢
    intro cls d H' F' L' le hf xr s5
    split at kk
    · rename_i e1; cases e1
    · rename_i x2 o fin' e1
      injection e1 with e2 e3
      subst e2 e3
      have s6 : SR c G Fr' F' H' (o :: fin') (some (.ref x) :: (vs ++ dv).map some) L' := by simpa using s5
      obtain ⟨L5, s7⟩ := go F' H' _ _ _ le s6
      obtain ⟨L6, s8⟩ := s7.toEnd h1
      have s9 : SR c G Fr F' H' ((ρ' ++ ts) ++ (fin' ++ [o])) ((σ ++ us) ++ ((vs ++ dv).map some ++ [some (.ref x)])) L6 := by simpa using s8
      have hf2 : (vs ++ dv).length = fin'.length := by
        have : fin'.length = (vs ++ dv).length := by simpa using hf
        exact this.symm
      obtain ⟨L7, s10, _⟩ := s9.back h1 hf2 bo2
      rw [back_app (vs := vs ++ dv) hl (BorOk.more (by omega) bo) bl2] at s10
      have s11 : SR c G Fr F' H' (back bs fin' ρ' ++ (ts ++ [o])) (σ ++ (us ++ [some (.ref x)])) L7 := by simpa using s10
      obtain ⟨L8, s12, _⟩ := s11.cut (by rw [back_length]; exact hl.symm)
      exact kk cls d H' F' L8 le xr s12
    · exact kk.elim
theorem s_new (g : Gy c sy X sc N C W) {k : Str} {p pos : Pos} {es : E} {xs : List Expr} {df : List D} (hx : glB sc k = true) (hdb : (k == ("__debug__" : Str)) = false) (hk : k ≠ "") (hs : noStars xs = true) (hf : fnB sy (k, "__init__") (xs.length + 1) df = true)
    (h : PA X xs (tEs c G C W es)) (h0 : xs = [] → es = .nil) : PE X (.Call (.Name k p) xs [] pos) (tE c G C W (.new k es df)) := by
  obtain ⟨a, fd, ps, dv, ds, ok, hd, vd, bd, kp, _, hm⟩ := fn_use g hf
  obtain ⟨hc, hm, _⟩ := hm hk
  obtain ⟨M, hm⟩ := hm rfl
  have hr : Room (g.k + 1) X.A := g.room
  have body : ∀ {σ H Q}, tE c G C W (.new k es df) σ H Q → tEs c G C W es σ H fun vs H1 => ∀ x dx, H1 x = none → H1 dx = none → dx ≠ x → spF c C (k, "__init__") (.ref x :: (vs ++ dv)) (upd (upd H1 dx (.own x)) x (.ins (c.cl k) dx [])) (fun v H2 => v = .non ∧ Q (.ref x) H2) (WE W σ) := by
    intro σ H Q ⟨Fr, F, ρ, ts, us, L, s, hl, kk⟩
    refine ⟨Fr, F, ρ, ts, us, L, s, hl, ?_⟩
    simp only [evE] at kk
    cases he : evEs C es ρ with
    | no => rw [he] at kk; exact kk
    | ex x ρ' => rw [he] at kk; exact kk
    | ok rs ρ' =>
      rw [he] at kk
      dsimp only at kk ⊢
      intro vs H' F' L' h1 le bo lv s' x dx hx hdx ne
      refine make_sp hd s' (by omega) (s.lenT hl) lv bo (bors_le he) hx hdx ne ?_
      cases hC : C (k, "__init__") (.obj k [] :: (rs ++ df.map .sh)) with
      | no => rw [hC] at kk; exact kk
      | ok t fin =>
        rw [hC] at kk
        split
        · rename_i o fin' e1
          injection e1 with e2 e3
          subst e2 e3
          exact fun H2 F2 L2 le2 s2 => kk _ H2 F2 L2 (by rw [back_length]; exact h1) (le.trans le2) s2
        · rename_i e1; cases e1
        · rename_i n1 n2
          split at kk
          · rename_i e1
            split at e1
            · rename_i o fin' e2; exact n1 _ _ e2
            · rename_i e2; cases e2
            · cases e1
          · rename_i e1
            split at e1
            · cases e1
            · rename_i e2; cases e2
            · cases e1
          · exact kk
      | ex x fin =>
        rw [hC] at kk
        split
        · rename_i e1; cases e1
        · rename_i x2 o fin' e1
          injection e1 with e2 e3
          subst e2 e3
          exact fun cls d H2 F2 L2 le2 xr s2 => kk cls d H2 F2 L2 (by rw [back_length]; exact h1) (le.trans le2) xr s2
        · rename_i n1 n2
          split at kk
          · rename_i e1
            split at e1
            · rename_i e2; cases e2
            · cases e1
            · cases e1
          · rename_i e1
            split at e1
            · cases e1
            · rename_i e2; exact n2 _ _ _ e2
            · cases e1
          · exact kk
  cases xs with
  | nil =>
    refine (pe_mk0 M ok hr (glB_ok g.toGx hx) hm bd vd g.tk hdb).weaken fun σ H Q hh => ?_
    have e0 := h0 rfl
    subst e0
    obtain ⟨Fr, F, ρ, ts, us, L, s, hl, k⟩ := body hh
    simp only [evEs] at k
    exact k [] H F L trivial .refl (by unfold E.bors; trivial) (by simp) (by simpa using s)
  | cons e xs => exact (pe_mk' M ok hr (glB_ok g.toGx hx) hm bd vd g.tk h hs hdb).weaken fun σ H Q hh => body hh
end MP
/-! MP15: methods called. -/
namespace MP
open PySem PySem.Spec PyProof.Rows L2
variable {c : Cv} {sy : Sy} {X : Cx} {sc : Scope} {N : List Str} {C : Ct} {W : WX} {G : Nat → Option Addr} {Fr F F' H H' : Hp}
theorem RF.noField {m : Str} : ∀ {ds : List (Str × D)} {vs : List (Str × V)}, RF c F ds vs → (ds.any fun q => decide (q.1 = m)) = false → vs.lookup m = none
  | [], _, h, _ => by
    simp only [RF] at h
    subst h; rfl
  | (k, d) :: r, _, h, e => by
    simp only [RF] at h
    obtain ⟨v, w, rfl, x, y⟩ := h
    simp only [List.any_cons, Bool.or_eq_false_iff, decide_eq_false_iff_not] at e
    rw [List.lookup_cons]
    simp only [show (m == k) = false from by simpa using fun q => e.1 q.symm]
    exact RF.noField y e.2
theorem ROF.noField {m : Str} : ∀ {ds : List (Str × T)} {vs : List (Str × V)} {L : List Addr}, ROF c G F H ds vs L → (ds.any fun q => decide (q.1 = m)) = false → vs.lookup m = none
  | [], _, _, h, _ => by
    simp only [ROF] at h
    rw [h.1]; rfl
  | (k, d) :: r, _, _, h, e => by
    simp only [ROF] at h
    obtain ⟨v, w, M1, M2, rfl, _, x, y⟩ := h
    simp only [List.any_cons, Bool.or_eq_false_iff, decide_eq_false_iff_not] at e
    rw [List.lookup_cons]
    simp only [show (m == k) = false from by simpa using fun q => e.1 q.symm]
    exact ROF.noField y e.2
theorem Vw.obj {t : T} {v : V} {k m : Str} {fs : List (Str × T)} (le : Le F H) (h : Vw c G F H t v) (e : asF t = some (k, fs)) (n : (fs.any fun q => decide (q.1 = m)) = false) :
    ∃ a dx vs, v = .ref a ∧ H a = some (.ins (c.cl k) dx vs) ∧ vs.lookup m = none := by
  obtain ⟨L, h⟩ := h
  unfold asF at e
  split at e
  · injection e with e
    obtain ⟨rfl, rfl⟩ := Prod.mk.inj e
    simp only [RO, R] at h
    obtain ⟨_, a, dx, vs, e1, s, r⟩ := h
    refine ⟨a, dx, vs, e1, le.ex s rfl, r.noField ?_⟩
    rw [List.any_map] at n
    exact n
  · injection e with e
    obtain ⟨rfl, rfl⟩ := Prod.mk.inj e
    simp only [RO] at h
    obtain ⟨a, dx, vs, L1, e1, s, r, _⟩ := h
    exact ⟨a, dx, vs, e1, s, r.noField n⟩
  · cases e
/-- behind the receiver -/
theorem meth_core {m k : Str} {es : E} {df : List D} {dv : List V} {σ : L2.St} {ρ' ts : List (Option T)} {us : List (Option V)} {L : List Addr} {b1 : Option Nat} {Q : VK} {o : T} {v : V} {fs : List (Str × T)}
    (hd : ∀ F, RL c F df dv) (s : SR c G Fr F H (ρ' ++ (ts ++ [some o])) (σ ++ (us ++ [some v])) L) (hl : ρ'.length = σ.length) (hu : us.length = ts.length) (hb : ∀ i, b1 = some i → σ[i]? = some (some v)) (ho : asF o = some (k, fs)) (hn : (fs.any fun q => decide (q.1 = m)) = false)
    (kk : match evEs C es ρ' with
      | .ok rs r2 => match C (k, m) (o :: (rs ++ df.map .sh)) with
        | .ok t fin => ∀ v H' F' L', (back (b1 :: es.bors) fin r2).length = ρ'.length → Le F F' → SR c G Fr F' H' (back (b1 :: es.bors) fin r2 ++ (ts ++ [some t])) (σ ++ (us ++ [some v])) L' → Q v H'
        | .ex x fin => ∀ cls d H' F' L', (back (b1 :: es.bors) fin r2).length = ρ'.length → Le F F' → ExR c F' H' x cls d → SR c G Fr F' H' (back (b1 :: es.bors) fin r2) σ L' → W cls d σ H'
        | .no => False
      | .ex x r2 => ∀ cls d H' F' L', r2.length = ρ'.length → Le F F' → ExR c F' H' x cls d → SR c G Fr F' H' r2 σ L' → W cls d σ H'
      | .no => False) :
    ∃ a dx vs, v = .ref a ∧ H a = some (.ins (c.cl k) dx vs) ∧ vs.lookup m = none ∧ tEs c G C W es σ H fun vs H2 => spF c C (k, m) (v :: (vs ++ dv)) H2 Q (WE W σ) := by
  have hL : (σ ++ us).length = (ρ' ++ ts).length := by simp; omega
  obtain ⟨a, dx, vs, e1, e2, e3⟩ := (s.lastV' hL).obj s.le ho hn
  refine ⟨a, dx, vs, e1, e2, e3, Fr, F, ρ', _, _, L, s, hl, ?_⟩
  cases he : evEs C es ρ' with
  | no => rw [he] at kk; exact kk
  | ex x r2 => rw [he] at kk; exact kk
  | ok rs r2 =>
    rw [he] at kk
    dsimp only at kk ⊢
    intro vs2 H2 F2 L2 h2 le2 bo lv s2
    have bl := bors_le he
    have s3 : SR c G Fr F2 H2 (r2 ++ (ts ++ (o :: rs).map some)) (σ ++ (us ++ (v :: vs2).map some)) L2 := by simpa using s2
    have bo' : BorOk (b1 :: es.bors) (v :: vs2) σ := by
      cases b1 with
      | none => exact bo
      | some i => exact ⟨hb i rfl, bo⟩
    refine call_sp (rs := o :: rs) (vs := v :: vs2) hd s3 (by omega) hu (by simp [lv]) bo' (by simp [bl]) ?_
    show match C (k, m) (o :: (rs ++ df.map .sh)) with
      | .ok t fin => _
      | .ex x fin => _
      | .no => False
    cases hC : C (k, m) (o :: (rs ++ df.map .sh)) with
    | no => rw [hC] at kk; exact kk
    | ok t fin =>
      rw [hC] at kk
      exact fun v3 H3 F3 L3 le3 s3 => kk v3 H3 F3 L3 (by rw [back_length]; exact h2) (le2.trans le3) s3
    | ex x fin =>
      rw [hC] at kk
      exact fun cls d H3 F3 L3 le3 xr s3 => kk cls d H3 F3 L3 (by rw [back_length]; exact h2) (le2.trans le3) xr s3
/-- the facts of a method of some classes -/
def mthB (sy : Sy) (ks : List Str) (m : Str) (n : Nat) (df : List D) : Bool := !ks.isEmpty && (m != "__init__") && ks.all fun k => (k != "") && fnB sy (k, m) n df
theorem mth_use (g : Gy c sy X sc N C W) {ks : List Str} {m k : Str} {n : Nat} {df : List D} (h : mthB sy ks m n df = true) (hk : k ∈ ks) : ∃ a fd ps dv ds, FnOk X.prog X.w X.K X.mg X.base (L2.CX X.prog X.w) g.k a fd ps (spF c C (k, m)) ∧ (∀ F, RL c F df dv) ∧ Vals dv ds ∧ Binds X.K fd ps ds ∧ Cls X.K (c.cl k) ∧ Meth X.K (c.cl k) m a := by
  unfold mthB at h
  simp only [Bool.and_eq_true, List.all_eq_true] at h
  obtain ⟨⟨_, h2⟩, h3⟩ := h
  obtain ⟨h4, h5⟩ := h3 k hk
  obtain ⟨a, fd, ps, dv, ds, ok, hd, vd, bd, kp, _, hm⟩ := fn_use g h5
  obtain ⟨hc, _, hm⟩ := hm (by simpa using h4)
  exact ⟨a, fd, ps, dv, ds, ok, hd, vd, bd, hc, hm (by simpa using h2)⟩
theorem mth_some {sy : Sy} {ks : List Str} {m : Str} {n : Nat} {df : List D} (h : mthB sy ks m n df = true) : ∃ k, k ∈ ks := by
  unfold mthB at h
  cases ks with
  | nil => simp at h
  | cons k r => exact ⟨k, List.mem_cons_self⟩
theorem s_meth (g : Gy c sy X sc N C W) {m : Str} {ks : List Str} {a es : E} {df : List D} {o : Expr} {xs : List Expr} {apos pos : Pos} (hs : noStars xs = true) (hbo : baseOk o = true) (hn : xs.length < 30) (hl : (apos.endLine == pos.line) = true)
    (hf : mthB sy ks m (xs.length + 1) df = true) (ha : PE X o (tE c G C W a)) (hna : a.bor1 = none) (h : PA X xs (tEs c G C W es)) (h0 : xs = [] → es = .nil) : PE X (.Call (.Attribute o m apos) xs [] pos) (tE c G C W (.meth m ks a es df)) := by
  have hr : Room g.k X.A := g.room.mono (by omega)
  -- the rule, for a class
  have rule : ∀ k ∈ ks, ∃ dv, (∀ F, RL c F df dv) ∧ ∀ {pins s σ H Q}, Inv X pins σ H s → tE c G C W a σ H (fun v H1 => ∃ a dx vs, v = .ref a ∧ H1 a = some (.ins (c.cl k) dx vs) ∧ vs.lookup m = none ∧ tEs c G C W es σ H1 fun vs H2 => spF c C (k, m) (v :: (vs ++ dv)) H2 Q (WE W σ)) →
      wpAny (model X.prog X.w) X.A (eval (.Call (.Attribute o m apos) xs [] pos) X.env) (EP X pins σ Q) X.xe s := by
    intro k hk
    obtain ⟨f, fd, ps, dv, ds, ok, hd, vd, bd, hc, hm⟩ := mth_use g hf hk
    refine ⟨dv, hd, fun {pins s σ H Q} I hw => ?_⟩
    cases xs with
    | nil =>
      have e0 := h0 rfl
      subst e0
      refine (pe_me0 ha hc hm ok hr bd vd g.tk hbo hl).run pins s σ H Q I ?_
      obtain ⟨Fr, F, ρ, ts, us, L, s1, hl1, k1⟩ := hw
      refine ⟨Fr, F, ρ, ts, us, L, s1, hl1, ?_⟩
      split
      · rename_i t r1 e1
        rw [e1] at k1
        intro v H' F' L' h1 le s2
        obtain ⟨a1, dx, vs, q1, q2, q3, Fr2, F2, ρ2, ts2, us2, L2, s3, hl3, k3⟩ := k1 v H' F' L' h1 le s2
        simp only [evEs] at k3
        exact ⟨a1, dx, vs, q1, q2, q3, k3 [] H' F2 L2 trivial .refl (by unfold E.bors; trivial) (by simp) (by simpa using s3)⟩
      · rename_i x r1 e1
        rw [e1] at k1
        exact k1
      · rename_i e1
        rw [e1] at k1
        exact k1
    | cons e xs => exact (pe_me ha hc hm ok hr bd vd g.tk h hs hbo hn hl).run pins s σ H Q I hw
  refine ⟨fun pins s0 σ H Q I ⟨Fr, F, ρ, ts, us, L, s, hl1, k1⟩ => ?_⟩
  simp only [evE] at k1
  cases he : evE C a ρ with
  | no => rw [he] at k1; exact k1.elim
  | ex x ρ' =>
    rw [he] at k1
    obtain ⟨k, hk⟩ := mth_some hf
    obtain ⟨dv, _, rl⟩ := rule k hk
    refine rl I ⟨Fr, F, ρ, ts, us, L, s, hl1, ?_⟩
    rw [he]
    exact k1
  | ok o1 ρ' =>
    rw [he] at k1
    dsimp only at k1
    cases ho : asF o1 with
    | none => rw [ho] at k1; exact k1.elim
    | some p =>
      obtain ⟨k, fs⟩ := p
      rw [ho] at k1
      dsimp only at k1
      by_cases hc : ((fs.any fun q => decide (q.1 = m)) || !decide (k ∈ ks)) = true
      · rw [if_pos hc] at k1; exact k1.elim
      · rw [if_neg hc] at k1
        have hc' : ((fs.any fun q => decide (q.1 = m)) || !decide (k ∈ ks)) = false := Bool.eq_false_iff.mpr hc
        rw [Bool.or_eq_false_iff] at hc'
        have hk : k ∈ ks := by simpa using hc'.2
        obtain ⟨dv, hd, rl⟩ := rule k hk
        refine rl I ⟨Fr, F, ρ, ts, us, L, s, hl1, ?_⟩
        rw [he]
        intro v H' F' L' h1 le s'
        refine meth_core (b1 := none) hd s' (by omega) (s.lenT hl1) (fun i e => by cases e) ho hc'.1 ?_
        rw [hna] at k1
        cases h2 : evEs C es ρ' with
        | no => rw [h2] at k1; exact k1
        | ex x r2 =>
          rw [h2] at k1
          exact fun cls d H3 F3 L3 h3 le3 xr s3 => k1 cls d H3 F3 L3 (by omega) (le.trans le3) xr s3
        | ok rs r2 =>
          rw [h2] at k1
          dsimp only at k1 ⊢
          cases hC : C (k, m) (o1 :: (rs ++ df.map .sh)) with
          | no => rw [hC] at k1; exact k1
          | ok t fin =>
            rw [hC] at k1
            exact fun v3 H3 F3 L3 h3 le3 s3 => k1 v3 H3 F3 L3 (by omega) (le.trans le3) s3
          | ex x fin =>
            rw [hC] at k1
            exact fun cls d H3 F3 L3 h3 le3 xr s3 => k1 cls d H3 F3 L3 (by omega) (le.trans le3) xr s3
/-- .. of a borrowed receiver -/
theorem s_methB (g : Gy c sy X sc N C W) {m : Str} {ks : List Str} {i : Nat} {y : Str} {npos : Pos} {es : E} {df : List D} {xs : List Expr} {apos pos : Pos} (hs : noStars xs = true) (hn : xs.length < 30) (hl : (apos.endLine == pos.line) = true)
    (hf : mthB sy ks m (xs.length + 1) df = true) (hy : nameB sc N i y = true) (h : PA X xs (tEs c G C W es)) (h0 : xs = [] → es = .nil) : PE X (.Call (.Attribute (.Name y npos) m apos) xs [] pos) (tE c G C W (.meth m ks (.bor i) es df)) := by
  have hr : Room g.k X.A := g.room.mono (by omega)
  refine ⟨fun pins s0 σ H Q I ⟨Fr, F, ρ, ts, us, L, s, hl1, k1⟩ => ?_⟩
  simp only [evE] at k1
  cases he : slot ρ i with
  | none => rw [he] at k1; exact k1.elim
  | some o1 =>
    rw [he] at k1
    dsimp only at k1
    cases ho : asF o1 with
    | none => rw [ho] at k1; exact k1.elim
    | some p =>
      obtain ⟨k, fs⟩ := p
      rw [ho] at k1
      dsimp only at k1
      by_cases hc : ((fs.any fun q => decide (q.1 = m)) || !decide (k ∈ ks)) = true
      · rw [if_pos hc] at k1; exact k1.elim
      · rw [if_neg hc] at k1
        have hc' : ((fs.any fun q => decide (q.1 = m)) || !decide (k ∈ ks)) = false := Bool.eq_false_iff.mpr hc
        rw [Bool.or_eq_false_iff] at hc'
        have hk : k ∈ ks := by simpa using hc'.2
        obtain ⟨f, fd, ps, dv, ds, ok, hd, vd, bd, hcl, hm⟩ := mth_use g hf hk
        have main : ∀ v L', σ[i]? = some (some v) → SR c G Fr F H (ρ.set i none ++ (ts ++ [some o1])) (σ ++ (us ++ [some v])) L' →
            ∃ a dx vs, v = .ref a ∧ H a = some (.ins (c.cl k) dx vs) ∧ vs.lookup m = none ∧ tEs c G C W es σ H fun vs H2 => spF c C (k, m) (v :: (vs ++ dv)) H2 Q (WE W σ) := fun v L' hv s' => by
          refine meth_core (b1 := some i) hd s' (by simpa using hl1) (s.lenT hl1) (fun j e => by cases e; exact hv) ho hc'.1 ?_
          cases h2 : evEs C es (ρ.set i none) with
          | no => rw [h2] at k1; exact k1
          | ex x r2 =>
            rw [h2] at k1
            exact fun cls d H3 F3 L3 h3 le3 xr s3 => k1 cls d H3 F3 L3 (by rw [List.length_set] at h3; exact h3) le3 xr s3
          | ok rs r2 =>
            rw [h2] at k1
            dsimp only at k1 ⊢
            cases hC : C (k, m) (o1 :: (rs ++ df.map .sh)) with
            | no => rw [hC] at k1; exact k1
            | ok t fin =>
              rw [hC] at k1
              exact fun v3 H3 F3 L3 h3 le3 s3 => k1 v3 H3 F3 L3 (by rw [List.length_set] at h3; exact h3) le3 s3
            | ex x fin =>
              rw [hC] at k1
              exact fun cls d H3 F3 L3 h3 le3 xr s3 => k1 cls d H3 F3 L3 (by rw [List.length_set] at h3; exact h3) le3 xr s3
        cases xs with
        | nil =>
          have e0 := h0 rfl
          subst e0
          refine (pe_me0 (s_bor (G := G) g hy) hcl hm ok hr bd vd g.tk rfl hl).run pins s0 σ H Q I ⟨Fr, F, ρ, ts, us, L, s, hl1, o1, he, fun v L' hv s' => ?_⟩
          obtain ⟨a1, dx, vs, q1, q2, q3, Fr2, F2, ρ2, ts2, us2, L2, s3, hl3, k3⟩ := main v L' hv s'
          simp only [evEs] at k3
          exact ⟨a1, dx, vs, q1, q2, q3, k3 [] H F2 L2 trivial .refl (by unfold E.bors; trivial) (by simp) (by simpa using s3)⟩
        | cons e xs => exact (pe_me (s_bor (G := G) g hy) hcl hm ok hr bd vd g.tk h hs rfl hn hl).run pins s0 σ H Q I ⟨Fr, F, ρ, ts, us, L, s, hl1, o1, he, fun v L' hv s' => main v L' hv s'⟩
end MP
/-! MP15b: len of an own object; the parts of an owned list handed on. -/
namespace MP
open PySem PySem.Spec PyProof.Rows L2
variable {c : Cv} {sy : Sy} {X : Cx} {sc : Scope} {N : List Str} {C : Ct} {W : WX} {G : Nat → Option Addr} {Fr F F' H H' : Hp}
/-! ### len -/
theorem len_own {prog : Program} {w : World} {A : Around} {E : Value → Shared → Prop} {s : Shared} {K : PySem.W.Frag} {a Ca f : Addr} {ox : Obj} {od : Option Obj} {Q : Value → Shared → Prop} (KX : K.In s.heap) (I : PySem.W.InstAt s.heap a ox Ca od)
    (hs : PySem.W.findIn K (.ref Ca) "__len__" = some (some (.ref f))) (hf : PySem.W.isFn K (.ref f) = true)
    (h : wpAny (model prog w) A.in1 (call (.ref f) [.ref a]) (fun v s' => ∃ n t, v = .int n t ∧ 0 ≤ n ∧ n < 2 ^ 62 ∧ Q (.int n s'.toks) { s' with toks := s'.toks + 1 }) E s) :
    wpAny (model prog w) A (call (.builtin "len") [.ref a]) Q E s := by
  refine Calls.call_function_entry PySem.kind_len PySem.plain_len PySem.entry_len (PySem.args_len1 _) ?_
  unfold Builtin.«len»
  refine wpAny_bind (m := oneArg "len" _) (wpAny_pure ?_)
  refine wpAny_bind (m := callSpecial? (.ref a) (PySem.Str.ofString "__len__")) (PySem.W.special_fn KX I hs (beq_iff_eq.mp hf) (wpAny_mono h (fun v s' hv => ?_) fun _ _ x => x))
  obtain ⟨n, t, rfl, h0, h1, q⟩ := hv
  refine wpAny_bind (wpAny_holding (wpAny_pure ?_))
  refine wpAny_bind (wpAny_letGo ?_)
  show wpAny _ _ (if n < 0 then _ else _) _ _ _
  rw [if_neg (by omega)]
  show wpAny _ _ (if n ≥ 2 ^ 63 then _ else _) _ _ _
  rw [if_neg (by omega)]
  exact wpAny_bind (wpAny_mkInt (wpAny_pure ⟨_, rfl, q⟩))
/-- where nothing is raised -/
def noX : XK := fun _ _ _ => False
theorem call_lenO {k : Nat} {f Ca : Addr} {fd : FuncData} {ps : List Str} {ds : List Value} {dvs : List V} {sp : Sp} (Fo : FnOk X.prog X.w X.K X.mg X.base (L2.CX X.prog X.w) k f fd ps sp) (hr : Room (k + 1) X.A) (hb : Binds X.K fd ps ds) (hd : Vals dvs ds) (hm : Meth X.K Ca "__len__" f) :
    CallR X (.builtin "len") (fun xs H Q => ∃ a dx fs, xs = [.ref a] ∧ H a = some (.ins Ca dx fs) ∧ sp (.ref a :: dvs) H (fun v H2 => ∃ n, v = .int n ∧ 0 ≤ n ∧ n < 2 ^ 62 ∧ Q (.int n) H2) noX) := by
  intro pins s σ H xs us Q I r h
  obtain ⟨a, dx, fs, rfl, ha, q⟩ := h
  obtain ⟨u, rfl, ru⟩ := vals1 r
  obtain rfl : u = Value.ref a := ru
  obtain ⟨mA, J, _⟩ := ins_get I.hok ha
  obtain ⟨od, J, _⟩ := J.look
  refine len_own I.kIn J hm.at_ hm.fn ?_
  have e0 : Env0 X.prog X.w X.K X.mg X.base X.A.in1 X.stack s H := by
    have e := I.env0
    exact ⟨e.frames, e.mod, e.bs, e.bsz, e.funs, e.frf, e.hok, e.bare⟩
  have r2 : Vals (V.ref a :: dvs) (Value.ref a :: ds) := .cons rfl hd
  have hl : (Value.ref a :: ds).length = ps.length := by rw [← r2.length]; exact Fo.len _ _ _ _ q
  refine wpAny_call (codeAny_mono (Fo.run X.A.in1 X.stack s H ⟨[.ref a], []⟩ (.ref a :: ds) (.ref a :: dvs) _ noX hr.in1 e0 (hb s [.ref a] I.kIn hl) r2 q) fun rr s' hq => ?_)
  cases rr with
  | error e =>
    obtain ⟨_, _, _, _, _, _, _, _, _, _, _, _, z⟩ := hq
    exact z.elim
  | ok fl =>
    cases fl with
    | ret w =>
      obtain ⟨z, H', I', rz, n, ez, h0, h1, qq⟩ := I.after hq
      subst ez
      obtain ⟨t, rfl⟩ := rz
      exact ⟨n, t, rfl, h0, h1, .int n, H', I'.tok _, ⟨_, rfl⟩, qq⟩
    | next => exact False.elim hq
    | brk => exact False.elim hq
    | cont => exact False.elim hq
theorem s_lenO (g : Gy c sy X sc N C W) {ks : List Str} {a : E} {o : Expr} {p pos : Pos} (hb : bltB sy.toSx sc "len" = true) (hs : noStar o = true) (hf : mthB sy ks "__len__" 1 [] = true) (hn : a.bor1 = none) (ha : PE X o (tE c G C W a)) :
    PE X (.Call (.Name "len" p) [o] [] pos) (tE c G C W (.lenO ks a)) := by
  have b := bltB_ok g.toGx hb
  have rule : ∀ k ∈ ks, PE X (.Call (.Name "len" p) [o] [] pos) (fun σ H Q => tE c G C W a σ H fun x H1 => ∃ a dx fs, x = .ref a ∧ H1 a = some (.ins (c.cl k) dx fs) ∧ spF c C (k, "__len__") [.ref a] H1 (fun v H2 => ∃ n, v = .int n ∧ 0 ≤ n ∧ n < 2 ^ 62 ∧ Q (.int n) H2) noX) := by
    intro k hk
    obtain ⟨f, fd, ps, dv, ds, ok, hd, vd, bd, hc, hm⟩ := mth_use g hf hk
    have hdv := hd fun _ => none
    simp only [RL] at hdv
    subst hdv
    refine (pe_callB (call_lenO ok g.room bd vd hm) b.1 b.2 rfl (pa_cons ha pa_nil (star_cons hs)) (he := star_cons hs) (hpl := rfl)).weaken fun σ H Q hw => ?_
    obtain ⟨Fr, F, ρ, ts, us, L, s, hl, k1⟩ := hw
    refine ⟨Fr, F, ρ, ts, us, L, s, hl, ?_⟩
    split
    · rename_i t r1 e1
      rw [e1] at k1
      intro v H' F' L' h1 le s2
      obtain ⟨a1, dx, fs, rfl, q2, q3⟩ := k1 v H' F' L' h1 le s2
      exact ⟨a1, dx, fs, rfl, q2, q3⟩
    · rename_i x r1 e1
      rw [e1] at k1
      exact k1
    · rename_i e1
      rw [e1] at k1
      exact k1
  refine ⟨fun pins s0 σ H Q I ⟨Fr, F, ρ, ts, us, L, s, hl, k1⟩ => ?_⟩
  simp only [evE] at k1
  cases he : evE C a ρ with
  | no => rw [he] at k1; exact k1.elim
  | ex x ρ' =>
    rw [he] at k1
    obtain ⟨k, hk⟩ := mth_some hf
    refine (rule k hk).run pins s0 σ H Q I ⟨Fr, F, ρ, ts, us, L, s, hl, ?_⟩
    rw [he]
    exact k1
  | ok t ρ' =>
    rw [he] at k1
    dsimp only at k1
    cases hz : frz t with
    | none => rw [hz] at k1; exact k1.elim
    | some d =>
      rw [hz] at k1
      cases d with
      | obj k fs =>
        dsimp only at k1
        by_cases hk : k ∈ ks
        · rw [if_pos hk] at k1
          refine (rule k hk).run pins s0 σ H Q I (tE.frz s hl ?_)
          rw [he]
          refine ⟨_, hz, fun v H' F' L' h1 le rv s' => ?_⟩
          have rv0 := rv
          simp only [R] at rv
          obtain ⟨p1, dx, vs, rfl, hp, _⟩ := rv
          refine ⟨p1, dx, vs, rfl, s'.le.ex hp rfl, ?_⟩
          obtain ⟨L0, s0'⟩ := s'.dropLast (s.eqLen hl h1)
          have s1 : SR c G Fr F' H' ((ρ' ++ ts) ++ [some (.sh (.obj k fs))]) ((σ ++ us) ++ [some (.ref p1)]) L0 := s0'.snocF rv0
          have hL : (σ ++ us).length = (ρ' ++ ts).length := s.eqLen hl h1
          obtain ⟨Fr', L2, s3, go⟩ := s1.call hL
          refine ⟨G, Fr', F', [.sh (.obj k fs)], L2, s3, ?_⟩
          cases hC : C (k, "__len__") [.sh (.obj k fs)] with
          | no => rw [hC] at k1; exact k1
          | ex x fin => rw [hC] at k1; exact k1.elim
          | ok t2 fin =>
            rw [hC] at k1
            dsimp only at k1 ⊢
            intro v H2 F2 L3 le2 hfin s4
            split at k1
            · rename_i t3 r3 e1
              split at e1
              · rename_i n fin' e2
                injection e2 with e2 e3
                subst e2 e3
                split at e1
                · rename_i hz2
                  injection e1 with e1 e4
                  subst e1 e4
                  obtain ⟨L5, s5⟩ := go F2 H2 _ _ _ le2 s4
                  have s6 : SR c G Fr F2 H2 (((ρ' ++ ts) ++ fin) ++ [some (.sh (.int n))]) (((σ ++ us) ++ [some (.ref p1)]) ++ [some v]) L5 := by simpa using s5
                  have hv := (s6.lastV (by simp at hfin hL ⊢; omega)).int
                  refine ⟨n, hv, hz2.1, hz2.2, ?_⟩
                  obtain ⟨L6, s7, _⟩ := s6.cut (by simp at hfin hL ⊢; omega)
                  obtain ⟨L7, s8, _⟩ := s7.cut (by omega)
                  subst hv
                  have s9 := s8.snocF (d := .int n) (v := .int n) (by simp only [R])
                  exact k1 _ H2 F2 L7 h1 (le.trans le2) (by simpa using s9)
                · cases e1
              · cases e1
            · rename_i x r3 e1
              split at e1
              · split at e1 <;> cases e1
              · cases e1
            · exact k1.elim
        · rw [if_neg hk] at k1; exact k1.elim
      | _ => exact k1.elim
end MP
namespace MP
open PySem PySem.Spec PyProof.Rows L2
variable {c : Cv} {sy : Sy} {X : Cx} {sc : Scope} {N : List Str} {C : Ct} {W : WX} {G : Nat → Option Addr} {Fr F F' H H' : Hp}
/-! ### the parts of an owned list -/
theorem ROL.toS : ∀ {ts : List T} {vs : List V} {L : List Addr}, ROL c G F H ts vs L → RSl c G F H (ts.map some) (vs.map some) L
  | [], _, _, h => by
    simp only [ROL] at h
    obtain ⟨rfl, rfl⟩ := h
    exact ⟨rfl, rfl⟩
  | t :: r, _, _, h => by
    simp only [ROL] at h
    obtain ⟨v, w, L1, L2, rfl, rfl, x, y⟩ := h
    exact ⟨some v, w.map some, L1, L2, rfl, rfl, ⟨v, rfl, x⟩, y.toS⟩
theorem RSl.toL : ∀ {ts : List T} {vs : List V} {L : List Addr}, RSl c G F H (ts.map some) (vs.map some) L → ROL c G F H ts vs L
  | [], vs, _, h => by
    obtain ⟨e, rfl⟩ := h
    simp only [ROL]
    exact ⟨List.map_eq_nil_iff.mp e, trivial⟩
  | t :: r, vs, _, h => by
    obtain ⟨u, w, L1, L2, e, rfl, ⟨v, rfl, x⟩, y⟩ := h
    cases vs with
    | nil => cases e
    | cons v0 vs =>
      injection e with e1 e2
      injection e1 with e1
      subst e1 e2
      simp only [ROL]
      exact ⟨v0, vs, L1, L2, rfl, rfl, x, y.toL⟩
theorem ROL.len : ∀ {ts : List T} {vs : List V} {L : List Addr}, ROL c G F H ts vs L → vs.length = ts.length
  | [], _, _, h => by
    simp only [ROL] at h
    rw [h.1]; rfl
  | t :: r, _, _, h => by
    simp only [ROL] at h
    obtain ⟨v, w, L1, L2, rfl, rfl, x, y⟩ := h
    rw [List.length_cons, List.length_cons, ROL.len y]
/-- a list's parts are laid into the middle, the list's own object goes to the frame -/
theorem SR.explode {ρ B : List (Option T)} {us ub : List (Option V)} {L : List Addr} {i : Nat} {xs : List T} (s : SR c G Fr F H (ρ ++ B) (us ++ ub) L) (h1 : us.length = ρ.length) (h : ρ[i]? = some (some (.lst xs))) :
    ∃ a vs L', us[i]? = some (some (.ref a)) ∧ H a = some (.lst vs) ∧ vs.length = xs.length ∧ Fr a = none ∧ SR c G (upd Fr a (.lst vs)) F H (ρ.set i none ++ (xs.map some ++ B)) (us ++ (vs.map some ++ ub)) L' := by
  obtain ⟨La, Lb, rfl, x, y⟩ := RSl.split h1 s.sl
  obtain ⟨u, L1, L2, L3, hu, rfl, ⟨v, rfl, r⟩, f⟩ := x.at h
  simp only [RO] at r
  obtain ⟨a, vs, M, rfl, ha, rl, rfl⟩ := r
  have ap := s.ap a (by simp)
  have z := f F H none (some (.ref a)) [] Le.refl ⟨fun _ _ => rfl, fun _ _ _ => rfl⟩ rfl
  rw [set_self hu] at z
  have p : (L1 ++ a :: M ++ L3 ++ Lb).Perm (a :: (L1 ++ [] ++ L3 ++ (M ++ Lb))) := by
    have e : L1 ++ a :: M ++ L3 ++ Lb = L1 ++ a :: (M ++ L3 ++ Lb) := by simp
    rw [e]
    refine List.perm_middle.trans (List.Perm.cons a ?_)
    simp only [List.append_nil, List.append_assoc]
    refine (List.Perm.refl L1).append ?_
    have q := (List.perm_append_comm (l₁ := M) (l₂ := L3)).append_right Lb
    simpa using q
  have nd := List.nodup_cons.mp (p.nodup_iff.mp s.nd)
  have ne : ∀ b ∈ L1 ++ [] ++ L3 ++ (M ++ Lb), b ≠ a := fun b hb e => nd.1 (e ▸ hb)
  refine ⟨a, vs, _, hu, ha, rl.len, ap.2, z.app (rl.toS.app y), nd.2, fun b hb => ?_, s.le, fun b o e => ?_, fun n b gb => ?_, fun b hb => ?_⟩
  · have q := s.ap b (p.mem_iff.mpr (List.mem_cons_of_mem _ hb))
    exact ⟨q.1, by rw [upd_ne (ne b hb)]; exact q.2⟩
  · by_cases q : b = a
    · subst q
      rw [upd_same] at e
      injection e with e; subst e
      exact ha
    · rw [upd_ne q] at e
      exact s.fr b o e
  · by_cases q : b = a
    · subst q
      exact absurd ap.2 (s.gf n b gb)
    · rw [upd_ne q]
      exact s.gf n b gb
  · by_cases q : b = a
    · subst q
      exact ap.1
    · rw [upd_ne q] at hb
      exact s.ff b hb
/-- .. and back -/
theorem SR.implode {ρ B : List (Option T)} {us ub : List (Option V)} {L : List Addr} {i : Nat} {a : Addr} {vs : List V} {xs : List T} (s : SR c G (upd Fr a (.lst vs)) F H (ρ ++ (xs.map some ++ B)) (us ++ (vs.map some ++ ub)) L) (h1 : us.length = ρ.length) (hl : vs.length = xs.length)
    (hu : us[i]? = some (some (.ref a))) (hF : Fr a = none) (gf : ∀ n b, G n = some b → Fr b ≠ none) :
    ∃ L', SR c G Fr F H (ρ.set i (some (.lst xs)) ++ B) (us ++ ub) L' := by
  obtain ⟨La, Lr, rfl, x, y⟩ := RSl.split h1 s.sl
  obtain ⟨M, Lb, rfl, y1, y2⟩ := RSl.split (by simp [hl]) y
  have hi : i < ρ.length := by rw [← h1]; exact (List.getElem?_eq_some_iff.mp hu).1
  obtain ⟨u, L1, L2, L3, hu2, rfl, _, f⟩ := x.at (List.getElem?_eq_getElem hi)
  have ha : H a = some (.lst vs) := s.fr a _ upd_same
  have aF : F a = none := s.ff a (by rw [upd_same]; exact fun q => by cases q)
  have nota : ∀ b ∈ L1 ++ L2 ++ L3 ++ (M ++ Lb), b ≠ a := fun b hb e => by
    have q := (s.ap b hb).2
    rw [e, upd_same] at q
    cases q
  have z := f F H (some (.lst xs)) (some (.ref a)) (a :: M) Le.refl ⟨fun _ _ => rfl, fun _ _ _ => rfl⟩ ⟨.ref a, rfl, by simp only [RO]; exact ⟨a, vs, M, rfl, ha, y1.toL, rfl⟩⟩
  rw [set_self hu] at z
  have p : (L1 ++ (a :: M) ++ L3 ++ Lb).Perm (a :: (L1 ++ L3 ++ (M ++ Lb))) := by
    have e : L1 ++ (a :: M) ++ L3 ++ Lb = L1 ++ a :: (M ++ L3 ++ Lb) := by simp
    rw [e]
    refine List.perm_middle.trans (List.Perm.cons a ?_)
    simp only [List.append_assoc]
    refine (List.Perm.refl L1).append ?_
    have q := (List.perm_append_comm (l₁ := M) (l₂ := L3)).append_right Lb
    simpa using q
  have sub : ∀ b ∈ L1 ++ L3 ++ (M ++ Lb), b ∈ L1 ++ L2 ++ L3 ++ (M ++ Lb) := fun b hb => by
    simp only [List.mem_append] at hb ⊢
    rcases hb with (q | q) | q
    · exact .inl (.inl (.inl q))
    · exact .inl (.inr q)
    · exact .inr q
  have nd0 : (L1 ++ L3 ++ (M ++ Lb)).Nodup := by
    refine List.Nodup.sublist ?_ s.nd
    refine List.Sublist.append ?_ (List.Sublist.refl _)
    refine List.Sublist.append ?_ (List.Sublist.refl _)
    exact List.sublist_append_left _ _
  refine ⟨L1 ++ (a :: M) ++ L3 ++ Lb, z.app y2, p.nodup_iff.mpr (List.nodup_cons.mpr ⟨fun h => nota a (sub a h) rfl, nd0⟩), fun b hb => ?_, s.le, fun b o e => ?_, gf, fun b hb => ?_⟩
  · rcases List.mem_cons.mp (p.mem_iff.mp hb) with rfl | hb
    · exact ⟨aF, hF⟩
    · have q := s.ap b (sub b hb)
      rw [upd_ne (nota b (sub b hb))] at q
      exact q
  · exact s.fr b o (by rw [upd_ne (fun q => by rw [q, hF] at e; cases e)]; exact e)
  · exact s.ff b (by rw [upd_ne (fun q => by rw [q] at hb; exact hb hF)]; exact hb)
end MP
namespace MP
open PySem PySem.Spec PyProof.Rows L2
variable {c : Cv} {sy : Sy} {X : Cx} {sc : Scope} {N : List Str} {C : Ct} {W : WX} {G : Nat → Option Addr} {Fr F F' H H' : Hp}
theorem atI_nat {vs : List V} {j : Nat} {v : V} (h : vs[j]? = some v) : atI vs (j : Int) = some v := by
  have hj := (List.getElem?_eq_some_iff.mp h).1
  unfold atI ixN
  rw [if_pos (by omega), if_pos (by omega)]
  simpa using h
theorem pe_part (g : Gx c sy.toSx X sc N) {i j : Nat} {y : Str} {p jp pos : Pos} {jk} (h : nameB sc N i y = true) :
    PE X (.Subscript (.Name y p) (.Constant (.int (j : Int)) jk jp) pos) (fun σ H Q => ∃ a vs v, σ[i]? = some (some (.ref a)) ∧ H a = some (.lst vs) ∧ vs[j]? = some v ∧ Q v H) :=
  (pe_ix ix_list (pe_slot g h) pe_int (plainIx_of rfl)).weaken fun σ H Q ⟨a, vs, v, h1, h2, h3, q⟩ => ⟨_, h1, a, vs, _, v, rfl, rfl, .of h2, atI_nat h3, q⟩
def partsB (sc : Scope) (N : List Str) (i : Nat) : Nat → List Expr → Bool
  | _, [] => true
  | j, .Subscript (.Name y _) (.Constant (.int n) _ _) _ :: r => nameB sc N i y && decide (n = (j : Int)) && partsB sc N i (j + 1) r
  | _, _ => false
theorem parts_pa (g : Gx c sy.toSx X sc N) {i : Nat} : ∀ {es : List Expr} {j : Nat}, partsB sc N i j es = true →
    PA X es (fun σ H Q => ∃ a vs, σ[i]? = some (some (.ref a)) ∧ H a = some (.lst vs) ∧ vs.length = j + es.length ∧ Q (vs.drop j) H) ∧ noStars es = true
  | [], j, _ => ⟨pa_nil.weaken fun σ H Q ⟨a, vs, h1, h2, h3, q⟩ => by
      rw [List.drop_eq_nil_of_le (by simp at h3; omega)] at q
      exact q, rfl⟩
  | e :: es, j, h => by
    unfold partsB at h
    split at h
    · rename_i h0; cases h0
    · rename_i j j2 es1 y p n jk jp pos r h0
      injection h0 with e1 e2
      subst e1 e2
      simp only [Bool.and_eq_true, decide_eq_true_eq] at h
      obtain ⟨⟨h1, rfl⟩, h2⟩ := h
      obtain ⟨pa, st⟩ := parts_pa g h2
      refine ⟨(pa_cons (pe_part g h1) pa (star_cons rfl)).weaken fun σ H Q ⟨a, vs, q1, q2, q3, q⟩ => ?_, ?_⟩
      · have hj : j < vs.length := by simp at q3; omega
        refine ⟨a, vs, vs[j], q1, q2, List.getElem?_eq_getElem hj, a, vs, q1, q2, by simp at q3 ⊢; omega, ?_⟩
        rw [List.drop_eq_getElem_cons hj] at q
        exact q
      · show (noStar _ && noStars _) = true
        rw [st]; rfl
    · cases h
theorem allT_some : ∀ {fin : Env1} {ts : List T}, allT fin = some ts → fin = ts.map some
  | [], ts, h => by
    unfold allT at h
    injection h with h; subst h; rfl
  | some t :: r, ts, h => by
    unfold allT at h
    split at h
    · rename_i us hu
      injection h with h; subst h
      rw [allT_some hu]; rfl
    · cases h
  | none :: r, ts, h => by unfold allT at h; cases h
theorem s_callP (g : Gy c sy X sc N C W) {x : Str} {p pos : Pos} {i : Nat} {e : Expr} {xs : List Expr} (hx : glB sc x = true) (hdb : (x == ("__debug__" : Str)) = false) (hf : fnB sy ("", x) (e :: xs).length [] = true) (hp : partsB sc N i 0 (e :: xs) = true) :
    PE X (.Call (.Name x p) (e :: xs) [] pos) (tE c G C W (.callP ("", x) i (e :: xs).length)) := by
  obtain ⟨a, fd, ps, dv, ds, ok, hd, vd, bd, kp, hm, _⟩ := fn_use g hf
  have hm := hm rfl
  have hr : Room g.k X.A := g.room.mono (by omega)
  have hdv := hd fun _ => none
  simp only [RL] at hdv
  subst hdv
  obtain ⟨pa, st⟩ := parts_pa g.toGx hp
  refine (pe_fn ok hr (glB_ok g.toGx hx) hm kp bd vd g.tk pa st hdb).weaken fun σ H Q ⟨Fr, F, ρ, ts, us, L, s, hl, k⟩ => ?_
  simp only [evE] at k
  cases hs : slot ρ i with
  | none => rw [hs] at k; exact k.elim
  | some t0 =>
    rw [hs] at k
    cases t0 with
    | lst ys =>
      dsimp only at k
      by_cases hn : ys.length = (e :: xs).length
      · rw [if_pos hn] at k
        obtain ⟨e1, e2⟩ := slot_app (ts := ts) hs
        have h1 : (σ ++ us).length = (ρ ++ ts).length := by have := s.len; exact this
        have s0 : SR c G Fr F H ((ρ ++ ts) ++ []) ((σ ++ us) ++ []) L := by simpa using s
        obtain ⟨o, vs, L', q1, q2, q3, q4, s1⟩ := s0.explode h1 e1
        have q1' : σ[i]? = some (some (.ref o)) := by rw [List.getElem?_append_left (by omega)] at q1; exact q1
        refine ⟨o, vs, q1', q2, by rw [q3, hn]; simp, ?_⟩
        simp only [List.drop_zero, List.append_nil]
        have s2 : SR c G (upd Fr o (.lst vs)) F H ((ρ ++ ts).set i none ++ ys.map some) ((σ ++ us) ++ vs.map some) L' := by simpa using s1
        obtain ⟨Fr', L2, s3, go⟩ := s2.call (by rw [List.length_set]; exact h1)
        refine ⟨G, Fr', F, ys, L2, s3, ?_⟩
        cases hC : C ("", x) ys with
        | no => rw [hC] at k; exact k
        | ok t fin =>
          rw [hC] at k
          dsimp only at k ⊢
          intro v H' F' L3 le hfin s4
          cases ha : allT fin with
          | none => rw [ha] at k; exact k.elim
          | some zs =>
            rw [ha] at k
            have := allT_some ha
            subst this
            obtain ⟨L5, s5⟩ := go F' H' _ _ _ le s4
            obtain ⟨L6, s6⟩ := s5.implode (by rw [List.length_set]; exact h1) (by simpa using hfin.symm) q1 q4 s.gf
            rw [List.set_set, set_app e2] at s6
            exact k v H' F' L6 (by simp) le (by simpa using s6)
        | ex xx fin =>
          rw [hC] at k
          dsimp only at k ⊢
          intro cls d H' F' L3 le hfin xr s4
          cases ha : allT fin with
          | none => rw [ha] at k; exact k.elim
          | some zs =>
            rw [ha] at k
            have := allT_some ha
            subst this
            have s4' : SR c G Fr' F' H' (zs.map some ++ []) (vs.map some ++ []) L3 := by simpa using s4
            obtain ⟨L5, s5⟩ := go F' H' _ _ _ le s4'
            obtain ⟨L6, s6⟩ := s5.implode (by rw [List.length_set]; exact h1) (by simpa using hfin.symm) q1 q4 s.gf
            rw [List.set_set, set_app e2] at s6
            have s7 : SR c G Fr F' H' (ρ.set i (some (.lst zs)) ++ ts) (σ ++ us) L6 := by simpa using s6
            obtain ⟨L8, s8, _⟩ := s7.cut (by simp [hl])
            exact k cls d H' F' L8 (by simp) le xr s8
      · rw [if_neg hn] at k; exact k.elim
    | _ => exact k.elim
end MP
/-! MP16: tests. -/
namespace MP
open PySem PySem.Spec PyProof.Rows L2
variable {c : Cv} {sy : Sy} {X : Cx} {sc : Scope} {N : List Str} {C : Ct} {W : WX} {G : Nat → Option Addr} {Fr F F' H H' : Hp}
/-- a test of a chain of and, or as one whatever its whole is; any other test -/
def isBo : Expr → Bool
  | .BoolOp _ _ _ => true
  | _ => false
/-- a value that is a truth value, as a test: the operand's own test rule -/
def boolT (c : Cv) (G : Nat → Option Addr) (C : Ct) (W : WX) (e : E) : TE := fun σ H Q => ∃ (Fr F : Hp) (ρ ts : List (Option T)) (us : List (Option V)) (L : List Addr), SR c G Fr F H (ρ ++ ts) (σ ++ us) L ∧ ρ.length = σ.length ∧
  match evE C e ρ with
  | .ok (.sh (.bl k)) ρ' => ∀ H' F' L', ρ'.length = ρ.length → Le F F' → SR c G Fr F' H' (ρ' ++ ts) (σ ++ us) L' → Q (.bl k) H'
  | .ex x ρ' => ∀ cls d H' F' L', ρ'.length = ρ.length → Le F F' → ExR c F' H' x cls d → SR c G Fr F' H' ρ' σ L' → W cls d σ H'
  | _ => False
theorem s_bool {e : E} {x : Expr} (h : PE X x (tE c G C W e)) : PE X x (boolT c G C W e) := by
  refine h.weaken fun σ H Q ⟨Fr, F, ρ, ts, us, L, s, hl, k⟩ => ⟨Fr, F, ρ, ts, us, L, s, hl, ?_⟩
  cases he : evE C e ρ with
  | no => rw [he] at k; exact k
  | ex x ρ' => rw [he] at k; exact k
  | ok t ρ' =>
    rw [he] at k
    dsimp only at k ⊢
    intro v H' F' L' h1 le s'
    split at k
    · rename_i kk r1 e1
      injection e1 with e2 e3
      subst e2 e3
      have hL := s.eqLen hl h1
      have := (s'.lastV' hL).bl
      subst this
      obtain ⟨L2, s2⟩ := s'.dropLast hL
      exact k H' F' L2 h1 le s2
    · rename_i e1; cases e1
    · exact k.elim
/-- what evaluates to a truth value, as a test -/
def asTst (e : E) : Prop := ∀ (C : Ct) (ρ : Env1), tsE C e ρ = (match evE C e ρ with
  | .ok (.sh (.bl k)) r1 => .ok k r1
  | .ex x r1 => .ex x r1
  | _ => .no)
theorem s_tst {e : E} {x : Expr} (h : PE X x (tE c G C W e)) (ht : asTst e) (hp : ∀ {t : TE}, PE X x t → PT X x (L2.tB t)) : PT X x (tT c G C W e) := by
  refine (hp (s_bool h)).weaken fun σ H Q ⟨Fr, F, ρ, ts, us, L, s, hl, k⟩ => ⟨Fr, F, ρ, ts, us, L, s, hl, ?_⟩
  rw [ht] at k
  split
  · rename_i kk ρ' e1
    rw [e1] at k
    exact fun H' F' L' h1 le s' => ⟨kk, rfl, k H' F' L' h1 le s'⟩
  · rename_i x ρ' e1
    rw [e1] at k
    exact k
  · rename_i n1 n2
    split at k
    · rename_i e1
      split at e1
      · rename_i e2; exact n1 _ _ e2
      · cases e1
      · cases e1
    · rename_i e1
      split at e1
      · cases e1
      · rename_i e2; exact n2 _ _ e2
      · cases e1
    · exact k
/-- an expression that is no and, or, not, comparison, conditional: its value is looked at -/
def plainTest : Expr → Bool
  | .UnaryOp _ _ _ => false
  | .BoolOp _ _ _ => false
  | .IfExp _ _ _ _ => false
  | .Compare _ _ _ _ => false
  | _ => true
theorem plainTest_eq {x : Expr} (h : plainTest x = true) {env : PySem.Env} : ∀ whole, isTrue x env whole = (do let v ← whole; standAt x.pos; holding [v] (truthy v)) := by
  intro whole
  cases x <;> first | rfl | cases h
theorem pt_plain {x : Expr} (h : plainTest x = true) {t : TE} (ha : PE X x t) : PT X x (L2.tB t) := pt_val ha (plainTest_eq h)
/-- one comparison: from the rule of its operator -/
theorem s_cmpT (g : Gy c sy X sc N C W) {o : Op2} {op : CmpOp} {a b : E} {x y : Expr} {pos : Pos} (ho : cmpOf o = some op) (hy : noSet y = true) (ha : PE X x (tE c G C W a)) (hb : PE X y (tE c G C W b)) : PT X (.Compare x [op] [y] pos) (tT c G C W (.o2 o a b)) := by
  refine ⟨fun pins s0 σ H Q I ⟨Fr, F, ρ, ts, us, L, s, hl, k⟩ => ?_⟩
  simp only [tsE, evE] at k
  cases he : evE C a ρ with
  | no => rw [he] at k; exact k.elim
  | ex x ρ' =>
    rw [he] at k
    obtain ⟨r, h1⟩ := cmp_any (X := X) ho
    refine (pt_cmpR (pos := pos) h1 ha hb (noMarks hy)).run pins s0 σ H Q I ⟨Fr, F, ρ, ts, us, L, s, hl, ?_⟩
    rw [he]
    exact k
  | ok t ρ' =>
    rw [he] at k
    dsimp only at k
    cases he2 : evE C b ρ' with
    | no => rw [he2] at k; exact k.elim
    | ex x ρ2 =>
      rw [he2] at k
      dsimp only at k
      obtain ⟨r, h1⟩ := cmp_any (X := X) ho
      refine (pt_cmpR (pos := pos) h1 ha hb (noMarks hy)).run pins s0 σ H Q I ⟨Fr, F, ρ, ts, us, L, s, hl, ?_⟩
      rw [he]
      intro v H' F' L' h1 le s'
      refine ⟨Fr, F', ρ', _, _, L', s', by omega, ?_⟩
      rw [he2]
      exact fun cls d H3 F3 L3 h3 le3 xr s3 => k cls d H3 F3 L3 (by omega) (le.trans le3) xr s3
    | ok t2 ρ2 =>
      rw [he2] at k
      dsimp only at k
      cases hf : frz t with
      | none => rw [hf] at k; exact k.elim
      | some d =>
        cases hf2 : frz t2 with
        | none => rw [hf, hf2] at k; exact k.elim
        | some d2 =>
          rw [hf, hf2] at k
          dsimp only at k
          cases hu : ev2 o (.sh d) (.sh d2) with
          | none => rw [hu] at k; exact k.elim
          | some u =>
            rw [hu] at k
            dsimp only at k
            obtain ⟨r, h1, ok⟩ := cmp_T g.toGx ho hu
            refine (pt_cmpR (pos := pos) h1 ha hb (noMarks hy)).run pins s0 σ H Q I ?_
            refine tE.frz s hl ?_
            rw [he]
            refine ⟨d, hf, fun v H' F' L' h1 le rv s' => ?_⟩
            refine tE.frz s' (by omega) ?_
            rw [he2]
            refine ⟨d2, hf2, fun w H2 F2 L2 h2 le2 rw2 s2 => ?_⟩
            refine ok G F2 H2 v w _ s2.le (Vw.of (rv.mono le2)) (Vw.of rw2) fun x H3 res => ?_
            cases u with
            | sh du =>
              cases du with
              | bl kk =>
                dsimp only at k
                refine ⟨kk, res.vw.bl, ?_⟩
                have s3 : SR c G Fr F2 H3 ((ρ2 ++ ts) ++ [some (.sh d), some (.sh d2)]) ((σ ++ us) ++ [some v, some w]) L2 := by simpa using s2.to res.ext
                obtain ⟨L3, s4, _⟩ := s3.cut (by have := s.lenT hl; simp; omega)
                exact k H3 F2 L3 (by omega) (le.trans le2) s4
              | _ => exact k.elim
            | _ => exact k.elim
theorem s_k2T (g : Gy c sy X sc N C W) {o : Op2} {op : CmpOp} {a : E} {b : P} {x y : Expr} {pos : Pos} (ho : cmpOf o = some op) (hy : noSet y = true) (ha : PE X x (tE c G C W a)) (hb : chkP sy.toSx sc N b y = true) : PT X (.Compare x [op] [y] pos) (tT c G C W (.k2 o a b)) := by
  refine ⟨fun pins s0 σ H Q I ⟨Fr, F, ρ, ts, us, L, s, hl, k⟩ => ?_⟩
  simp only [tsE, evE] at k
  cases he : evE C a ρ with
  | no => rw [he] at k; exact k.elim
  | ex x ρ' =>
    rw [he] at k
    obtain ⟨r, h1⟩ := cmp_any (X := X) ho
    refine (pt_cmpR (pos := pos) h1 ha (chkP_ok G g.toGx hb) (noMarks hy)).run pins s0 σ H Q I ⟨Fr, F, ρ, ts, us, L, s, hl, ?_⟩
    rw [he]
    exact k
  | ok t ρ' =>
    rw [he] at k
    dsimp only at k
    cases hf : frz t with
    | none => rw [hf] at k; exact k.elim
    | some d =>
      cases hb1 : evP ρ' b with
      | none => rw [hf, hb1] at k; exact k.elim
      | some tb =>
        rw [hf, hb1] at k
        dsimp only at k
        cases hu : ev2 o (.sh d) tb with
        | none => rw [hu] at k; exact k.elim
        | some u =>
          rw [hu] at k
          obtain ⟨r, h1, ok⟩ := cmp_T g.toGx ho hu
          refine (pt_cmpR (pos := pos) h1 ha (chkP_ok G g.toGx hb) (noMarks hy)).run pins s0 σ H Q I ?_
          refine tE.frz s hl ?_
          rw [he]
          refine ⟨d, hf, fun v H' F' L' h1 le rv s' => ?_⟩
          refine ⟨Fr, F', ρ', _, _, L', s', by omega, _, hb1, fun w H2 x2 rw' => ok G F' H2 v w _ (x2.le s'.le) (Vw.of rv) rw' fun x H3 res => ?_⟩
          cases u with
          | sh du =>
            dsimp only at k
            cases du with
            | bl kk =>
              dsimp only at k
              refine ⟨kk, res.vw.bl, ?_⟩
              have s3 : SR c G Fr F' H3 ((ρ' ++ ts) ++ [some (.sh d)]) ((σ ++ us) ++ [some v]) L' := by simpa using s'.to (x2.trans res.ext)
              obtain ⟨L3, s4, _⟩ := s3.cut (by have := s.lenT hl; simp; omega)
              exact k H3 F' L3 h1 le s4
            | _ => exact k.elim
          | _ => exact k.elim
/-! ### pure tests -/
theorem Vw.tru (hK : X.K = c.K) (le : Le F H) {t : T} {v : V} {k : Bool} (h : Vw c G F H t v) (e : tru t = some k) : TruV X.K v H k := by
  have lst : ∀ ts, asL t = some ts → TruV X.K v H (!ts.isEmpty) := fun ts h1 => by
    obtain ⟨a, vs, rfl, e2, e3⟩ := h.lst le h1
    refine .inl ⟨vs, SqL.of e2, ?_⟩
    have := e3.length
    cases ts <;> cases vs <;> simp at this ⊢
  have tup : ∀ ts, asU t = some ts → TruV X.K v H (!ts.isEmpty) := fun ts h1 => by
    obtain ⟨a, vs, rfl, e2, e3⟩ := h.tup le h1
    refine .inr (.inl ⟨vs, by rw [hK]; exact e2, ?_⟩)
    have := e3.length
    cases ts <;> cases vs <;> simp at this ⊢
  unfold MP.tru at e
  split at e
  · injection e with e; subst e; have := h.non; subst this; rfl
  · injection e with e; subst e; have := h.bl; subst this; rfl
  · injection e with e; subst e; have := h.int; subst this; rfl
  · split at e
    · rename_i hz
      injection e with e; subst e; have := h.str; subst this; exact ⟨hz, rfl⟩
    · cases e
  · split at e
    · rename_i ts h1
      injection e with e; subst e
      exact lst ts h1
    · split at e
      · rename_i ts h1
        injection e with e; subst e
        exact tup ts h1
      · cases e
theorem s_pT (g : Gy c sy X sc N C W) {q : P} {x : Expr} (hp : plainTest x = true) (h : chkP sy.toSx sc N q x = true) : PT X x (tT c G C W (.p q)) := by
  refine (pt_truth (chkP_ok G g.toGx h) (plainTest_eq hp)).weaken fun σ H Q ⟨Fr, F, ρ, ts, us, L, s, hl, k⟩ => ?_
  simp only [tsE] at k
  cases he : evP ρ q with
  | none => rw [he] at k; exact k.elim
  | some t =>
    rw [he] at k
    dsimp only at k
    cases ht : tru t with
    | none => rw [ht] at k; exact k.elim
    | some b =>
      rw [ht] at k
      exact ⟨Fr, F, ρ, ts, us, L, s, hl, t, he, fun v H' x vw => ⟨b, vw.tru g.kk (x.le s.le) ht, k H' F L rfl .refl (s.to x)⟩⟩
theorem cmp_bl {o : Op2} {op : CmpOp} {s t u : T} (z : cmpOf o = some op) (hu : ev2 o s t = some u) : ∃ k, u = tB k := by
  have mp : ∀ {a : Option Bool} {f : Bool → T} {u : T}, (∀ k, ∃ k', f k = tB k') → a.map f = some u → ∃ k, u = tB k := fun {a f u} hf h => by
    obtain ⟨k, _, e⟩ := Option.map_eq_some_iff.mp h
    obtain ⟨k', e'⟩ := hf k
    exact ⟨k', by rw [← e, e']⟩
  cases o <;> simp only [cmpOf, reduceCtorEq] at z <;> simp only [ev2] at hu
  · split at hu
    · injection hu with hu; exact ⟨_, hu.symm⟩
    · split at hu
      · injection hu with hu; exact ⟨_, hu.symm⟩
      · split at hu
        · injection hu with hu; exact ⟨false, hu.symm⟩
        · cases hu
  · split at hu
    · injection hu with hu; exact ⟨_, hu.symm⟩
    · split at hu
      · injection hu with hu; exact ⟨_, hu.symm⟩
      · split at hu
        · injection hu with hu; exact ⟨false, hu.symm⟩
        · split at hu
          · injection hu with hu; exact ⟨true, hu.symm⟩
          · cases hu
  · split at hu
    · exact mp (fun k => ⟨k, rfl⟩) hu
    · cases hu
  · split at hu
    · exact mp (fun k => ⟨k, rfl⟩) hu
    · cases hu
  · split at hu
    · exact mp (fun k => ⟨k, rfl⟩) hu
    · cases hu
  · split at hu
    · exact mp (fun k => ⟨k, rfl⟩) hu
    · cases hu
  · exact mp (fun k => ⟨k, rfl⟩) hu
  · exact mp (fun k => ⟨!k, rfl⟩) hu
theorem s_pcT (g : Gy c sy X sc N C W) {o : Op2} {op : CmpOp} {a b : P} {x y : Expr} {pos : Pos} (ho : cmpOf o = some op) (hy : noSet y = true) (ha : chkP sy.toSx sc N a x = true) (hb : chkP sy.toSx sc N b y = true) : PT X (.Compare x [op] [y] pos) (tT c G C W (.p (.o2 o a b))) := by
  refine ⟨fun pins s0 σ H Q I ⟨Fr, F, ρ, ts, us, L, s, hl, k⟩ => ?_⟩
  simp only [tsE, evP] at k
  cases e1 : evP ρ a with
  | none => rw [e1] at k; exact k.elim
  | some t1 =>
    cases e2 : evP ρ b with
    | none => rw [e1, e2] at k; exact k.elim
    | some t2 =>
      rw [e1, e2] at k
      dsimp only at k
      cases hu : ev2 o t1 t2 with
      | none => rw [hu] at k; exact k.elim
      | some u =>
        rw [hu] at k
        dsimp only at k
        obtain ⟨r, h1, ok⟩ := cmp_T g.toGx ho hu
        refine (pt_cmpR (pos := pos) h1 (chkP_ok G g.toGx ha) (chkP_ok G g.toGx hb) (noMarks hy)).run pins s0 σ H Q I ?_
        refine ⟨Fr, F, ρ, ts, us, L, s, hl, t1, e1, fun v H1 x1 w1 => ?_⟩
        refine ⟨Fr, F, ρ, ts, us, L, s.to x1, hl, t2, e2, fun w H2 x2 w2 => ?_⟩
        refine ok G F H2 v w _ ((x1.trans x2).le s.le) (w1.to x2 (s.to x1).gs) w2 fun x H3 res => ?_
        have ub := cmp_bl ho hu
        obtain ⟨kk, rfl⟩ := ub
        exact ⟨kk, res.vw.bl, k H3 F L rfl .refl (s.to ((x1.trans x2).trans res.ext))⟩
theorem s_pnT (g : Gy c sy X sc N C W) {neg : Bool} {a : P} {x : Expr} {j : Nat} {pos' pos : Pos} (ha : chkP sy.toSx sc N a x = true) : PT X (.Compare x [if neg then .IsNot else .Is] [.Constant .none j pos'] pos) (tT c G C W (.p (.o1 (if neg then .notN else .isN) a))) := by
  have core : ∀ {σ H Q}, tT c G C W (.p (.o1 (if neg then .notN else .isN) a)) σ H Q → tP c G a σ H fun v H1 => Q (if neg then !decide (v = .non) else decide (v = .non)) H1 := by
    intro σ H Q ⟨Fr, F, ρ, ts, us, L, s, hl, k⟩
    simp only [tsE, evP] at k
    cases e1 : evP ρ a with
    | none => rw [e1] at k; exact k.elim
    | some t1 =>
      rw [e1] at k
      refine ⟨Fr, F, ρ, ts, us, L, s, hl, t1, e1, fun v H1 x1 w1 => ?_⟩
      show Q (if neg = true then !decide (v = .non) else decide (v = .non)) H1
      rw [w1.isN]
      cases neg with
      | true => exact k H1 F L rfl .refl (s.to x1)
      | false => exact k H1 F L rfl .refl (s.to x1)
  cases neg with
  | true =>
    refine (pt_cmp (pc_notN (chkP_ok G g.toGx ha)) rfl).weaken fun σ H Q h => ?_
    obtain ⟨Fr, F, ρ, ts, us, L, s, hl, t, e, k⟩ := core h
    exact ⟨Fr, F, ρ, ts, us, L, s, hl, t, e, fun v H' x w => ⟨_, rfl, k v H' x w⟩⟩
  | false =>
    refine (pt_cmp (pc_isN (chkP_ok G g.toGx ha)) rfl).weaken fun σ H Q h => ?_
    obtain ⟨Fr, F, ρ, ts, us, L, s, hl, t, e, k⟩ := core h
    exact ⟨Fr, F, ρ, ts, us, L, s, hl, t, e, fun v H' x w => ⟨_, rfl, k v H' x w⟩⟩
/-! ### and, or, not as tests -/
theorem s_one {op : BoolOp} {x : Expr} {pos : Pos} {t : TT} (h : PT X x t) : PW X (.BoolOp op [x] pos) t := by
  cases op with
  | And => exact pw_and1 h
  | Or => exact pw_or1 h
theorem s_andT {a b : E} {x y : Expr} {r : List Expr} {pos : Pos} (ha : PT X x (tT c G C W a)) (hb : PW X (.BoolOp .And (y :: r) pos) (tT c G C W b)) : PW X (.BoolOp .And (x :: y :: r) pos) (tT c G C W (.and a b)) := by
  refine ⟨fun wh pins s0 σ H Q I ⟨Fr, F, ρ, ts, us, L, s, hl, k⟩ => (pw_and ha hb).run wh pins s0 σ H Q I ⟨Fr, F, ρ, ts, us, L, s, hl, ?_⟩⟩
  simp only [tsE] at k
  cases he : tsE C a ρ with
  | no => rw [he] at k; exact k
  | ex x ρ' => rw [he] at k; exact k
  | ok q ρ' =>
    rw [he] at k
    dsimp only at k ⊢
    intro H' F' L' h1 le s'
    cases q with
    | false =>
      rw [if_neg (by simp)]
      exact k H' F' L' h1 le s'
    | true =>
      rw [if_pos rfl]
      refine ⟨Fr, F', ρ', ts, us, L', s', by omega, ?_⟩
      dsimp only at k
      cases h2 : tsE C b ρ' with
      | no => rw [h2] at k; exact k
      | ex x r2 => rw [h2] at k; exact fun cls d H3 F3 L3 h3 le3 xr s3 => k cls d H3 F3 L3 (by omega) (le.trans le3) xr s3
      | ok q r2 => rw [h2] at k; exact fun H3 F3 L3 h3 le3 s3 => k H3 F3 L3 (by omega) (le.trans le3) s3
theorem s_orT {a b : E} {x y : Expr} {r : List Expr} {pos : Pos} (ha : PT X x (tT c G C W a)) (hb : PW X (.BoolOp .Or (y :: r) pos) (tT c G C W b)) : PW X (.BoolOp .Or (x :: y :: r) pos) (tT c G C W (.or a b)) := by
  refine ⟨fun wh pins s0 σ H Q I ⟨Fr, F, ρ, ts, us, L, s, hl, k⟩ => (pw_or ha hb).run wh pins s0 σ H Q I ⟨Fr, F, ρ, ts, us, L, s, hl, ?_⟩⟩
  simp only [tsE] at k
  cases he : tsE C a ρ with
  | no => rw [he] at k; exact k
  | ex x ρ' => rw [he] at k; exact k
  | ok q ρ' =>
    rw [he] at k
    dsimp only at k ⊢
    intro H' F' L' h1 le s'
    cases q with
    | true =>
      rw [if_pos rfl]
      exact k H' F' L' h1 le s'
    | false =>
      rw [if_neg (by simp)]
      refine ⟨Fr, F', ρ', ts, us, L', s', by omega, ?_⟩
      dsimp only at k
      cases h2 : tsE C b ρ' with
      | no => rw [h2] at k; exact k
      | ex x r2 => rw [h2] at k; exact fun cls d H3 F3 L3 h3 le3 xr s3 => k cls d H3 F3 L3 (by omega) (le.trans le3) xr s3
      | ok q r2 => rw [h2] at k; exact fun H3 F3 L3 h3 le3 s3 => k H3 F3 L3 (by omega) (le.trans le3) s3
theorem s_notT {a : E} {x : Expr} {pos : Pos} (ha : PT X x (tT c G C W a)) : PT X (.UnaryOp .Not x pos) (tT c G C W (.not a)) := by
  refine (pt_not ha).weaken fun σ H Q ⟨Fr, F, ρ, ts, us, L, s, hl, k⟩ => ⟨Fr, F, ρ, ts, us, L, s, hl, ?_⟩
  simp only [tsE] at k
  cases he : tsE C a ρ with
  | no => rw [he] at k; exact k
  | ex x ρ' => rw [he] at k; exact k
  | ok q ρ' => rw [he] at k; exact k
end MP
/-! MP16b: a new thing from what is looked at; an owned slot compared with a new value. -/
namespace MP
open PySem PySem.Spec PyProof.Rows L2
variable {c : Cv} {sy : Sy} {X : Cx} {sc : Scope} {N : List Str} {C : Ct} {W : WX} {G : Nat → Option Addr} {Fr F F' H H' : Hp}
theorem SR.slotVw {ρ ts : List (Option T)} {σ us : List (Option V)} {L : List Addr} {i : Nat} {t : T} (s : SR c G Fr F H (ρ ++ ts) (σ ++ us) L) (hl : ρ.length = σ.length) (h : slot ρ i = some t) : ∃ v, σ[i]? = some (some v) ∧ Vw c G F H t v := by
  obtain ⟨e1, e2⟩ := slot_app (ts := ts) h
  obtain ⟨u, L1, L2, L3, hu, rfl, ⟨v, rfl, r⟩, f⟩ := s.sl.at e1
  rw [List.getElem?_append_left (by omega)] at hu
  exact ⟨v, hu, L2, r⟩
theorem s_n1 (g : Gy c sy X sc N C W) {o : Op1} {q : P} {e e1 : Expr} (hs : sub1 sy.toSx sc o e = some e1) (hq : chkP sy.toSx sc N q e1 = true) : PE X e (tE c G C W (.n1 o q)) := by
  refine ⟨fun pins s0 σ H Q I ⟨Fr, F, ρ, ts, us, L, s, hl, k⟩ => ?_⟩
  simp only [evE] at k
  cases he : evP ρ q with
  | none => rw [he] at k; exact k.elim
  | some t =>
    rw [he] at k
    dsimp only at k
    cases hu : ev1 o t with
    | none => rw [hu] at k; exact k.elim
    | some u =>
      rw [hu] at k
      dsimp only at k
      obtain ⟨r, rl, ok⟩ := sub1_ok g.toGx hs hu
      refine (rl _ (chkP_ok G g.toGx hq)).run pins s0 σ H Q I ⟨Fr, F, ρ, ts, us, L, s, hl, t, he, fun v H1 x1 vw => ?_⟩
      have s1 := s.to x1
      refine ok G F H1 v Q s1.le vw fun x H2 res => ?_
      obtain ⟨L3, s4⟩ := s1.res res
      exact k x H2 F L3 rfl .refl (by simpa using s4)
theorem s_vkT (g : Gy c sy X sc N C W) {o : Op2} {op : CmpOp} {i : Nat} {b : E} {x : Str} {p : Pos} {y : Expr} {pos : Pos} (ho : cmpOf o = some op) (hy : noSet y = true) (hx : nameB sc N i x = true) (hb : PE X y (tE c G C W b)) :
    PT X (.Compare (.Name x p) [op] [y] pos) (tT c G C W (.vk o i b)) := by
  refine ⟨fun pins s0 σ H Q I ⟨Fr, F, ρ, ts, us, L, s, hl, k⟩ => ?_⟩
  simp only [tsE, evE] at k
  cases h0 : slot ρ i with
  | none => rw [h0] at k; exact k.elim
  | some t0 =>
    rw [h0] at k
    dsimp only at k
    obtain ⟨v0, hv0, _⟩ := s.slotVw hl h0
    cases he : evE C b ρ with
    | no => rw [he] at k; exact k.elim
    | ex z ρ' =>
      rw [he] at k
      dsimp only at k
      obtain ⟨r, h1⟩ := cmp_any (X := X) ho
      refine (pt_cmpR (pos := pos) h1 (pe_slot g.toGx hx) hb (noMarks hy)).run pins s0 σ H Q I ⟨v0, hv0, Fr, F, ρ, ts, us, L, s, hl, ?_⟩
      rw [he]
      exact k
    | ok t ρ' =>
      rw [he] at k
      dsimp only at k
      cases hs : slot ρ' i with
      | none => rw [hs] at k; cases frz t <;> exact k.elim
      | some t1 =>
        cases hf : frz t with
        | none => rw [hs, hf] at k; exact k.elim
        | some d =>
          rw [hs, hf] at k
          dsimp only at k
          cases hu : ev2 o t1 (.sh d) with
          | none => rw [hu] at k; exact k.elim
          | some u =>
            rw [hu] at k
            obtain ⟨r, h1, ok⟩ := cmp_T g.toGx ho hu
            refine (pt_cmpR (pos := pos) h1 (pe_slot g.toGx hx) hb (noMarks hy)).run pins s0 σ H Q I ⟨v0, hv0, ?_⟩
            refine tE.frz s hl ?_
            rw [he]
            refine ⟨d, hf, fun v H' F' L' hlen le rv s' => ?_⟩
            obtain ⟨v1, hv1, vw1⟩ := s'.slotVw (by omega) hs
            rw [hv0] at hv1
            injection hv1 with hv1; injection hv1 with hv1
            subst hv1
            refine ok G F' H' v0 v _ s'.le vw1 (Vw.of rv) fun x H3 res => ?_
            cases u with
            | sh du =>
              dsimp only at k
              cases du with
              | bl kk =>
                dsimp only at k
                refine ⟨kk, res.vw.bl, ?_⟩
                have s3 : SR c G Fr F' H3 ((ρ' ++ ts) ++ [some (.sh d)]) ((σ ++ us) ++ [some v]) L' := by simpa using s'.to res.ext
                obtain ⟨L3, s4, _⟩ := s3.cut (by have := s.lenT hl; simp; omega)
                exact k H3 F' L3 hlen le s4
              | _ => exact k.elim
            | _ => exact k.elim
end MP
/-! MP17: targets, iterators. -/
namespace MP
open PySem PySem.Spec PyProof.Rows L2
structure Gz (c : Cv) (sy : Sy) (X : Cx) (sc : Scope) (N : List Str) (wc : List Str) (C : Ct) (W : WX) extends Gy c sy X sc N C W where
  wcs : ∀ x ∈ wc, X.fn x = true
variable {c : Cv} {sy : Sy} {X : Cx} {sc : Scope} {N : List Str} {wc : List Str} {C : Ct} {W : WX} {G : Nat → Option Addr} {Fr F F' H H' : Hp}
/-- a slot is put: nothing, or something frozen -/
theorem SR.put {ρ : List (Option T)} {us : List (Option V)} {L : List Addr} {i : Nat} {o : Option T} {u : Option V} (s : SR c G Fr F H ρ us L) (h : i < ρ.length) (r : o = none ∨ ∃ d v, o = some (.sh d) ∧ u = some v ∧ R c F d v) :
    ∃ L', SR c G Fr F H (ρ.set i o) (us.set i u) L' ∧ (∀ a ∈ L', a ∈ L) := by
  obtain ⟨u0, L1, L2, L3, hu, rfl, x, f⟩ := s.sl.at (List.getElem?_eq_getElem h)
  have z := f F H o u [] Le.refl ⟨fun _ _ => rfl, fun _ _ _ => rfl⟩ (by
    rcases r with rfl | ⟨d, v, rfl, rfl, r⟩
    · rfl
    · exact ⟨v, rfl, by simp only [RO]; exact ⟨trivial, r⟩⟩)
  have nd := s.nd
  rw [List.append_assoc] at nd
  obtain ⟨n1, n2, n3⟩ := List.nodup_append.mp nd
  have sub : ∀ a ∈ L1 ++ [] ++ L3, a ∈ L1 ++ L2 ++ L3 := fun a ha => by
    have ha' : a ∈ L1 ∨ a ∈ L3 := by simpa using ha
    rcases ha' with q | q <;> simp [q]
  refine ⟨L1 ++ [] ++ L3, ⟨z, ?_, fun a ha => s.ap a (sub a ha), s.le, s.fr, s.gf, s.ff⟩, sub⟩
  simp only [List.append_nil]
  rw [List.nodup_append]
  exact ⟨n1, (List.nodup_append.mp n2).2.1, fun a ha b hb => n3 a ha b (List.mem_append_right _ hb)⟩
/-! ### targets -/
def locB (sc : Scope) (wc : List Str) (x : Str) : Bool := match sc.names.lookup x with
  | some .local => true
  | some .cell => decide (x ∈ wc)
  | _ => false
def isTgt : Expr → Bool
  | .Name _ _ => true
  | .Tuple _ _ _ => true
  | _ => false
def chkT (sc : Scope) (N wc : List Str) : Tg → Expr → Bool
  | .var i, .Name x _ => decide (N[i]? = some x) && locB sc wc x
  | .nil, .Tuple [] _ _ => true
  | .cons a b, .Tuple (e :: es) k pos => isTgt e && chkT sc N wc a e && chkT sc N wc b (.Tuple es k pos)
  | _, _ => false
def tTg (c : Cv) (G : Nat → Option Addr) (kp : Nat → Bool) (g : Tg) : TG := fun v σ H Q => ∃ (Fr F : Hp) (ρ ts : List (Option T)) (us : List (Option V)) (L : List Addr) (d : D) (ρ' : Env1), SR c G Fr F H (ρ ++ ts) (σ ++ us) L ∧ ρ.length = σ.length ∧ R c F d v ∧ bindT kp g d ρ = some ρ' ∧
  ∀ σ' L', ρ'.length = ρ.length → σ'.length = σ.length → (∀ i, (kp i = true ∨ i ∉ g.slots) → σ'[i]? = σ[i]?) → SR c G Fr F H (ρ' ++ ts) (σ' ++ us) L' → Q σ' H
def tTgs (c : Cv) (G : Nat → Option Addr) (kp : Nat → Bool) (g : Tg) : TGs := fun vs σ H Q => ∃ (Fr F : Hp) (ρ ts : List (Option T)) (us : List (Option V)) (L : List Addr) (ds : List D) (ρ' : Env1), SR c G Fr F H (ρ ++ ts) (σ ++ us) L ∧ ρ.length = σ.length ∧ RL c F ds vs ∧ bindT kp g (.tup ds) ρ = some ρ' ∧
  ∀ σ' L', ρ'.length = ρ.length → σ'.length = σ.length → (∀ i, (kp i = true ∨ i ∉ g.slots) → σ'[i]? = σ[i]?) → SR c G Fr F H (ρ' ++ ts) (σ' ++ us) L' → Q σ' H
theorem bindT_nil {kp : Nat → Bool} {d : D} {ρ ρ' : Env1} (h : bindT kp .nil d ρ = some ρ') : d = .tup [] ∧ ρ' = ρ := by
  unfold bindT at h
  split at h
  · rename_i e; cases e
  · injection h with h; exact ⟨rfl, h.symm⟩
  · rename_i e; cases e
  · cases h
theorem bindT_cons {kp : Nat → Bool} {a b : Tg} {d : D} {ρ ρ' : Env1} (h : bindT kp (.cons a b) d ρ = some ρ') : ∃ d0 ds r', d = .tup (d0 :: ds) ∧ bindT kp a d0 ρ = some r' ∧ bindT kp b (.tup ds) r' = some ρ' := by
  unfold bindT at h
  split at h
  · rename_i e; cases e
  · rename_i e; cases e
  · rename_i e
    injection e with e1 e2
    subst e1 e2
    split at h
    · rename_i r' hr; exact ⟨_, _, r', rfl, hr, h⟩
    · cases h
  · cases h
theorem chkT_var {i : Nat} {e : Expr} (h : chkT sc N wc (.var i) e = true) : ∃ x pos, e = .Name x pos ∧ N[i]? = some x ∧ locB sc wc x = true := by
  unfold chkT at h
  split at h
  · rename_i e1
    injection e1 with e1; subst e1
    simp only [Bool.and_eq_true, decide_eq_true_eq] at h
    exact ⟨_, _, rfl, h.1, h.2⟩
  · rename_i e1; cases e1
  · rename_i e1; cases e1
  · cases h
theorem chkT_nil {e : Expr} (h : chkT sc N wc .nil e = true) : ∃ k pos, e = .Tuple [] k pos := by
  unfold chkT at h
  split at h
  · rename_i e1; cases e1
  · exact ⟨_, _, rfl⟩
  · rename_i e1; cases e1
  · cases h
theorem chkT_cons {a b : Tg} {e : Expr} (h : chkT sc N wc (.cons a b) e = true) : ∃ e0 es k pos, e = .Tuple (e0 :: es) k pos ∧ isTgt e0 = true ∧ chkT sc N wc a e0 = true ∧ chkT sc N wc b (.Tuple es k pos) = true := by
  unfold chkT at h
  split at h
  · rename_i e1; cases e1
  · rename_i e1; cases e1
  · rename_i e1
    injection e1 with e1 e2
    subst e1 e2
    simp only [Bool.and_eq_true] at h
    exact ⟨_, _, _, _, rfl, h.1.1, h.1.2, h.2⟩
  · cases h
theorem tgt_star {e : Expr} {es : List Expr} {env : PySem.Env} (h : isTgt e = true) : assignEach (e :: es) env = (false, assign e env) :: assignEach es env := by
  cases e <;> first | rfl | cases h
theorem bindT_var {kp : Nat → Bool} {i : Nat} {d : D} {ρ ρ' : Env1} (h : bindT kp (.var i) d ρ = some ρ') : kp i = false ∧ i < ρ.length ∧ ρ' = ρ.set i (some (.sh d)) := by
  simp only [bindT] at h
  split at h
  · cases h
  · rename_i hk
    split at h
    · rename_i hi
      injection h with h
      exact ⟨by simpa using hk, hi, h.symm⟩
    · cases h
theorem g_var {kp : Nat → Bool} (g : Gz c sy X sc N wc C W) {i : Nat} {x : Str} {pos : Pos} (h1 : N[i]? = some x) (h2 : locB sc wc x = true) : PG X (.Name x pos) (tTg c G kp (.var i)) := by
  have hl : L2.Loc sc x ∧ (X.fn x = true ∨ sc.names.lookup x = some .local) := by
    unfold locB at h2
    unfold L2.Loc
    split at h2
    · rename_i e; exact ⟨.inl e, .inr e⟩
    · rename_i e; exact ⟨.inr e, .inl (g.wcs x (of_decide_eq_true h2))⟩
    · cases h2
  have hx : L2.Loc X.env.scope x := by rw [g.scp]; exact hl.1
  have hf : X.fn x = true ∨ X.env.scope.names.lookup x = some .local := by rw [g.scp]; exact hl.2
  refine ⟨fun pins s σ H v u Q I r ⟨Fr, F, ρ, ts, us, L, d, ρ', sr, hlen, rd, hb, k⟩ => ?_⟩
  refine (pg_name (i := i) (by rw [g.nn]; exact g.nd) (by rw [g.nn]; exact h1) hx hf).run pins s σ H v u Q I r ?_
  show Q (σ.set i (some v)) H
  obtain ⟨hk, hi, rfl⟩ := bindT_var hb
  obtain ⟨L', s2, _⟩ := sr.put (i := i) (o := some (.sh d)) (u := some v) (by simp; omega) (.inr ⟨d, v, rfl, rfl, rd⟩)
  rw [set_app hi, set_app (by omega)] at s2
  refine k _ L' (by simp) (by simp) (fun j hj => ?_) s2
  have ne : i ≠ j := fun e => by
    subst e
    rcases hj with hj | hj
    · rw [hk] at hj; cases hj
    · exact hj (by simp [Tg.slots])
  rw [List.getElem?_set_ne ne]
theorem bindT_len {kp : Nat → Bool} : ∀ {t : Tg} {d : D} {ρ ρ' : Env1}, bindT kp t d ρ = some ρ' → ρ'.length = ρ.length
  | .var i, d, ρ, ρ', h => by
    obtain ⟨_, _, rfl⟩ := bindT_var h
    simp
  | .nil, d, ρ, ρ', h => by rw [(bindT_nil h).2]
  | .cons a b, d, ρ, ρ', h => by
    obtain ⟨d0, ds, r', _, h1, h2⟩ := bindT_cons h
    rw [bindT_len h2, bindT_len h1]
theorem bindT_tup {kp : Nat → Bool} {t : Tg} {d : D} {ρ ρ' : Env1} (hv : ∀ i, t ≠ .var i) (h : bindT kp t d ρ = some ρ') : ∃ ds, d = .tup ds := by
  cases t with
  | var i => exact absurd rfl (hv i)
  | nil => exact ⟨_, (bindT_nil h).1⟩
  | cons a b => obtain ⟨d0, ds, _, e, _⟩ := bindT_cons h; exact ⟨_, e⟩
theorem g_tup {kp : Nat → Bool} (g : Gz c sy X sc N wc C W) {t : Tg} {es : List Expr} {k : Nat} {pos : Pos} (hv : ∀ i, t ≠ .var i) (h : PGs X es (tTgs c G kp t)) (hn : (assignEach es X.env).length = es.length) (hst : (assignEach es X.env).findIdx? (·.1) = none) (hl : ∀ ds ρ ρ', bindT kp t (.tup ds) ρ = some ρ' → ds.length = es.length) :
    PG X (.Tuple es k pos) (tTg c G kp t) := by
  refine ⟨fun pins s σ H v u Q I r ⟨Fr, F, ρ, ts, us, L, d, ρ', sr, hlen, rd, hb, kk⟩ => ?_⟩
  refine (pg_tup g.calm h hn hst).run pins s σ H v u Q I r ?_
  obtain ⟨ds, rfl⟩ := bindT_tup hv hb
  simp only [R] at rd
  obtain ⟨a, vs, rfl, sq, rl⟩ := rd
  refine ⟨a, vs, rfl, by rw [g.kk]; exact sr.le.sqT sq, ?_, Fr, F, ρ, ts, us, L, ds, ρ', sr, hlen, rl, hb, kk⟩
  rw [rl.length]
  exact hl _ _ _ hb
theorem tgs_len {kp : Nat → Bool} : ∀ {t : Tg} {es : List Expr} {k : Nat} {pos : Pos} {ds : List D} {ρ ρ' : Env1}, chkT sc N wc t (.Tuple es k pos) = true → bindT kp t (.tup ds) ρ = some ρ' → ds.length = es.length
  | .var i, es, _, _, _, _, _, h, _ => by obtain ⟨_, _, e, _⟩ := chkT_var h; cases e
  | .nil, es, _, _, ds, _, _, h, hb => by
    obtain ⟨_, _, e⟩ := chkT_nil h
    injection e with e; subst e
    have := (bindT_nil hb).1
    injection this with e; subst e
    rfl
  | .cons a b, es, k, pos, ds, ρ, ρ', h, hb => by
    obtain ⟨e0, es', k', pos', e, _, _, h2⟩ := chkT_cons h
    injection e with e1 e2 e3; subst e1 e2 e3
    obtain ⟨d0, ds', r', e, _, hb2⟩ := bindT_cons hb
    injection e with e; subst e
    simp only [List.length_cons, tgs_len h2 hb2]
theorem tgs_star : ∀ {t : Tg} {es : List Expr} {k : Nat} {pos : Pos} {env : PySem.Env}, chkT sc N wc t (.Tuple es k pos) = true → (assignEach es env).length = es.length ∧ (assignEach es env).findIdx? (·.1) = none
  | .var i, es, _, _, _, h => by obtain ⟨_, _, e, _⟩ := chkT_var h; cases e
  | .nil, es, _, _, _, h => by
    obtain ⟨_, _, e⟩ := chkT_nil h
    injection e with e; subst e
    exact ⟨rfl, rfl⟩
  | .cons a b, es, k, pos, env, h => by
    obtain ⟨e0, es', k', pos', e, h1, _, h2⟩ := chkT_cons h
    injection e with e1 e2 e3; subst e1 e2 e3
    obtain ⟨q1, q2⟩ := tgs_star (env := env) h2
    rw [tgt_star h1]
    refine ⟨by simp [q1], ?_⟩
    rw [List.findIdx?_cons]
    simp [q2]
theorem tgs_ok {kp : Nat → Bool} (g : Gz c sy X sc N wc C W) : ∀ {t : Tg} {es : List Expr} {k : Nat} {pos : Pos}, chkT sc N wc t (.Tuple es k pos) = true → PGs X es (tTgs c G kp t)
  | .var i, es, _, _, h => by obtain ⟨_, _, e, _⟩ := chkT_var h; cases e
  | .nil, es, _, _, h => by
    obtain ⟨_, _, e⟩ := chkT_nil h
    injection e with e; subst e
    refine ⟨fun pins s σ H vs us Q I r ⟨Fr, F, ρ, ts, us', L, ds, ρ', sr, hlen, rd, hb, k⟩ => pgs_nil.run pins s σ H vs us Q I r ?_⟩
    obtain ⟨e, rfl⟩ := bindT_nil hb
    injection e with e; subst e
    simp only [RL] at rd
    exact ⟨rd, k σ L rfl rfl (fun _ _ => rfl) sr⟩
  | .cons a b, es, k, pos, h => by
    obtain ⟨e0, es', k', pos', e, h0, h1, h2⟩ := chkT_cons h
    injection e with e1 e2 e3; subst e1 e2 e3
    have hb := tgs_ok (kp := kp) g h2
    have ha : PG X e0 (tTg c G kp a) := by
      cases a with
      | var i =>
        obtain ⟨_, _, rfl, q1, q2⟩ := chkT_var h1
        exact g_var g q1 q2
      | nil =>
        obtain ⟨k2, p2, rfl⟩ := chkT_nil h1
        exact g_tup g (by intro i e; cases e) (tgs_ok g h1) (tgs_star h1).1 (tgs_star h1).2 fun ds ρ ρ' hb => tgs_len h1 hb
      | cons a1 b1 =>
        obtain ⟨_, _, _, _, rfl, _, _, _⟩ := chkT_cons h1
        exact g_tup g (by intro i e; cases e) (tgs_ok g h1) (tgs_star h1).1 (tgs_star h1).2 fun ds ρ ρ' hb => tgs_len h1 hb
    refine ⟨fun pins s σ H vs us Q I r ⟨Fr, F, ρ, ts, us', L, ds, ρ', sr, hlen, rd, hbi, k⟩ => (pgs_cons ha hb (by rw [tgt_star h0]; rfl)).run pins s σ H vs us Q I r ?_⟩
    obtain ⟨d0, ds', r', e, hr, hbi2⟩ := bindT_cons hbi
    injection e with e; subst e
    simp only [RL] at rd
    obtain ⟨v, w, rfl, rd1, rd2⟩ := rd
    have l1 := bindT_len hr
    refine ⟨v, w, rfl, Fr, F, ρ, ts, us', L, d0, r', sr, hlen, rd1, hr, fun σ1 L1 e1 e2 e3 s1 => ?_⟩
    refine ⟨Fr, F, r', ts, us', L1, ds', ρ', s1, by omega, rd2, hbi2, fun σ2 L2 e4 e5 e6 s2 => ?_⟩
    refine k σ2 L2 (by omega) (by omega) (fun i hi => ?_) s2
    rw [e6 i, e3 i]
    · rcases hi with hi | hi
      · exact .inl hi
      · exact .inr fun q => hi (by simp [Tg.slots, q])
    · rcases hi with hi | hi
      · exact .inl hi
      · exact .inr fun q => hi (by simp [Tg.slots, q])
theorem tg_ok {kp : Nat → Bool} (g : Gz c sy X sc N wc C W) {t : Tg} {e : Expr} (h : chkT sc N wc t e = true) : PG X e (tTg c G kp t) := by
  cases t with
  | var i =>
    obtain ⟨_, _, rfl, q1, q2⟩ := chkT_var h
    exact g_var g q1 q2
  | nil =>
    obtain ⟨k2, p2, rfl⟩ := chkT_nil h
    exact g_tup g (by intro i e; cases e) (tgs_ok g h) (tgs_star h).1 (tgs_star h).2 fun ds ρ ρ' hb => tgs_len h hb
  | cons a1 b1 =>
    obtain ⟨_, _, _, _, rfl, _, _, _⟩ := chkT_cons h
    exact g_tup g (by intro i e; cases e) (tgs_ok g h) (tgs_star h).1 (tgs_star h).2 fun ds ρ ρ' hb => tgs_len h hb
/-! ### iterators -/
theorem wk_list {K : PySem.W.Frag} (hK : K = c.K) {a : Addr} {ds : List D} {vs : List V} (h : SqL c.K F a vs) (r : RL c F ds vs) : Wk c F (Itl K a) ds := by
  subst hK
  intro F1 H l1 l2
  have hq := l2.sqL (l1.sqL h)
  have r1 := RL.mono l1 r
  refine ⟨⟨vs, hq, by rw [r.length]; exact Nat.le_refl _⟩, fun i d hd => ?_⟩
  obtain ⟨v, hv, rv⟩ := r1.get hd
  refine ⟨⟨vs, v, hq, hv⟩, fun x H' hy => .inl ?_⟩
  obtain ⟨e, hx⟩ := hy
  have := hx vs hq
  rw [hv] at this
  injection this with this
  subst this
  exact ⟨e, rv⟩
theorem wk_tup {K : PySem.W.Frag} (hK : K = c.K) {a : Addr} {ds : List D} {vs : List V} (h : SqT c.K F a vs) (r : RL c F ds vs) : Wk c F (Itt K a) ds := by
  subst hK
  intro F1 H l1 l2
  have hq := l2.sqT (l1.sqT h)
  have r1 := RL.mono l1 r
  refine ⟨⟨vs, hq, by rw [r.length]; exact Nat.le_refl _⟩, fun i d hd => ?_⟩
  obtain ⟨v, hv, rv⟩ := r1.get hd
  refine ⟨⟨vs, v, hq, hv⟩, fun x H' hy => .inl ?_⟩
  obtain ⟨e, hx⟩ := hy
  have := hx vs hq
  rw [hv] at this
  injection this with this
  subst this
  exact ⟨e, rv⟩
theorem wk_str {x : Str} : Wk c F (Its x) (x.cps.toList.map fun k => D.str ⟨#[k]⟩) := by
  intro F1 H l1 l2
  refine ⟨by show x.cps.size ≤ _; simp, fun i d hd => ⟨?_, fun v H' hy => .inl ?_⟩⟩
  · have := (List.getElem?_eq_some_iff.mp hd).1
    show i < x.cps.size
    simpa using this
  · obtain ⟨e, k, hk, rfl⟩ := hy
    refine ⟨e, ?_⟩
    rw [List.getElem?_map] at hd
    simp only [Array.getElem?_toList, hk, Option.map_some, Option.some.injEq] at hd
    subst hd
    simp only [R]
theorem wk_range {lo : Int} {n : Nat} : Wk c F (Itr lo n) ((List.range n).map fun (k : Nat) => D.int (lo + (k : Int))) := by
  intro F1 H l1 l2
  refine ⟨by show n ≤ _; simp, fun i d hd => ⟨?_, fun v H' hy => .inl ?_⟩⟩
  · have := (List.getElem?_eq_some_iff.mp hd).1
    show i < n
    simpa using this
  · obtain ⟨e, rfl⟩ := hy
    refine ⟨e, ?_⟩
    rw [List.getElem?_map] at hd
    obtain ⟨k, hk, rfl⟩ := Option.map_eq_some_iff.mp hd
    rw [List.getElem?_range (by
      have := (List.getElem?_eq_some_iff.mp hk).1
      simpa using this)] at hk
    injection hk with hk
    subst hk
    simp only [R]
theorem wk_zip {K : PySem.W.Frag} (hK : K = c.K) {a b : Addr} {ds es : List D} {vs ws : List V} (h : SqL c.K F a vs) (h' : SqL c.K F b ws) (r : RL c F ds vs) (r' : RL c F es ws) (hl : ds.length = es.length) : Wk c F (Itz K a b) ((ds.zip es).map fun p => D.tup [p.1, p.2]) := by
  subst hK
  intro F1 H l1 l2
  have hq := l2.sqL (l1.sqL h)
  have hq' := l2.sqL (l1.sqL h')
  have r1 := RL.mono l1 r
  have r2 := RL.mono l1 r'
  refine ⟨⟨vs, ws, hq, hq', .inl ?_⟩, fun i d hd => ?_⟩
  · rw [r.length]; simp; omega
  rw [List.getElem?_map] at hd
  obtain ⟨⟨d1, d2⟩, hz, rfl⟩ := Option.map_eq_some_iff.mp hd
  obtain ⟨h1, h2⟩ := List.getElem?_zip_eq_some.mp hz
  obtain ⟨v, hv, rv⟩ := r1.get h1
  obtain ⟨w, hw, rw'⟩ := r2.get h2
  refine ⟨⟨vs, ws, v, w, hq, hq', hv, hw⟩, fun x H' hy => .inr ?_⟩
  obtain ⟨p, x1, y1, rfl, hp, rfl, k1, k2⟩ := hy
  have e1 := k1 vs hq
  have e2 := k2 ws hq'
  rw [hv] at e1; injection e1 with e1; subst e1
  rw [hw] at e2; injection e2 with e2; subst e2
  have np : F1 p = none := by
    cases e : F1 p with
    | none => rfl
    | some o => rcases l2 p o e with e | ⟨_, _, e⟩ <;> (rw [hp] at e; cases e)
  refine ⟨p, _, hp, rfl, ?_⟩
  simp only [R]
  have l3 : Le F1 (upd F1 p (.tup [v, w])) := Le.upd_new np
  refine ⟨p, [v, w], rfl, .inl (.inl upd_same), ?_⟩
  simp only [RL]
  exact ⟨v, [w], rfl, rv.mono l3, w, [], rfl, rw'.mono l3, rfl⟩
theorem wk_zipT {K : PySem.W.Frag} (hK : K = c.K) {a b : Addr} {ds es : List D} {vs ws : List V} (h : SqT c.K F a vs) (h' : SqT c.K F b ws) (r : RL c F ds vs) (r' : RL c F es ws) (hl : ds.length = es.length) : Wk c F (RZ.ItzT K a b) ((ds.zip es).map fun p => D.tup [p.1, p.2]) := by
  subst hK
  intro F1 H l1 l2
  have hq := l2.sqT (l1.sqT h)
  have hq' := l2.sqT (l1.sqT h')
  have r1 := RL.mono l1 r
  have r2 := RL.mono l1 r'
  refine ⟨⟨vs, ws, hq, hq', .inl ?_⟩, fun i d hd => ?_⟩
  · rw [r.length]; simp; omega
  rw [List.getElem?_map] at hd
  obtain ⟨⟨d1, d2⟩, hz, rfl⟩ := Option.map_eq_some_iff.mp hd
  obtain ⟨h1, h2⟩ := List.getElem?_zip_eq_some.mp hz
  obtain ⟨v, hv, rv⟩ := r1.get h1
  obtain ⟨w, hw, rw'⟩ := r2.get h2
  refine ⟨⟨vs, ws, v, w, hq, hq', hv, hw⟩, fun x H' hy => .inr ?_⟩
  obtain ⟨p, x1, y1, rfl, hp, rfl, k1, k2⟩ := hy
  have e1 := k1 vs hq
  have e2 := k2 ws hq'
  rw [hv] at e1; injection e1 with e1; subst e1
  rw [hw] at e2; injection e2 with e2; subst e2
  have np : F1 p = none := by
    cases e : F1 p with
    | none => rfl
    | some o => rcases l2 p o e with e | ⟨_, _, e⟩ <;> (rw [hp] at e; cases e)
  refine ⟨p, _, hp, rfl, ?_⟩
  simp only [R]
  have l3 : Le F1 (upd F1 p (.tup [v, w])) := Le.upd_new np
  refine ⟨p, [v, w], rfl, .inl (.inl upd_same), ?_⟩
  simp only [RL]
  exact ⟨v, [w], rfl, rv.mono l3, w, [], rfl, rw'.mono l3, rfl⟩
theorem wk_enum {K : PySem.W.Frag} (hK : K = c.K) {a : Addr} {ds : List D} {vs : List V} (h : SqL c.K F a vs) (r : RL c F ds vs) : Wk c F (Ite K a) ((ds.zipIdx).map fun p => D.tup [.int p.2, p.1]) := by
  subst hK
  intro F1 H l1 l2
  have hq := l2.sqL (l1.sqL h)
  have r1 := RL.mono l1 r
  refine ⟨⟨vs, hq, ?_⟩, fun i d hd => ?_⟩
  · rw [r.length]; simp
  rw [List.getElem?_map] at hd
  obtain ⟨⟨d1, j⟩, hz, rfl⟩ := Option.map_eq_some_iff.mp hd
  rw [List.getElem?_zipIdx] at hz
  obtain ⟨d2, h1, e⟩ := Option.map_eq_some_iff.mp hz
  simp only [Prod.mk.injEq] at e
  obtain ⟨rfl, rfl⟩ := e
  obtain ⟨v, hv, rv⟩ := r1.get h1
  refine ⟨⟨vs, v, hq, hv⟩, fun x H' hy => .inr ?_⟩
  obtain ⟨p, x1, rfl, hp, rfl, k1⟩ := hy
  have e1 := k1 vs hq
  rw [hv] at e1; injection e1 with e1; subst e1
  have np : F1 p = none := by
    cases e : F1 p with
    | none => rfl
    | some o => rcases l2 p o e with e | ⟨_, _, e⟩ <;> (rw [hp] at e; cases e)
  refine ⟨p, _, hp, rfl, ?_⟩
  simp only [R]
  have l3 : Le F1 (upd F1 p (.tup [.int (i : Nat), v])) := Le.upd_new np
  refine ⟨p, [.int (i : Nat), v], rfl, .inl (.inl upd_same), ?_⟩
  simp only [RL, R]
  exact ⟨_, _, rfl, by simp, v, [], rfl, rv.mono l3, rfl⟩
end MP
/-! MP18: what is walked. -/
namespace MP
open PySem PySem.Spec PyProof.Rows L2
variable {c : Cv} {sy : Sy} {X : Cx} {sc : Scope} {N : List Str} {wc : List Str} {C : Ct} {W : WX} {G : Nat → Option Addr} {Fr F F' H H' : Hp}
theorem _root_.L2.PI.weaken {tg e : Expr} {t t' : TI} (h : PI X tg e t) (w : ∀ σ H Q, t' σ H Q → t σ H Q) : PI X tg e t' := ⟨fun pins s σ H Q I hw => h.run pins s σ H Q I (w σ H Q hw)⟩
theorem pe_lock {e : Expr} {t : TE} (h : PE X e t) : PE X e (fun σ H Q => t σ H fun x H1 => (∃ d u, H1 d = some u ∧ Mut (some u) ∧ ∀ od, Q x (upd H1 d (.frz od u))) ∨ Q x H1) :=
  ⟨fun pins s σ H Q I hw => wpAny_mono (h.run pins s σ H _ I hw) (fun v s1 ⟨x, H1, I1, r, q⟩ => by
    rcases q with ⟨d, u, hd, mu, k⟩ | k
    · obtain ⟨od, I2⟩ := I1.lock hd mu
      exact ⟨x, _, I2, r, k od⟩
    · exact ⟨x, H1, I1, r, k⟩) (fun _ _ he => he)⟩
theorem Le.lockD {p : Addr} {o : Obj} {u : HO} (hd : isDict u = true) (h : F p = some u) : Le F (upd F p (.frz o u)) := fun a w e => by
  by_cases z : a = p
  · subst z
    rw [h] at e
    injection e with e; subst e
    exact .inr ⟨hd, o, upd_same⟩
  · exact .inl (by rw [upd_ne z]; exact e)
/-- a frozen dict is locked -/
theorem SR.lockD {ρ : List (Option T)} {us : List (Option V)} {L : List Addr} {p : Addr} {o : Obj} {u : HO} (s : SR c G Fr F H ρ us L) (hd : isDict u = true) (h : F p = some u) (hq : ∀ a, a ≠ p → H' a = H a) (hp : H' p = some (.frz o u)) :
    SR c G Fr (upd F p (.frz o u)) H' ρ us L := by
  have nF : Fr p = none := by
    cases e : Fr p with
    | none => rfl
    | some w => have := s.ff p (by rw [e]; simp); rw [h] at this; cases this
  have nL : ∀ a ∈ L, a ≠ p := fun a ha e => by rw [e] at ha; have := (s.ap p ha).1; rw [h] at this; cases this
  refine ⟨s.sl.kept (Le.lockD hd h) ⟨fun a ha => hq a (nL a ha), fun n a g => hq a fun e => s.gf n a g (by rw [e]; exact nF)⟩, s.nd, fun a ha => ⟨by rw [upd_ne (nL a ha)]; exact (s.ap a ha).1, (s.ap a ha).2⟩, fun a w e => ?_, fun a w e => ?_, s.gf, fun a ha => ?_⟩
  · by_cases z : a = p
    · subst z
      rw [upd_same] at e
      injection e with e; subst e
      exact .inl hp
    · rw [upd_ne z] at e
      rw [hq a z]
      exact s.le a w e
  · rw [hq a fun z => by rw [z, nF] at e; cases e]
    exact s.fr a w e
  · rw [upd_ne fun z => by rw [z] at ha; exact ha nF]
    exact s.ff a ha
theorem RK.key : ∀ {ds : List (Key × D)} {vs : List (Key × V)} {i : Nat} {k : Key} {d : D}, RK c F ds vs → ds[i]? = some (k, d) → ∃ v, vs[i]? = some (k, v)
  | [], _, _, _, _, _, e => by simp at e
  | (k0, d0) :: r, _, 0, k, d, h, e => by
    simp only [RK] at h
    obtain ⟨v, w, rfl, x, y⟩ := h
    simp at e
    obtain ⟨rfl, _⟩ := e
    exact ⟨v, rfl⟩
  | (k0, d0) :: r, _, i + 1, k, d, h, e => by
    simp only [RK] at h
    obtain ⟨v, w, rfl, x, y⟩ := h
    obtain ⟨v2, e2⟩ := RK.key (i := i) y (by simpa using e)
    exact ⟨v2, by simpa using e2⟩
theorem RK.len : ∀ {ds : List (Key × D)} {vs : List (Key × V)}, RK c F ds vs → vs.length = ds.length
  | [], _, h => by simp only [RK] at h; rw [h]; rfl
  | (k, d) :: r, _, h => by
    simp only [RK] at h
    obtain ⟨v, w, rfl, x, y⟩ := h
    simp [RK.len y]
theorem keyD_R {k : Key} : R c F (keyD k) (kV k) := by
  cases k <;> simp only [keyD, R] <;> rfl
theorem wk_keys {p : Addr} {o : Obj} {ds : List (Key × D)} {ks : List (Key × V)} (h : F p = some (.frz o (.dK ks))) (r : RK c F ds ks) : Wk c F (Itk p o ks) (ds.map fun q => keyD q.1) := by
  intro F1 H l1 l2
  have hq : H p = some (.frz o (.dK ks)) := l2.ex (l1.ex h rfl) rfl
  refine ⟨⟨hq, by rw [r.len]; simp⟩, fun i d hd => ?_⟩
  rw [List.getElem?_map] at hd
  obtain ⟨⟨k, d0⟩, e, rfl⟩ := Option.map_eq_some_iff.mp hd
  obtain ⟨v, hv⟩ := r.key e
  refine ⟨⟨hq, (List.getElem?_eq_some_iff.mp hv).1⟩, fun x H' hy => .inl ?_⟩
  obtain ⟨eH, k2, v2, e2, ex⟩ := hy
  rw [hv] at e2
  injection e2 with e2
  injection e2 with e2 _
  subst e2 ex
  exact ⟨eH, keyD_R⟩
theorem s_iv (g : Gy c sy X sc N C W) {a : E} {tg e : Expr} (ha : PE X e (tE c G C W a)) : PI X tg e (tIt c G C W (.iv a)) := by
  refine ⟨fun pins s0 σ H R0 I ⟨Fr, F, ρ, ts, us, L, s, hl, k⟩ => ?_⟩
  simp only [evI] at k
  cases he : evE C a ρ with
  | no => rw [he] at k; exact k.elim
  | ex x ρ' =>
    rw [he] at k
    refine (pi_list ha).run pins s0 σ H R0 I ⟨Fr, F, ρ, ts, us, L, s, hl, ?_⟩
    rw [he]
    exact k
  | ok t ρ' =>
    rw [he] at k
    dsimp only at k
    cases hf : frz t with
    | none => rw [hf] at k; exact k.elim
    | some d =>
      rw [hf] at k
      dsimp only at k
      have drop : ∀ {v : V} {H' F' : Hp} {L' : List Addr}, ρ'.length = ρ.length → SR c G Fr F' H' (ρ' ++ (ts ++ [some (.sh d)])) (σ ++ (us ++ [some v])) L' → ∃ L2, SR c G Fr F' H' (ρ' ++ ts) (σ ++ us) L2 := fun {v H' F' L'} h1 s' => s'.dropLast (s.eqLen hl h1)
      have mid : ∀ {Q : VK} {ds : List D}, items d = some ds → (∀ v H' F' L', ρ'.length = ρ.length → Le F F' → R c F' d v → SR c G Fr F' H' (ρ' ++ ts) (σ ++ us) L' → Q v H') → tE c G C W a σ H Q := fun {Q ds} hi kk => by
        refine tE.frz s hl ?_
        rw [he]
        refine ⟨d, hf, fun v H' F' L' h1 le rv s' => ?_⟩
        obtain ⟨L2, s2⟩ := drop h1 s'
        exact kk v H' F' L2 h1 le rv s2
      cases hi : items d with
      | none => rw [hi] at k; exact k.elim
      | some ds =>
        rw [hi] at k
        dsimp only at k
        cases d with
        | lst es =>
          simp only [items] at hi
          injection hi with hi2
          subst hi2
          refine (pi_list ha).run pins s0 σ H R0 I (mid rfl fun v H' F' L' h1 le rv s' => ?_)
          simp only [R] at rv
          obtain ⟨p, vs, rfl, hp, rl⟩ := rv
          have hp' : SqL c.K F' p vs := SqL.of hp
          exact ⟨p, rfl, ⟨vs, by rw [g.kk]; exact s'.le.sqL hp'⟩, k _ H' F' L' h1 le s' (wk_list g.kk hp' rl)⟩
        | tup es =>
          simp only [items] at hi
          injection hi with hi2
          subst hi2
          refine (pi_tup ha).run pins s0 σ H R0 I (mid rfl fun v H' F' L' h1 le rv s' => ?_)
          simp only [R] at rv
          obtain ⟨p, vs, rfl, hp, rl⟩ := rv
          exact ⟨p, rfl, ⟨vs, by rw [g.kk]; exact s'.le.sqT hp⟩, k _ H' F' L' h1 le s' (wk_tup g.kk hp rl)⟩
        | str x =>
          simp only [items] at hi
          injection hi with hi2
          subst hi2
          refine (pi_str ha).run pins s0 σ H R0 I (mid rfl fun v H' F' L' h1 le rv s' => ?_)
          simp only [R] at rv
          exact ⟨x, rv, k _ H' F' L' h1 le s' wk_str⟩
        | scr ns =>
          simp only [items] at hi
          injection hi with hi2
          subst hi2
          refine (pi_list ha).run pins s0 σ H R0 I (mid rfl fun v H' F' L' h1 le rv s' => ?_)
          simp only [R] at rv
          obtain ⟨p, rfl, hp⟩ := rv
          refine ⟨p, rfl, ⟨_, by rw [g.kk]; exact s'.le.sqL hp⟩, k _ H' F' L' h1 le s' (wk_list g.kk hp ?_)⟩
          clear k mid drop hf he hp
          induction ns with
          | nil => simp only [List.map_nil, RL]
          | cons n ns ih => simp only [List.map_cons, RL, R]; exact ⟨_, _, rfl, rfl, ih⟩
        | dK kvs =>
          simp only [items] at hi
          injection hi with hi2
          subst hi2
          refine (pi_keys (pe_lock ha)).run pins s0 σ H R0 I (mid rfl fun v H' F' L' h1 le rv s' => ?_)
          simp only [R] at rv
          obtain ⟨p, ks, rfl, hp, rk⟩ := rv
          rcases hp with hp | ⟨o, hp⟩
          · have ll : ∀ o, Le F' (upd F' p (.frz o (.dK ks))) := fun o => Le.lockD rfl hp
            rcases s'.le p _ hp with hH | ⟨_, o, hH⟩
            · refine .inl ⟨p, _, hH, trivial, fun od => ⟨p, od, rfl, .inl ⟨ks, upd_same, ?_⟩⟩⟩
              exact k _ _ _ L' h1 (le.trans (ll od)) (s'.lockD rfl hp (fun a ha => upd_ne ha) upd_same) (wk_keys upd_same (rk.mono (ll od)))
            · refine .inr ⟨p, o, rfl, .inl ⟨ks, hH, ?_⟩⟩
              exact k _ _ _ L' h1 (le.trans (ll o)) (s'.lockD rfl hp (fun a ha => rfl) hH) (wk_keys upd_same (rk.mono (ll o)))
          · refine .inr ⟨p, o, rfl, .inl ⟨ks, s'.le.ex hp rfl, ?_⟩⟩
            exact k _ H' F' L' h1 le s' (wk_keys hp rk)
        | _ => cases hi
/-- arguments that are plain evaluations: one -/
theorem nb1 {a : E} (hn : ∀ i, a ≠ .bor i) : a.bor1 = none := by cases a <;> first | rfl | exact absurd rfl (hn _)
theorem s_rng1 (g : Gy c sy X sc N C W) {a : E} {tg e : Expr} {p pos : Pos} (hb : bltB sy.toSx sc "range" = true) (hs : noStar e = true) (hn : ∀ i, a ≠ .bor i) (ha : PE X e (tE c G C W a)) : PI X tg (.Call (.Name "range" p) [e] [] pos) (tIt c G C W (.rng1 a)) := by
  have hb := bltB_ok g.toGx hb
  refine (pi_range1 hb.1 hb.2 (s_cons g ha hs s_nil hn) (by rw [star_cons hs]; rfl)).weaken fun σ H R0 ⟨Fr, F, ρ, ts, us, L, s, hl, k⟩ => ⟨Fr, F, ρ, ts, us, L, s, hl, ?_⟩
  simp only [evI] at k
  simp only [evEs, nb1 hn]
  cases he : evE C a ρ with
  | no => rw [he] at k; exact k
  | ex x ρ' => rw [he] at k; exact k
  | ok t ρ' =>
    rw [he] at k
    dsimp only
    dsimp only at k
    intro vs H' F' L' h1 le bo lv s'
    cases hi : asI t with
    | none => rw [hi] at k; exact k.elim
    | some n =>
      rw [hi] at k
      have := asI_eq hi
      subst this
      dsimp only at k
      by_cases hq : -(2 ^ 62) ≤ n ∧ n < 2 ^ 62
      · rw [if_pos hq] at k
        obtain ⟨v, rfl⟩ : ∃ v, vs = [v] := by
          match vs, lv with
          | [v], _ => exact ⟨v, rfl⟩
        have hL := s.eqLen hl h1
        have s2 : SR c G Fr F' H' (ρ' ++ (ts ++ [some (.sh (.int n))])) (σ ++ (us ++ [some v])) L' := by simpa using s'
        have hv := (s2.lastV' hL).int
        subst hv
        obtain ⟨L2, s3⟩ := s2.dropLast hL
        exact ⟨n, rfl, hq.1, hq.2, k _ H' F' L2 h1 le s3 wk_range⟩
      · rw [if_neg hq] at k; exact k.elim
theorem s_rng2 (g : Gy c sy X sc N C W) {a b : E} {tg e e' : Expr} {p pos : Pos} (hb : bltB sy.toSx sc "range" = true) (hs : noStar e = true) (hs' : noStar e' = true) (hn : ∀ i, a ≠ .bor i) (hn' : ∀ i, b ≠ .bor i) (ha : PE X e (tE c G C W a)) (hb' : PE X e' (tE c G C W b)) :
    PI X tg (.Call (.Name "range" p) [e, e'] [] pos) (tIt c G C W (.rng2 a b)) := by
  have hb := bltB_ok g.toGx hb
  refine (pi_range2 hb.1 hb.2 (s_cons g ha hs (s_cons g hb' hs' s_nil hn') hn) (by rw [star_cons hs, star_cons hs']; rfl) (by rw [star_cons hs']; rfl)).weaken fun σ H R0 ⟨Fr, F, ρ, ts, us, L, s, hl, k⟩ => ⟨Fr, F, ρ, ts, us, L, s, hl, ?_⟩
  simp only [evI] at k
  simp only [evEs, nb1 hn, nb1 hn']
  cases he : evE C a ρ with
  | no => rw [he] at k; exact k
  | ex x ρ' => rw [he] at k; exact k
  | ok t ρ' =>
    rw [he] at k
    dsimp only
    dsimp only at k
    cases he2 : evE C b ρ' with
    | no => rw [he2] at k; exact k
    | ex x ρ2 => rw [he2] at k; exact k
    | ok t2 ρ2 =>
      rw [he2] at k
      dsimp only at k ⊢
      intro vs H' F' L' h1 le bo lv s'
      cases hi : asI t with
      | none => rw [hi] at k; exact k.elim
      | some n =>
        cases hi2 : asI t2 with
        | none => rw [hi, hi2] at k; exact k.elim
        | some n2 =>
          rw [hi, hi2] at k
          have := asI_eq hi
          subst this
          have := asI_eq hi2
          subst this
          dsimp only at k
          by_cases hq : (-(2 ^ 62) ≤ n ∧ n < 2 ^ 62) ∧ -(2 ^ 62) ≤ n2 ∧ n2 < 2 ^ 62
          · rw [if_pos hq] at k
            obtain ⟨v, v2, rfl⟩ : ∃ v v2, vs = [v, v2] := by
              match vs, lv with
              | [v, v2], _ => exact ⟨v, v2, rfl⟩
            have hL := s.eqLen hl h1
            have s2 : SR c G Fr F' H' (ρ2 ++ ((ts ++ [some (.sh (.int n))]) ++ [some (.sh (.int n2))])) (σ ++ ((us ++ [some v]) ++ [some v2])) L' := by simpa using s'
            have hL2 : (σ ++ (us ++ [some v])).length = (ρ2 ++ (ts ++ [some (T.sh (.int n))])).length := by simp at hL ⊢; omega
            have hv := (s2.lastV' hL2).int
            subst hv
            obtain ⟨L2, s3⟩ := s2.dropLast hL2
            have hv := (s3.lastV' hL).int
            subst hv
            obtain ⟨L3, s4⟩ := s3.dropLast hL
            exact ⟨n, n2, rfl, ⟨hq.1.1, hq.1.2, hq.2.1, hq.2.2⟩, k _ H' F' L3 h1 le s4 wk_range⟩
          · rw [if_neg hq] at k; exact k.elim
theorem s_zip (g : Gy c sy X sc N C W) {a b : E} {e e' : Expr} {elts : List Expr} {kk : Nat} {tpos p pos : Pos} (hb : bltB sy.toSx sc "zip" = true) (hs : noStar e = true) (hs' : noStar e' = true) (hn : ∀ i, a ≠ .bor i) (hn' : ∀ i, b ≠ .bor i) (ha : PE X e (tE c G C W a)) (hb' : PE X e' (tE c G C W b)) :
    PI X (.Tuple elts kk tpos) (.Call (.Name "zip" p) [e, e'] [] pos) (tIt c G C W (.zip a b)) := by
  have hb := bltB_ok g.toGx hb
  refine (RZ.pi_zipA hb.1 hb.2 (s_cons g ha hs (s_cons g hb' hs' s_nil hn') hn) (by rw [star_cons hs]) (by rw [star_cons hs']; rfl)).weaken fun σ H R0 ⟨Fr, F, ρ, ts, us, L, s, hl, k⟩ => ⟨Fr, F, ρ, ts, us, L, s, hl, ?_⟩
  simp only [evI] at k
  simp only [evEs, nb1 hn, nb1 hn']
  cases he : evE C a ρ with
  | no => rw [he] at k; exact k
  | ex x ρ' => rw [he] at k; exact k
  | ok t ρ' =>
    rw [he] at k
    dsimp only
    dsimp only at k
    cases he2 : evE C b ρ' with
    | no => rw [he2] at k; exact k
    | ex x ρ2 => rw [he2] at k; exact k
    | ok t2 ρ2 =>
      rw [he2] at k
      dsimp only at k ⊢
      intro vs H' F' L' h1 le bo lv s'
      obtain ⟨v, v2, rfl⟩ : ∃ v v2, vs = [v, v2] := by
        match vs, lv with
        | [v, v2], _ => exact ⟨v, v2, rfl⟩
      cases hf : frz t with
      | none => rw [hf] at k; exact k.elim
      | some d =>
        cases hf2 : frz t2 with
        | none => rw [hf, hf2] at k; cases d <;> exact k.elim
        | some d2 =>
          rw [hf, hf2] at k
          have hL := s.eqLen hl h1
          have s2 : SR c G Fr F' H' ((ρ2 ++ (ts ++ [some t])) ++ [some t2]) ((σ ++ (us ++ [some v])) ++ [some v2]) L' := by simpa using s'
          have hL2 : (σ ++ (us ++ [some v])).length = (ρ2 ++ (ts ++ [some t])).length := by simp at hL ⊢; omega
          obtain ⟨F2, L2, le2, r2, s3⟩ := s2.frzLast hL2 hf2
          obtain ⟨L3, s4, _⟩ := s3.cut hL2
          have s5 : SR c G Fr F2 H' ((ρ2 ++ ts) ++ [some t]) ((σ ++ us) ++ [some v]) L3 := by simpa using s4
          obtain ⟨F3, L4, le3, r1, s6⟩ := s5.frzLast hL hf
          obtain ⟨L5, s7, _⟩ := s6.cut hL
          have r2 := r2.mono le3
          have leF : Le F F3 := (le.trans le2).trans le3
          cases d with
          | lst xs =>
            cases d2 with
            | lst ys =>
              dsimp only at k
              by_cases hq : xs.length = ys.length
              · rw [if_pos hq] at k
                simp only [R] at r1 r2
                obtain ⟨p1, vs1, rfl, q1, l1⟩ := r1
                obtain ⟨p2, vs2, rfl, q2, l2⟩ := r2
                have q1 : SqL c.K F3 p1 vs1 := SqL.of q1
                have q2 : SqL c.K F3 p2 vs2 := SqL.of q2
                exact ⟨p1, p2, vs1, vs2, rfl, .inl ⟨by rw [g.kk]; exact s7.le.sqL q1, by rw [g.kk]; exact s7.le.sqL q2, k _ H' F3 L5 h1 leF s7 (wk_zip g.kk q1 q2 l1 l2 hq)⟩⟩
              · rw [if_neg hq] at k; exact k.elim
            | _ => exact k.elim
          | tup xs =>
            cases d2 with
            | tup ys =>
              dsimp only at k
              by_cases hq : xs.length = ys.length
              · rw [if_pos hq] at k
                simp only [R] at r1 r2
                obtain ⟨p1, vs1, rfl, q1, l1⟩ := r1
                obtain ⟨p2, vs2, rfl, q2, l2⟩ := r2
                exact ⟨p1, p2, vs1, vs2, rfl, .inr ⟨by rw [g.kk]; exact s7.le.sqT q1, by rw [g.kk]; exact s7.le.sqT q2, k _ H' F3 L5 h1 leF s7 (wk_zipT g.kk q1 q2 l1 l2 hq)⟩⟩
              · rw [if_neg hq] at k; exact k.elim
            | _ => exact k.elim
          | _ => exact k.elim
theorem s_enum (g : Gy c sy X sc N C W) {a : E} {e : Expr} {elts : List Expr} {kk : Nat} {tpos p pos : Pos} (hb : bltB sy.toSx sc "enumerate" = true) (hs : noStar e = true) (hn : ∀ i, a ≠ .bor i) (ha : PE X e (tE c G C W a)) :
    PI X (.Tuple elts kk tpos) (.Call (.Name "enumerate" p) [e] [] pos) (tIt c G C W (.enum a)) := by
  have hb := bltB_ok g.toGx hb
  refine (pi_enum hb.1 hb.2 (s_cons g ha hs s_nil hn) (by rw [star_cons hs]; rfl)).weaken fun σ H R0 ⟨Fr, F, ρ, ts, us, L, s, hl, k⟩ => ⟨Fr, F, ρ, ts, us, L, s, hl, ?_⟩
  simp only [evI] at k
  simp only [evEs, nb1 hn]
  cases he : evE C a ρ with
  | no => rw [he] at k; exact k
  | ex x ρ' => rw [he] at k; exact k
  | ok t ρ' =>
    rw [he] at k
    dsimp only
    dsimp only at k
    intro vs H' F' L' h1 le bo lv s'
    obtain ⟨v, rfl⟩ : ∃ v, vs = [v] := by
      match vs, lv with
      | [v], _ => exact ⟨v, rfl⟩
    cases hf : frz t with
    | none => rw [hf] at k; exact k.elim
    | some d =>
      rw [hf] at k
      have hL := s.eqLen hl h1
      have s5 : SR c G Fr F' H' ((ρ' ++ ts) ++ [some t]) ((σ ++ us) ++ [some v]) L' := by simpa using s'
      obtain ⟨F3, L4, le3, r1, s6⟩ := s5.frzLast hL hf
      obtain ⟨L5, s7, _⟩ := s6.cut hL
      cases d with
      | lst xs =>
        dsimp only at k
        simp only [R] at r1
        obtain ⟨p1, vs1, rfl, q1, l1⟩ := r1
        have q1 : SqL c.K F3 p1 vs1 := SqL.of q1
        exact ⟨p1, vs1, rfl, by rw [g.kk]; exact s7.le.sqL q1, k _ H' F3 L5 h1 (le.trans le3) s7 (wk_enum g.kk q1 l1)⟩
      | _ => exact k.elim
end MP
/-! MP19: owned things changed. -/
namespace MP
open PySem PySem.Spec PyProof.Rows L2
variable {c : Cv} {G : Nat → Option Addr} {Fr F F' H H' : Hp}
theorem ROL.app : ∀ {ts t2 : List T} {vs v2 : List V} {L L2 : List Addr}, ROL c G F H ts vs L → ROL c G F H t2 v2 L2 → ROL c G F H (ts ++ t2) (vs ++ v2) (L ++ L2)
  | [], _, _, _, _, _, h, k => by
    simp only [ROL] at h
    obtain ⟨rfl, rfl⟩ := h
    exact k
  | t :: r, _, _, _, _, _, h, k => by
    simp only [ROL] at h
    obtain ⟨v, w, L1, L2, rfl, rfl, x, y⟩ := h
    simp only [List.cons_append, ROL]
    exact ⟨v, _, L1, _, rfl, by rw [List.append_assoc], x, ROL.app y k⟩
theorem ROL.one {t : T} {v : V} {L : List Addr} (h : RO c G F H t v L) : ROL c G F H [t] [v] L := by
  simp only [ROL]
  exact ⟨v, [], L, [], rfl, by simp, h, rfl, rfl⟩
theorem ROL.length : ∀ {ts : List T} {vs : List V} {L : List Addr}, ROL c G F H ts vs L → vs.length = ts.length
  | [], _, _, h => by
    simp only [ROL] at h
    rw [h.1]; rfl
  | t :: r, _, _, h => by
    simp only [ROL] at h
    obtain ⟨v, w, L1, L2, rfl, rfl, x, y⟩ := h
    rw [List.length_cons, List.length_cons, ROL.length y]
/-- an owned thing is changed at its root; what is last goes into it -/
theorem SR.graft {ρ : List (Option T)} {us : List (Option V)} {t t0 : T} {v : V} {L : List Addr} {i : Nat} (s : SR c G Fr F H (ρ ++ [some t]) (us ++ [some v]) L) (h1 : us.length = ρ.length) (h0 : ρ[i]? = some (some t0)) :
    ∃ u L2 Lt, us[i]? = some (some u) ∧ RO c G F H t0 u L2 ∧ RO c G F H t v Lt ∧ (L2 ++ Lt).Nodup ∧ (∀ a ∈ L2 ++ Lt, F a = none ∧ Fr a = none) ∧ (∀ n a, G n = some a → a ∉ L2 ++ Lt) ∧
      ∀ a (H' : Hp) t' L', a ∈ L2 → (∀ b, b ≠ a → H' b = H b) → RO c G F H' t' u L' → L'.Nodup → (∀ x ∈ L', x ∈ L2 ++ Lt) → ∃ L'', SR c G Fr F H' (ρ.set i (some t')) us L'' := by
  obtain ⟨La, Lt0, rfl, x, y⟩ := RSl.split h1 s.sl
  obtain ⟨u1, w1, Lt, M2, e1, rfl, y1, y2⟩ := y
  injection e1 with e1 e2
  subst e1
  obtain ⟨_, rfl⟩ := y2
  obtain ⟨v1, e3, y1⟩ := y1
  injection e3 with e3; subst e3
  obtain ⟨u, L1, L2, L3, hu, rfl, ⟨u', e4, x⟩, f⟩ := x.at h0
  subst e4
  have nd := s.nd
  simp only [List.append_nil] at nd
  have nd2 : (L2 ++ Lt ++ (L1 ++ L3)).Nodup := by
    have p : (L1 ++ L2 ++ L3 ++ Lt).Perm (L2 ++ Lt ++ (L1 ++ L3)) := by
      have q1 : (L1 ++ L2 ++ L3 ++ Lt).Perm (L2 ++ L1 ++ L3 ++ Lt) := ((List.perm_append_comm).append_right L3).append_right Lt
      have q2 : (L2 ++ L1 ++ L3 ++ Lt).Perm (L2 ++ Lt ++ (L1 ++ L3)) := by
        rw [List.append_assoc L2, List.append_assoc L2, List.append_assoc L2]
        exact (List.Perm.refl L2).append List.perm_append_comm
      exact q1.trans q2
    exact p.nodup_iff.mp nd
  obtain ⟨n1, n2, n3⟩ := List.nodup_append.mp nd2
  have apA : ∀ a ∈ L2 ++ Lt, F a = none ∧ Fr a = none := fun a ha => s.ap a (by
    rcases List.mem_append.mp ha with q | q <;> simp [q])
  refine ⟨u', L2, Lt, hu, x, y1, n1, apA, fun n a g ha => s.gf n a g (apA a ha).2, fun a H' t' L' ha hH r nd' sub => ?_⟩
  have ha2 : a ∈ L2 ++ Lt := List.mem_append_left _ ha
  have kp : Kept G (L1 ++ L3) H H' := ⟨fun b hb => hH b fun e => n3 a ha2 b hb e.symm, fun n b g => hH b fun e => s.gf n b g (by rw [e]; exact (apA a ha2).2)⟩
  have z := f F H' (some t') (some u') L' Le.refl kp ⟨u', rfl, r⟩
  rw [set_self hu] at z
  refine ⟨_, z, ?_, fun b hb => ?_, fun b o e => ?_, fun b o e => ?_, s.gf, s.ff⟩
  · have p : (L' ++ (L1 ++ L3)).Perm (L1 ++ L' ++ L3) := by
      have q1 : (L' ++ (L1 ++ L3)).Perm (L' ++ L1 ++ L3) := by rw [List.append_assoc]
      exact q1.trans ((List.perm_append_comm).append_right L3)
    refine p.nodup_iff.mp (List.nodup_append.mpr ⟨nd', n2, fun b hb b' hb' e => n3 b (sub b hb) b' hb' e⟩)
  · have hb' : b ∈ L1 ∨ b ∈ L' ∨ b ∈ L3 := by simpa using hb
    rcases hb' with q | q | q
    · exact s.ap b (by simp [q])
    · exact apA b (sub b q)
    · exact s.ap b (by simp [q])
  · have ne : b ≠ a := fun q => by rw [q, (apA a ha2).1] at e; cases e
    rw [hH b ne]
    exact s.le b o e
  · have ne : b ≠ a := fun q => by rw [q, (apA a ha2).2] at e; cases e
    rw [hH b ne]
    exact s.fr b o e
theorem noA {a : Addr} {L Lt : List Addr} (nd : (a :: L ++ Lt).Nodup) : a ∉ L ∧ a ∉ Lt ∧ L.Nodup ∧ Lt.Nodup ∧ (L ++ Lt).Nodup ∧ (a :: (L ++ Lt)).Nodup := by
  have nd' : (a :: (L ++ Lt)).Nodup := nd
  obtain ⟨h1, h2⟩ := List.nodup_cons.mp nd'
  obtain ⟨h3, h4, _⟩ := List.nodup_append.mp h2
  exact ⟨fun h => h1 (List.mem_append_left _ h), fun h => h1 (List.mem_append_right _ h), h3, h4, h2, nd'⟩
/-- .append -/
theorem SR.push {ρ : List (Option T)} {us : List (Option V)} {t : T} {v : V} {L : List Addr} {i : Nat} {acc : List T} (s : SR c G Fr F H (ρ ++ [some t]) (us ++ [some v]) L) (h1 : us.length = ρ.length) (h0 : ρ[i]? = some (some (.lst acc))) :
    ∃ a vs, us[i]? = some (some (.ref a)) ∧ H a = some (.lst vs) ∧ vs.length = acc.length ∧ ∃ L', SR c G Fr F (upd H a (.lst (vs ++ [v]))) (ρ.set i (some (.lst (acc ++ [t])))) us L' := by
  obtain ⟨u, L2, Lt, hu, r0, r1, nd, ap, gn, f⟩ := s.graft h1 h0
  simp only [RO] at r0
  obtain ⟨a, vs, L1, rfl, ha, rl, rfl⟩ := r0
  obtain ⟨n1, n2, n3, n4, n5, n6⟩ := noA nd
  have kA : ∀ {L : List Addr}, a ∉ L → Kept G L H (upd H a (.lst (vs ++ [v]))) := fun {L} h => ⟨fun b hb => upd_ne fun e => h (e ▸ hb), fun n b g => upd_ne fun e => gn n b g (by rw [e]; simp)⟩
  refine ⟨a, vs, hu, ha, rl.length, f a _ _ (a :: (L1 ++ Lt)) (by simp) (fun b hb => upd_ne hb) ?_ n6 (fun x hx => hx)⟩
  simp only [RO]
  exact ⟨a, _, _, rfl, upd_same, (rl.kept Le.refl (kA n1)).app (ROL.one (r1.kept Le.refl (kA n2))), rfl⟩
theorem ROL.split : ∀ (k : Nat) {ts : List T} {vs : List V} {L : List Addr}, ROL c G F H ts vs L → ∃ La Lb, L = La ++ Lb ∧ ROL c G F H (ts.take k) (vs.take k) La ∧ ROL c G F H (ts.drop k) (vs.drop k) Lb
  | 0, ts, vs, L, h => ⟨[], L, rfl, by simp only [List.take_zero, ROL]; exact ⟨trivial, trivial⟩, by simpa using h⟩
  | k + 1, [], vs, L, h => by
    simp only [ROL] at h
    obtain ⟨rfl, rfl⟩ := h
    exact ⟨[], [], rfl, by simp [ROL], by simp [ROL]⟩
  | k + 1, t :: r, vs, L, h => by
    simp only [ROL] at h
    obtain ⟨v, w, L1, L2, rfl, rfl, x, y⟩ := h
    obtain ⟨La, Lb, rfl, p, q⟩ := ROL.split k y
    exact ⟨L1 ++ La, Lb, by simp, by simp only [List.take_succ_cons, ROL]; exact ⟨v, _, L1, La, rfl, rfl, x, p⟩, by simpa using q⟩
/-- .insert -/
theorem SR.ins {ρ : List (Option T)} {us : List (Option V)} {t : T} {v : V} {L : List Addr} {i : Nat} {acc : List T} (k : Nat) (s : SR c G Fr F H (ρ ++ [some t]) (us ++ [some v]) L) (h1 : us.length = ρ.length) (h0 : ρ[i]? = some (some (.lst acc))) :
    ∃ a vs, us[i]? = some (some (.ref a)) ∧ H a = some (.lst vs) ∧ vs.length = acc.length ∧ ∃ L', SR c G Fr F (upd H a (.lst (vs.take k ++ [v] ++ vs.drop k))) (ρ.set i (some (.lst (acc.take k ++ [t] ++ acc.drop k)))) us L' := by
  obtain ⟨u, L2, Lt, hu, r0, r1, nd, ap, gn, f⟩ := s.graft h1 h0
  simp only [RO] at r0
  obtain ⟨a, vs, L1, rfl, ha, rl, rfl⟩ := r0
  obtain ⟨n1, n2, n3, n4, n5, n6⟩ := noA nd
  have kA : ∀ {L : List Addr}, a ∉ L → Kept G L H (upd H a (.lst (vs.take k ++ [v] ++ vs.drop k))) := fun {L} h => ⟨fun b hb => upd_ne fun e => h (e ▸ hb), fun n b g => upd_ne fun e => gn n b g (by rw [e]; simp)⟩
  obtain ⟨La, Lb, rfl, ra, rb⟩ := ROL.split k (rl.kept Le.refl (kA n1))
  have pm : (a :: (La ++ Lt ++ Lb)).Perm (a :: (La ++ Lb ++ Lt)) := List.Perm.cons a (by
    rw [List.append_assoc, List.append_assoc]
    exact List.Perm.append_left _ List.perm_append_comm)
  refine ⟨a, vs, hu, ha, rl.length, f a _ _ (a :: (La ++ Lt ++ Lb)) (by simp) (fun b hb => upd_ne hb) ?_ (pm.nodup_iff.mpr n6) (fun x hx => pm.mem_iff.mp hx)⟩
  simp only [RO]
  exact ⟨a, _, _, rfl, upd_same, (ra.app (ROL.one (r1.kept Le.refl (kA n2)))).app rb, rfl⟩
/-- .extend by frozen ones: what is last is dropped -/
theorem SR.extend {ρ : List (Option T)} {us : List (Option V)} {t : T} {v : V} {L : List Addr} {i : Nat} {acc : List T} {ds : List D} {ws : List V} (s : SR c G Fr F H (ρ ++ [some t]) (us ++ [some v]) L) (h1 : us.length = ρ.length) (h0 : ρ[i]? = some (some (.lst acc))) (hr : RL c F ds ws) :
    ∃ a vs, us[i]? = some (some (.ref a)) ∧ H a = some (.lst vs) ∧ vs.length = acc.length ∧ ∃ L', SR c G Fr F (upd H a (.lst (vs ++ ws))) (ρ.set i (some (.lst (acc ++ ds.map .sh)))) us L' := by
  obtain ⟨u, L2, Lt, hu, r0, r1, nd, ap, gn, f⟩ := s.graft h1 h0
  simp only [RO] at r0
  obtain ⟨a, vs, L1, rfl, ha, rl, rfl⟩ := r0
  obtain ⟨n1, n2, n3, n4, n5, n6⟩ := noA nd
  have kA : ∀ {L : List Addr}, a ∉ L → Kept G L H (upd H a (.lst (vs ++ ws))) := fun {L} h => ⟨fun b hb => upd_ne fun e => h (e ▸ hb), fun n b g => upd_ne fun e => gn n b g (by rw [e]; simp)⟩
  refine ⟨a, vs, hu, ha, rl.length, f a _ _ (a :: L1) (by simp) (fun b hb => upd_ne hb) ?_ (List.nodup_cons.mpr ⟨n1, n3⟩) (fun x hx => List.mem_append_left _ hx)⟩
  simp only [RO]
  exact ⟨a, _, L1, rfl, upd_same, by simpa using (rl.kept Le.refl (kA n1)).app (ROL.ofRL hr), rfl⟩
theorem ROL.set : ∀ {ts : List T} {vs : List V} {L : List Addr} {j : Nat} {t : T} {v : V} {Lt : List Addr}, ROL c G F H ts vs L → RO c G F H t v Lt → j < ts.length → (L ++ Lt).Nodup → ∃ L', ROL c G F H (ts.set j t) (vs.set j v) L' ∧ L'.Nodup ∧ ∀ a ∈ L', a ∈ L ++ Lt
  | [], _, _, j, _, _, _, _, _, h, _ => by simp at h
  | t0 :: r, _, _, 0, t, v, Lt, h, k, _, nd => by
    simp only [ROL] at h
    obtain ⟨v0, w, L1, L2, rfl, rfl, x, y⟩ := h
    refine ⟨Lt ++ L2, by simp only [List.set_cons_zero, ROL]; exact ⟨v, w, Lt, L2, rfl, rfl, k, y⟩, ?_, fun a ha => ?_⟩
    · rw [List.append_assoc] at nd
      have := (List.nodup_append.mp nd).2.1
      exact (List.perm_append_comm).nodup_iff.mp this
    · rcases List.mem_append.mp ha with q | q <;> simp [q]
  | t0 :: r, _, _, j + 1, t, v, Lt, h, k, hj, nd => by
    simp only [ROL] at h
    obtain ⟨v0, w, L1, L2, rfl, rfl, x, y⟩ := h
    rw [List.append_assoc] at nd
    obtain ⟨n1, n2, n3⟩ := List.nodup_append.mp nd
    obtain ⟨L', z, n4, sub⟩ := ROL.set (j := j) y k (by simpa using hj) n2
    refine ⟨L1 ++ L', by simp only [List.set_cons_succ, ROL]; exact ⟨v0, _, L1, L', rfl, rfl, x, z⟩, List.nodup_append.mpr ⟨n1, n4, fun a ha b hb => n3 a ha b (sub b hb)⟩, fun a ha => ?_⟩
    rcases List.mem_append.mp ha with q | q
    · simp [q]
    · have := sub a q
      rw [List.append_assoc]
      exact List.mem_append_right _ this
/-- l[j] = .. -/
theorem SR.setL {ρ : List (Option T)} {us : List (Option V)} {t : T} {v : V} {L : List Addr} {i j : Nat} {acc : List T} (s : SR c G Fr F H (ρ ++ [some t]) (us ++ [some v]) L) (h1 : us.length = ρ.length) (h0 : ρ[i]? = some (some (.lst acc))) (hj : j < acc.length) :
    ∃ a vs, us[i]? = some (some (.ref a)) ∧ H a = some (.lst vs) ∧ vs.length = acc.length ∧ ∃ L', SR c G Fr F (upd H a (.lst (vs.set j v))) (ρ.set i (some (.lst (acc.set j t)))) us L' := by
  obtain ⟨u, L2, Lt, hu, r0, r1, nd, ap, gn, f⟩ := s.graft h1 h0
  simp only [RO] at r0
  obtain ⟨a, vs, L1, rfl, ha, rl, rfl⟩ := r0
  obtain ⟨n1, n2, n3, n4, n5, n6⟩ := noA nd
  have kA : ∀ {L : List Addr}, a ∉ L → Kept G L H (upd H a (.lst (vs.set j v))) := fun {L} h => ⟨fun b hb => upd_ne fun e => h (e ▸ hb), fun n b g => upd_ne fun e => gn n b g (by rw [e]; simp)⟩
  obtain ⟨L', z, n7, sub⟩ := (rl.kept Le.refl (kA n1)).set (r1.kept Le.refl (kA n2)) hj n5
  refine ⟨a, vs, hu, ha, rl.length, f a _ _ (a :: L') (by simp) (fun b hb => upd_ne hb) ?_ (List.nodup_cons.mpr ⟨fun h => ?_, n7⟩) (fun x hx => ?_)⟩
  · simp only [RO]
    exact ⟨a, _, _, rfl, upd_same, z, rfl⟩
  · rcases List.mem_append.mp (sub a h) with q | q
    · exact n1 q
    · exact n2 q
  · rcases List.mem_cons.mp hx with rfl | hx
    · simp
    · have := sub x hx
      simp only [List.mem_append, List.mem_cons] at this ⊢
      rcases this with q | q <;> simp [q]
end MP
/-! MP20: list comprehensions. -/
namespace MP
open PySem PySem.Spec PyProof.Rows L2
variable {c : Cv} {sy : Sy} {X : Cx} {sc : Scope} {N : List Str} {wc : List Str} {C : Ct} {W : WX} {G : Nat → Option Addr} {Fr F F' H H' : Hp}
def WF : WX := fun _ _ _ _ => False
def cellsOf (scope : Scope) : List Str := scope.names.filterMap fun p => if scope.names.lookup p.1 = some .cell then some p.1 else none
def Gz.blk (g : Gz c sy X sc N wc C W) {s : Shared} {H : Hp} {scope : Scope} {cl : List (Str × Addr)} {A : Addr} {fp : List Addr} : Gz c sy (X.blk s H scope (compEnvC scope cl A X.env) fp) (relS scope sc) N (cellsOf scope) C WF where
  kk := g.kk
  exc := g.exc
  exm := g.exm
  scp := by
    show relS scope X.env.scope = _
    rw [g.scp]
  nn := g.nn
  nd := g.nd
  calm := g.calm
  units := g.units
  blt := g.blt
  glo := g.glo
  fld := g.fld
  tab := g.tab
  k := g.k
  room := g.room
  tk := fun u s' ⟨_, _, _, _, _, _, _, _, _, _, _, _, _, _, _, _, w⟩ => w.elim
  fns := fun p hp => by
    obtain ⟨a, I, h1, h2⟩ := g.fns p hp
    exact ⟨a, ⟨I.ok, I.kp⟩, h1, h2⟩
  wcs := fun x hx => by
    unfold cellsOf at hx
    obtain ⟨p, hp, e⟩ := List.mem_filterMap.mp hx
    split at e
    · rename_i h
      injection e with e
      subst e
      show (scope.names.lookup p.1 == some NameKind.cell) = true
      rw [h]
      decide
    · cases e
/-! ### wiped slots -/
theorem wipe1_len {r : Env1} : ∀ {vs : List Nat}, (wipe1 r vs).length = r.length
  | [] => rfl
  | v :: vs => by unfold wipe1; rw [List.length_set, wipe1_len]
theorem unwipe_len {r0 r : Env1} : ∀ {vs : List Nat}, (unwipe r0 r vs).length = r.length
  | [] => rfl
  | v :: vs => by unfold unwipe; rw [List.length_set, unwipe_len]
theorem SR.wipe {ts : List (Option T)} {us : List (Option V)} {ρ : Env1} {σ : L2.St} {L : List Addr} (s : SR c G Fr F H (ρ ++ ts) (σ ++ us) L) (hl : ρ.length = σ.length) : ∀ {vs : List Nat}, (∀ v ∈ vs, v < ρ.length) → ∃ L', SR c G Fr F H (wipe1 ρ vs ++ ts) (L2.wipe σ vs ++ us) L'
  | [], _ => ⟨L, s⟩
  | v :: vs, h => by
    obtain ⟨L1, s1⟩ := SR.wipe s hl (vs := vs) fun x hx => h x (List.mem_cons_of_mem _ hx)
    have hv := h v List.mem_cons_self
    obtain ⟨LL2, s2, _⟩ := s1.put (i := v) (o := none) (u := none) (by simp [wipe1_len]; omega) (.inl rfl)
    rw [set_app (by rw [wipe1_len]; exact hv), set_app (by rw [L2.wipe_length]; omega)] at s2
    exact ⟨LL2, s2⟩
def rew (σ w : L2.St) : List Nat → L2.St
  | [] => w
  | v :: vs => (rew σ w vs).set v (σ[v]?).join
theorem rew_len {σ w : L2.St} : ∀ {vs : List Nat}, (rew σ w vs).length = w.length
  | [] => rfl
  | v :: vs => by unfold rew; rw [List.length_set, rew_len]
theorem rew_get {σ w : L2.St} (hl : w.length = σ.length) : ∀ {vs : List Nat} {i : Nat}, (rew σ w vs)[i]? = if i ∈ vs then σ[i]? else w[i]?
  | [], i => by simp [rew]
  | v :: vs, i => by
    unfold rew
    by_cases e : v = i
    · subst e
      rw [if_pos List.mem_cons_self]
      by_cases hv : v < σ.length
      · rw [List.getElem?_set_self (by rw [rew_len]; omega)]
        rw [List.getElem?_eq_getElem hv]
        rfl
      · rw [List.getElem?_eq_none (by simp [rew_len]; omega), List.getElem?_eq_none (by omega)]
    · rw [List.getElem?_set_ne e, rew_get hl]
      by_cases hi : i ∈ vs
      · rw [if_pos hi, if_pos (List.mem_cons_of_mem _ hi)]
      · rw [if_neg hi, if_neg (by simp only [List.mem_cons, not_or]; exact ⟨fun q => e q.symm, hi⟩)]
theorem wipe_get {σ : L2.St} : ∀ {vs : List Nat} {i : Nat}, (L2.wipe σ vs)[i]? = if i ∈ vs ∧ i < σ.length then some none else σ[i]?
  | [], i => by simp [L2.wipe]
  | v :: vs, i => by
    unfold L2.wipe
    by_cases e : v = i
    · subst e
      by_cases hv : v < σ.length
      · rw [if_pos ⟨List.mem_cons_self, hv⟩, List.getElem?_set_self (by rw [L2.wipe_length]; exact hv)]
      · rw [if_neg fun h => hv h.2, List.getElem?_eq_none (by simp [L2.wipe_length]; omega), List.getElem?_eq_none (by omega)]
    · rw [List.getElem?_set_ne e, wipe_get]
      have : (i ∈ v :: vs) ↔ i ∈ vs := by simp only [List.mem_cons]; exact ⟨fun h => h.resolve_left fun q => e q.symm, .inr⟩
      by_cases hi : i ∈ vs ∧ i < σ.length
      · rw [if_pos hi, if_pos ⟨this.mpr hi.1, hi.2⟩]
      · rw [if_neg hi, if_neg fun h => hi ⟨this.mp h.1, h.2⟩]
theorem wipe_eq {σ σ' : L2.St} {vs : List Nat} (hl : σ'.length = σ.length) (h : ∀ i, i ∉ vs → σ'[i]? = (L2.wipe σ vs)[i]?) : L2.wipe σ' vs = L2.wipe σ vs := by
  refine List.ext_getElem? fun i => ?_
  rw [wipe_get (σ := σ'), hl]
  by_cases hi : i ∈ vs
  · rw [wipe_get]
    by_cases hq : i < σ.length
    · rw [if_pos ⟨hi, hq⟩, if_pos ⟨hi, hq⟩]
    · rw [if_neg fun z => hq z.2, if_neg fun z => hq z.2, List.getElem?_eq_none (by omega), List.getElem?_eq_none (by omega)]
  · rw [if_neg fun z => hi z.1, h i hi]
theorem rew_wipe {σ : L2.St} {vs : List Nat} : rew σ (L2.wipe σ vs) vs = σ := by
  refine List.ext_getElem? fun i => ?_
  rw [rew_get (L2.wipe_length _ _)]
  by_cases hi : i ∈ vs
  · rw [if_pos hi]
  · rw [if_neg hi, wipe_get, if_neg fun h => hi h.1]
theorem SR.rew {ts : List (Option T)} {us : List (Option V)} {ρ r : Env1} {σ w : L2.St} {L : List Addr} (s : SR c G Fr F H (r ++ ts) (w ++ us) L) (hl : r.length = w.length) : ∀ {vs : List Nat}, (∀ v ∈ vs, v < r.length ∧ (slot ρ v = none ∨ ∃ d x, slot ρ v = some (.sh d) ∧ σ[v]? = some (some x) ∧ R c F d x)) →
    ∃ L', SR c G Fr F H (unwipe ρ r vs ++ ts) (MP.rew σ w vs ++ us) L'
  | [], _ => ⟨L, s⟩
  | v :: vs, h => by
    obtain ⟨L1, s1⟩ := SR.rew s hl (vs := vs) fun x hx => h x (List.mem_cons_of_mem _ hx)
    obtain ⟨hv, hh⟩ := h v List.mem_cons_self
    obtain ⟨LL2, s2, _⟩ := s1.put (i := v) (o := slot ρ v) (u := (σ[v]?).join) (by simp [unwipe_len]; omega) (by
      rcases hh with e | ⟨d, x, e1, e2, e3⟩
      · exact .inl e
      · exact .inr ⟨d, x, e1, by rw [e2]; rfl, e3⟩)
    rw [set_app (by rw [unwipe_len]; exact hv), set_app (by rw [rew_len]; omega)] at s2
    exact ⟨LL2, s2⟩
/-- a new frozen object -/
theorem SR.frozen {ρ : List (Option T)} {us : List (Option V)} {L : List Addr} {p : Addr} {o : HO} (s : SR c G Fr F H ρ us L) (hp : H p = none) : Le F (upd F p o) ∧ SR c G Fr (upd F p o) (upd H p o) ρ us L := by
  have Fp : F p = none := by
    cases e : F p with
    | none => rfl
    | some o' => rcases s.le p o' e with e | ⟨_, _, e⟩ <;> (rw [hp] at e; cases e)
  have Frp : Fr p = none := by
    cases e : Fr p with
    | none => rfl
    | some o' => have := s.fr p o' e; rw [hp] at this; cases this
  have l : Le F (upd F p o) := Le.upd_new Fp
  have ne : ∀ a ∈ L, a ≠ p := fun a ha e => by
    obtain ⟨o', e', _⟩ := s.sl.mem a ha
    rw [e, hp] at e'; cases e'
  have s2 := s.alloc (o := o) hp
  refine ⟨l, s2.sl.kept l ⟨fun _ _ => rfl, fun _ _ _ => rfl⟩, s.nd, fun a ha => ⟨by rw [upd_ne (ne a ha)]; exact (s.ap a ha).1, (s.ap a ha).2⟩, fun a u e => ?_, s2.fr, s.gf, fun a ha => ?_⟩
  · by_cases q : a = p
    · subst q
      rw [upd_same] at e ⊢
      exact .inl e
    · rw [upd_ne q] at e
      exact s2.le a u e
  · have q : a ≠ p := fun q => ha (by rw [q]; exact Frp)
    rw [upd_ne q]
    exact s.ff a ha
theorem SR.slotR {ρ : List (Option T)} {us : List (Option V)} {L : List Addr} {i : Nat} {d : D} (s : SR c G Fr F H ρ us L) (h : ρ[i]? = some (some (.sh d))) : ∃ v, us[i]? = some (some v) ∧ R c F d v := by
  obtain ⟨u, L1, LL2, L3, hu, _, ⟨v, e, r⟩, _⟩ := s.sl.at h
  subst e
  simp only [RO] at r
  exact ⟨v, hu, r.2⟩
theorem hasAll_mem {r : Env1} : ∀ {vs : List Nat}, hasAll r vs = true → ∀ v ∈ vs, v < r.length ∧ (slot r v = none ∨ ∃ d, slot r v = some (.sh d))
  | [], _, v, h => by cases h
  | w :: vs, h, v, hv => by
    unfold hasAll at h
    rw [Bool.and_eq_true] at h
    rcases List.mem_cons.mp hv with rfl | hv
    · have h1 := h.1
      unfold slot
      split at h1
      · rename_i e; exact ⟨(List.getElem?_eq_some_iff.mp e).1, .inl (by rw [e])⟩
      · rename_i d e; exact ⟨(List.getElem?_eq_some_iff.mp e).1, .inr ⟨d, by rw [e]⟩⟩
      · cases h1
    · exact hasAll_mem h.2 v hv
theorem slot_get {r : Env1} {v : Nat} {t : T} (h : slot r v = some t) : r[v]? = some (some t) := by
  unfold slot at h
  split at h
  · rename_i o e; rw [e, h]
  · cases h
theorem s_lc (g : Gz c sy X sc N wc C W) {gT : Tg} {it cond elt : E} {tg iter eltE : Expr} {ifs : List Expr} {scope : Scope} {own : List (Str × Nat)} {pos : Pos} (hb : blkC N sc scope own = true) (ho : own.map (·.2) = gT.slots)
    (hi : PI X tg iter (tIt c G C W it)) (hg : chkT (relS scope sc) N (cellsOf scope) gT tg = true)
    (ht : ∀ X', Gz c sy X' (relS scope sc) N (cellsOf scope) C WF → PTs X' ifs (tT c G C WF cond))
    (he : ∀ X', Gz c sy X' (relS scope sc) N (cellsOf scope) C WF → PE X' eltE (tE c G C WF elt))
    (hs : ∀ x, foldedSetIterable iter X.env x = pure x) : PE X (.ListComp eltE [⟨tg, iter, ifs, 0⟩] scope pos) (tLc (tIt c G C W it) (tTg c G (fun _ => false) gT) (tT c G C WF cond) (tE c G C WF elt) gT.slots) := by
  rw [← ho]
  exact pe_lc g.calm (by rw [g.nn]; exact g.nd) hi (by rw [g.nn, g.scp]; exact blkOk_by hb) (fun s H A cl fp => tg_ok g.blk hg) (fun s H A cl fp => ht _ g.blk) (fun s H A cl fp => he _ g.blk) hs
/-- what a comprehension asks, from its evaluation -/
theorem lc_core' {gT : Tg} {it cond elt : E} {σ : L2.St} {Q : VK} (h : tE c G C W (.lc gT it cond elt) σ H Q) : tLc (tIt c G C W it) (tTg c G (fun _ => false) gT) (tT c G C WF cond) (tE c G C WF elt) gT.slots σ H Q := by
  obtain ⟨Fr, F, ρ, ts, us, L, s, hl, k⟩ := h
  refine ⟨Fr, F, ρ, ts, us, L, s, hl, ?_⟩
  simp only [evE] at k
  cases hI : evI C it ρ with
  | no => rw [hI] at k; exact k
  | ex x ρ' => rw [hI] at k; exact k
  | ok ds ρ' =>
    rw [hI] at k
    dsimp only at k ⊢
    intro J H1 F1 L1 h1 le1 s1 wk D hD
    generalize hvs : gT.slots = vs at k ⊢
    cases ha : hasAll ρ' vs with
    | false => rw [ha] at k; exact k.elim
    | true =>
      rw [ha, if_pos rfl] at k
      have hm := hasAll_mem ha
      have s2 : SR c G Fr F1 (upd H1 D (.lst [])) (ρ' ++ (ts ++ [some (.lst [])])) (σ ++ (us ++ [some (.ref D)])) (L1 ++ [D]) := by
        have z := s1.snocN (t := .lst []) hD (by simp only [RO]; exact ⟨D, [], [], rfl, upd_same, by simp only [ROL]; exact ⟨trivial, trivial⟩, rfl⟩)
        simpa using z
      obtain ⟨LL2, s3⟩ := s2.wipe (by omega) fun v hv => (hm v hv).1
      -- the invariant
      refine ⟨fun i m H => m = ds.length - i ∧ i ≤ ds.length ∧ ∃ (F' : Hp) (r : Env1) (acc : List T) (L : List Addr), Le F1 F' ∧ r.length = ρ'.length ∧ SR c G Fr F' H (r ++ (ts ++ [some (.lst acc)])) (L2.wipe σ vs ++ (us ++ [some (.ref D)])) L ∧
        match lcRun gT vs (tsE C cond) (evE C elt) (ds.drop i) r acc with
        | .ok ts' r2 => ∀ H' F'' L', r2.length = ρ'.length → Le F1 F'' → SR c G Fr F'' H' (r2 ++ (ts ++ [some (.lst ts')])) (L2.wipe σ vs ++ (us ++ [some (.ref D)])) L' → Q (.ref D) H'
        | _ => False, ⟨ds.length, by simp, Nat.zero_le _, F1, _, [], LL2, .refl, by rw [wipe1_len], s3, ?_⟩, ?_⟩
      · rw [List.drop_zero]
        cases hr : lcRun gT vs (tsE C cond) (evE C elt) ds (wipe1 ρ' vs) [] with
        | no => rw [hr] at k; exact k
        | ex x r2 => rw [hr] at k; exact k
        | ok ts' r2 =>
          rw [hr] at k
          dsimp only at k ⊢
          intro H' F'' L' e1 le' s'
          obtain ⟨L3, s4⟩ := s'.rew (ρ := ρ') (σ := σ) (vs := vs) (by rw [L2.wipe_length]; omega) fun v hv => by
            obtain ⟨q1, q2⟩ := hm v hv
            refine ⟨by omega, ?_⟩
            rcases q2 with q2 | ⟨d, q2⟩
            · exact .inl q2
            · obtain ⟨x, hx, rx⟩ := s1.slotR (i := v) (d := d) (by rw [List.getElem?_append_left q1]; exact slot_get q2)
              rw [List.getElem?_append_left (by omega)] at hx
              exact .inr ⟨d, x, q2, hx, rx.mono le'⟩
          rw [rew_wipe] at s4
          exact k (.ref D) H' F'' L3 (by rw [unwipe_len]; omega) (le1.trans le') s4
      · rintro i m H ⟨rfl, hle, F', r, acc, L, le', hr, sr, kk⟩
        by_cases hlt : i < ds.length
        · have hd : ds[i]? = some ds[i] := List.getElem?_eq_getElem hlt
          generalize ds[i] = d at hd
          have hdrop : ds.drop i = d :: ds.drop (i + 1) := by
            rw [List.drop_eq_getElem_cons hlt]
            rw [List.getElem?_eq_getElem hlt] at hd
            injection hd with hd
            rw [hd]
          rw [hdrop] at kk
          simp only [lcRun] at kk
          obtain ⟨go, yd⟩ := (wk F' H le' sr.le).2 i d hd
          refine .inr ⟨go, _, fun H' hN => ⟨ds.length - (i + 1), by omega, rfl, by omega, hN⟩, fun x H' hy => ?_⟩
          obtain ⟨F2, le2, s4, rd⟩ : ∃ F2, Le F' F2 ∧ SR c G Fr F2 H' (r ++ (ts ++ [some (.lst acc)])) (L2.wipe σ vs ++ (us ++ [some (.ref D)])) L ∧ R c F2 d x := by
            rcases yd x H' hy with ⟨rfl, rd⟩ | ⟨p, o, hp, rfl, rd⟩
            · exact ⟨F', .refl, sr, rd⟩
            · obtain ⟨l, s5⟩ := sr.frozen (o := o) hp
              exact ⟨_, l, s5, rd⟩
          cases hbd : bindT (fun _ => false) gT d r with
          | none => rw [hbd] at kk; exact kk.elim
          | some r1 =>
            rw [hbd] at kk
            dsimp only at kk
            have lr1 := bindT_len hbd
            refine ⟨Fr, F2, r, _, _, L, d, r1, s4, by rw [L2.wipe_length]; omega, rd, hbd, fun σ' L3 e1 e2 e3 s5 => ⟨?_, ?_⟩⟩
            · rw [L2.wipe_length] at e2
              refine wipe_eq e2 fun j hj => e3 j (.inr (by rw [hvs]; exact hj))
            · rw [L2.wipe_length] at e2
              have hw : L2.wipe σ' vs = L2.wipe σ vs := wipe_eq e2 fun j hj => e3 j (.inr (by rw [hvs]; exact hj))
              have leA : Le F1 F2 := le'.trans le2
              refine ⟨Fr, F2, r1, _, _, L3, s5, by omega, ?_⟩
              cases hc : tsE C cond r1 with
              | no => rw [hc] at kk; exact kk.elim
              | ex x r2 => rw [hc] at kk; exact kk.elim
              | ok b r2 =>
                rw [hc] at kk
                dsimp only
                intro H3 F3 L4 e4 le3 s6
                cases b with
                | false =>
                  rw [if_neg (by simp)]
                  dsimp only at kk
                  obtain ⟨L5, s7⟩ := s6.wipe (vs := vs) (by omega) fun v hv => by have := (hm v hv).1; omega
                  rw [hw] at s7
                  exact ⟨F3, wipe1 r2 vs, acc, L5, leA.trans le3, by rw [wipe1_len]; omega, s7, kk⟩
                | true =>
                  rw [if_pos rfl]
                  dsimp only at kk
                  refine ⟨Fr, F3, r2, _, _, L4, s6, by omega, ?_⟩
                  cases he : evE C elt r2 with
                  | no => rw [he] at kk; exact kk.elim
                  | ex x r3 => rw [he] at kk; exact kk.elim
                  | ok t r3 =>
                    rw [he] at kk
                    dsimp only at kk ⊢
                    intro v H4 F4 L6 e5 le4 s8
                    have hus : us.length = ts.length := s.lenT hl
                    have s9 : SR c G Fr F4 H4 ((r3 ++ (ts ++ [some (.lst acc)])) ++ [some t]) ((σ' ++ (us ++ [some (.ref D)])) ++ [some v]) L6 := by simpa using s8
                    obtain ⟨a, accV, q1, q2, q3, L7, s10⟩ := s9.push (i := r3.length + ts.length) (acc := acc) (by simp; omega) (by
                      rw [← List.append_assoc, List.getElem?_append_right (by simp)]
                      simp)
                    have eD : a = D := by
                      have hh : r3.length + ts.length = (σ' ++ us).length := by simp; omega
                      rw [← List.append_assoc, hh, List.getElem?_append_right (by simp)] at q1
                      simpa using q1.symm
                    subst eD
                    by_cases hz : acc.length < sizeLine
                    · rw [if_pos hz] at kk
                      refine ⟨accV, q2, by omega, ?_⟩
                      have eset : (r3 ++ (ts ++ [some (T.lst acc)])).set (r3.length + ts.length) (some (.lst (acc ++ [t]))) = r3 ++ (ts ++ [some (.lst (acc ++ [t]))]) := by
                        rw [← List.append_assoc, List.set_append_right _ _ (by simp)]
                        simp
                      rw [eset] at s10
                      obtain ⟨L8, s11⟩ := s10.wipe (vs := vs) (by omega) fun v hv => by have := (hm v hv).1; omega
                      rw [hw] at s11
                      exact ⟨F4, wipe1 r3 vs, acc ++ [t], L8, (leA.trans le3).trans le4, by rw [wipe1_len]; omega, s11, kk⟩
                    · rw [if_neg hz] at kk; exact kk.elim
        · have hi : i = ds.length := by omega
          subst hi
          rw [List.drop_length] at kk
          simp only [lcRun] at kk
          exact .inl ⟨(wk F' H le' sr.le).1, kk H F' L hr le' sr⟩
end MP
/-! MP21: the checker of expressions, its truth. -/
namespace MP
open PySem PySem.Spec PyProof.Rows L2
variable {c : Cv} {sy : Sy} {X : Cx} {sc : Scope} {N : List Str} {wc : List Str} {C : Ct} {W : WX} {G : Nat → Option Addr} {Fr F F' H H' : Hp}
/-! ### more cases -/
theorem s_and1 {op : BoolOp} {b : E} {y : Expr} {pos : Pos} (h : PE X y (tE c G C W b)) : PE X (.BoolOp op [y] pos) (tE c G C W b) := pe_one h
theorem s_nT (g : Gy c sy X sc N C W) {neg : Bool} {a : E} {x : Expr} {j : Nat} {pos' pos : Pos} (ha : PE X x (tE c G C W a)) : PT X (.Compare x [if neg then .IsNot else .Is] [.Constant .none j pos'] pos) (tT c G C W (.o1 (if neg then .notN else .isN) a)) := by
  have core : ∀ {σ H Q}, tT c G C W (.o1 (if neg then .notN else .isN) a) σ H Q → tE c G C W a σ H fun v H1 => Q (if neg then !decide (v = .non) else decide (v = .non)) H1 := by
    intro σ H Q ⟨Fr, F, ρ, ts, us, L, s, hl, k⟩
    simp only [tsE, evE] at k
    cases he : evE C a ρ with
    | no => rw [he] at k; exact k.elim
    | ex x ρ' =>
      rw [he] at k
      refine ⟨Fr, F, ρ, ts, us, L, s, hl, ?_⟩
      rw [he]
      exact k
    | ok t ρ' =>
      rw [he] at k
      dsimp only at k
      cases hf : frz t with
      | none => rw [hf] at k; exact k.elim
      | some d =>
        rw [hf] at k
        refine tE.frz s hl ?_
        rw [he]
        refine ⟨d, hf, fun v H' F' L' h1 le rv s' => ?_⟩
        obtain ⟨L2, s2⟩ := s'.dropLast (s.eqLen hl h1)
        show Q (if neg = true then !decide (v = .non) else decide (v = .non)) H'
        rw [(Vw.of (G := G) (H := H') rv).isN]
        cases neg with
        | true => exact k H' F' L2 h1 le s2
        | false => exact k H' F' L2 h1 le s2
  cases neg with
  | true =>
    refine (pt_cmp (pc_notN ha) rfl).weaken fun σ H Q h => ?_
    obtain ⟨Fr, F, ρ, ts, us, L, s, hl, k⟩ := core h
    refine ⟨Fr, F, ρ, ts, us, L, s, hl, ?_⟩
    split
    · rename_i t ρ' e
      rw [e] at k
      exact fun v H' F' L' h1 le s' => ⟨_, rfl, k v H' F' L' h1 le s'⟩
    · rename_i x ρ' e
      rw [e] at k
      exact k
    · rename_i e
      rw [e] at k
      exact k
  | false =>
    refine (pt_cmp (pc_isN ha) rfl).weaken fun σ H Q h => ?_
    obtain ⟨Fr, F, ρ, ts, us, L, s, hl, k⟩ := core h
    refine ⟨Fr, F, ρ, ts, us, L, s, hl, ?_⟩
    split
    · rename_i t ρ' e
      rw [e] at k
      exact fun v H' F' L' h1 le s' => ⟨_, rfl, k v H' F' L' h1 le s'⟩
    · rename_i x ρ' e
      rw [e] at k
      exact k
    · rename_i e
      rw [e] at k
      exact k
/-! ### shapes of calls -/
def callSh (sy : Sy) (sc : Scope) (f : Fk) (df : List D) : Expr → Option (List Expr)
  | .Call (.Name x _) xs [] _ => if f = (("" : Str), x) ∧ glB sc x = true ∧ (x == ("__debug__" : Str)) = false ∧ noStars xs = true ∧ fnB sy (("" : Str), x) xs.length df = true then some xs else none
  | _ => none
def newSh (sy : Sy) (sc : Scope) (k : Str) (df : List D) : Expr → Option (List Expr)
  | .Call (.Name x _) xs [] _ => if k = x ∧ glB sc x = true ∧ (x == ("__debug__" : Str)) = false ∧ x ≠ "" ∧ noStars xs = true ∧ fnB sy (x, "__init__") (xs.length + 1) df = true then some xs else none
  | _ => none
def methSh (sy : Sy) (m : Str) (ks : List Str) (df : List D) : Expr → Option (Expr × List Expr)
  | .Call (.Attribute o m' apos) xs [] pos => if m' = m ∧ noStars xs = true ∧ baseOk o = true ∧ xs.length < 30 ∧ (apos.endLine == pos.line) = true ∧ mthB sy ks m (xs.length + 1) df = true then some (o, xs) else none
  | _ => none
def notBor : E → Bool
  | .bor _ => false
  | _ => true
theorem notBor_ok {a : E} (h : notBor a = true) : (∀ i, a ≠ .bor i) ∧ a.bor1 = none := by
  cases a <;> first | exact ⟨fun i e => (by cases e), rfl⟩ | cases h
def noSetI : Expr → Bool
  | .Set _ _ _ => false
  | _ => true
theorem noSetI_ok {e : Expr} {env : PySem.Env} (h : noSetI e = true) (x : Value) : foldedSetIterable e env x = pure x := by
  cases e <;> first | rfl | cases h
def joinOk (o : Op2) (a : E) : Bool := if o = .join then (match a with | .p (.lit (.str _)) => true | _ => false) else true
theorem joinOk_ok {o : Op2} {a : E} (h : joinOk o a = true) : o ≠ .join ∨ ∃ q, a = .p (.lit (.str q)) := by
  unfold joinOk at h
  split at h
  · split at h
    · exact .inr ⟨_, rfl⟩
    · cases h
  · exact .inl (by assumption)
def borSh : E → Expr → Option (Nat × Str)
  | .bor i, .Name y _ => some (i, y)
  | _, _ => none
def isYes : E → Bool
  | .yes => true
  | _ => false
def isTup : Expr → Bool
  | .Tuple _ _ _ => true
  | _ => false
/-- is None, is not None -/
def nonSh : CmpOp → Expr → Option Bool
  | .Is, .Constant .none _ _ => some false
  | .IsNot, .Constant .none _ _ => some true
  | _, _ => none
def cmpSh (sx : Sx) (sc : Scope) (N : List Str) (q : P) (x : Expr) (op : CmpOp) (y : Expr) : Bool := match q with
  | .o2 o a b => decide (cmpOf o = some op) && noSet y && chkP sx sc N a x && chkP sx sc N b y
  | .o1 o a => match nonSh op y with
    | some neg => decide (o = if neg then .notN else .isN) && chkP sx sc N a x
    | none => false
  | _ => false
def bltSh (sx : Sx) (sc : Scope) (f : Str) : Expr → Option (List Expr)
  | .Call (.Name x _) xs [] _ => if x = f ∧ bltB sx sc f = true then some xs else none
  | _ => none
/-! ### the checkers -/
mutual
def chkE (sy : Sy) (N : List Str) (sc : Scope) (wc : List Str) : E → Expr → Bool
  | .p q, e => chkP sy.toSx sc N q e
  | .fz i, e => match e with
    | .Name y _ => nameB sc N i y
    | _ => false
  | .mv i, e => match e with
    | .Name y _ => nameB sc N i y
    | _ => false
  | .frE a, e => chkE sy N sc wc a e
  | .o1 o a, e => match sub1 sy.toSx sc o e with
    | some e1 => chkE sy N sc wc a e1
    | none => false
  | .o2 o a b, e => match sub2 o e with
    | some (e1, e2) => joinOk o a && chkE sy N sc wc a e1 && chkE sy N sc wc b e2
    | none => false
  | .o3 o a b d, e => match b, d, sub3 o e with
    | .p b, .p d, some (e1, e2, e3) => chkE sy N sc wc a e1 && chkP sy.toSx sc N b e2 && chkP sy.toSx sc N d e3
    | _, _, _ => false
  | .k2 o a b, e => match sub2 o e with
    | some (e1, e2) => decide (o ≠ .join) && chkE sy N sc wc a e1 && chkP sy.toSx sc N b e2
    | none => false
  | .chain o o' a b d, e => match e with
    | .Compare x [op, op'] [y, z] _ => decide (cmpOf o = some op) && decide (cmpOf o' = some op') && noSet z && chkP sy.toSx sc N a x && chkP sy.toSx sc N b y && chkP sy.toSx sc N d z
    | _ => false
  | .tup es, e => match e with
    | .Tuple xs _ _ => chkEs sy N sc wc es xs
    | _ => false
  | .sortIt a, e => match e with
    | .Call (.Name x _) [.Call (.Attribute o m apos) [] [] cpos] [] _ => decide (x = "sorted") && decide (m = "items") && bltB sy.toSx sc "sorted" && baseOk o && (apos.endLine == cpos.line) && chkP sy.toSx sc N a o
    | _ => false
  | .n1 o q, e => match sub1 sy.toSx sc o e with
    | some e1 => chkP sy.toSx sc N q e1
    | none => false
  | .lenO ks a, e => match e with
    | .Call (.Name x _) [o] [] _ => decide (x = "len") && bltB sy.toSx sc "len" && noStar o && mthB sy ks "__len__" 1 [] && notBor a && chkE sy N sc wc a o
    | _ => false
  | .callP f i n, e => match e with
    | .Call (.Name x _) (e0 :: xs) [] _ => decide (f = (("" : Str), x)) && glB sc x && !(x == ("__debug__" : Str)) && fnB sy (("" : Str), x) (e0 :: xs).length [] && partsB sc N i 0 (e0 :: xs) && decide (n = (e0 :: xs).length)
    | _ => false
  | .dlit kvs, e => match e with
    | .Dict es xs _ => litKs kvs es xs
    | _ => false
  | .dnew, e => match e with
    | .Dict [] [] _ => true
    | _ => false
  | .lst es, e => match e with
    | .List xs _ => chkEs sy N sc wc es xs
    | _ => false
  | .and a b, e => match e with
    | .BoolOp .And (x :: y :: r) pos => chkE sy N sc wc a x && (if r.isEmpty then chkE sy N sc wc b y else chkE sy N sc wc b (.BoolOp .And (y :: r) pos))
    | _ => false
  | .or a b, e => match e with
    | .BoolOp .Or (x :: y :: r) pos => chkE sy N sc wc a x && (if r.isEmpty then chkE sy N sc wc b y else chkE sy N sc wc b (.BoolOp .Or (y :: r) pos))
    | _ => false
  | .not a, e => match e with
    | .UnaryOp .Not x _ => chkE sy N sc wc a x
    | _ => false
  | .ife t a b, e => match e with
    | .IfExp x y z _ => chkB sy N sc wc t x && chkE sy N sc wc a y && chkE sy N sc wc b z
    | _ => false
  | .call f es df, e => match callSh sy sc f df e with
    | some xs => chkEs sy N sc wc es xs
    | none => false
  | .new k es df, e => match newSh sy sc k df e with
    | some xs => chkEs sy N sc wc es xs
    | none => false
  | .meth m ks a es df, e => match methSh sy m ks df e with
    | some (o, xs) => chkEs sy N sc wc es xs && (match borSh a o with
      | some (i, y) => nameB sc N i y
      | none => notBor a && chkE sy N sc wc a o)
    | none => false
  | .lc g it cond elt, e => match e with
    | .ListComp el [⟨tg, iter, ifs, 0⟩] scope _ => blkC N sc scope (g.slots.map fun i => (N.getD i "", i)) && chkI sy N sc wc it tg iter && chkT (relS scope sc) N (cellsOf scope) g tg && noSetI iter && chkE sy N (relS scope sc) (cellsOf scope) elt el && (match ifs with
      | [] => isYes cond
      | [t] => chkB sy N (relS scope sc) (cellsOf scope) cond t
      | _ => false)
    | _ => false
  | _, _ => false
def chkEs (sy : Sy) (N : List Str) (sc : Scope) (wc : List Str) : E → List Expr → Bool
  | .nil, es => es.isEmpty
  | .cons a b, es => match es with
    | [] => false
    | e :: es => (match borSh a e with
      | some (i, y) => nameB sc N i y
      | none => notBor a && noStar e && chkE sy N sc wc a e) && chkEs sy N sc wc b es
  | _, _ => false
def chkB (sy : Sy) (N : List Str) (sc : Scope) (wc : List Str) : E → Expr → Bool
  | .and a b, e => match e with
    | .BoolOp .And (x :: y :: r) pos => chkB sy N sc wc a x && (if r.isEmpty then chkB sy N sc wc b y else chkB sy N sc wc b (.BoolOp .And (y :: r) pos))
    | _ => false
  | .or a b, e => match e with
    | .BoolOp .Or (x :: y :: r) pos => chkB sy N sc wc a x && (if r.isEmpty then chkB sy N sc wc b y else chkB sy N sc wc b (.BoolOp .Or (y :: r) pos))
    | _ => false
  | .not a, e => match e with
    | .UnaryOp .Not x _ => chkB sy N sc wc a x
    | _ => false
  | .p q, e => match e with
    | .Compare x [op] [y] _ => cmpSh sy.toSx sc N q x op y
    | e => plainTest e && chkP sy.toSx sc N q e
  | .o1 o a, e => match e with
    | .Compare x [op] [y] _ => (match nonSh op y with
      | some neg => decide (o = if neg then .notN else .isN) && chkE sy N sc wc a x
      | none => false)
    | e => plainTest e && (match sub1 sy.toSx sc o e with
      | some e1 => chkE sy N sc wc a e1
      | none => false)
  | .o2 o a b, e => match e with
    | .Compare x [op] [y] _ => decide (cmpOf o = some op) && noSet y && chkE sy N sc wc a x && chkE sy N sc wc b y
    | e => plainTest e && (match sub2 o e with
      | some (e1, e2) => joinOk o a && chkE sy N sc wc a e1 && chkE sy N sc wc b e2
      | none => false)
  | .k2 o a b, e => match e with
    | .Compare x [op] [y] _ => decide (cmpOf o = some op) && noSet y && chkE sy N sc wc a x && chkP sy.toSx sc N b y
    | e => plainTest e && (match sub2 o e with
      | some (e1, e2) => decide (o ≠ .join) && chkE sy N sc wc a e1 && chkP sy.toSx sc N b e2
      | none => false)
  | .vk o i b, e => match e with
    | .Compare (.Name x _) [op] [y] _ => decide (cmpOf o = some op) && noSet y && nameB sc N i x && chkE sy N sc wc b y
    | _ => false
  | .chain o o' a b d, e => match e with
    | .Compare x [op, op'] [y, z] _ => decide (cmpOf o = some op) && decide (cmpOf o' = some op') && noSet z && chkP sy.toSx sc N a x && chkP sy.toSx sc N b y && chkP sy.toSx sc N d z
    | _ => false
  | .call f es df, e => plainTest e && (match callSh sy sc f df e with
    | some xs => chkEs sy N sc wc es xs
    | none => false)
  | .meth m ks a es df, e => plainTest e && (match methSh sy m ks df e with
    | some (o, xs) => chkEs sy N sc wc es xs && (match borSh a o with
      | some (i, y) => nameB sc N i y
      | none => notBor a && chkE sy N sc wc a o)
    | none => false)
  | _, _ => false
def chkI (sy : Sy) (N : List Str) (sc : Scope) (wc : List Str) : E → Expr → Expr → Bool
  | .iv a, tg, e => chkE sy N sc wc a e
  | .rng1 a, tg, e => match bltSh sy.toSx sc "range" e with
    | some [e] => noStar e && notBor a && chkE sy N sc wc a e
    | _ => false
  | .rng2 a b, tg, e => match bltSh sy.toSx sc "range" e with
    | some [e, e'] => noStar e && noStar e' && notBor a && notBor b && chkE sy N sc wc a e && chkE sy N sc wc b e'
    | _ => false
  | .zip a b, tg, e => isTup tg && (match bltSh sy.toSx sc "zip" e with
    | some [e, e'] => noStar e && noStar e' && notBor a && notBor b && chkE sy N sc wc a e && chkE sy N sc wc b e'
    | _ => false)
  | .enum a, tg, e => isTup tg && (match bltSh sy.toSx sc "enumerate" e with
    | some [e] => noStar e && notBor a && chkE sy N sc wc a e
    | _ => false)
  | _, _, _ => false
end
end MP
/-! MP22: the truth of the checker. -/
namespace MP
open PySem PySem.Spec PyProof.Rows L2
variable {c : Cv} {sy : Sy} {X : Cx} {sc : Scope} {N : List Str} {wc : List Str} {C : Ct} {W : WX} {G : Nat → Option Addr} {Fr F F' H H' : Hp}
theorem borSh_ok {a : E} {o : Expr} {i : Nat} {y : Str} (h : borSh a o = some (i, y)) : a = .bor i ∧ ∃ pos, o = .Name y pos := by
  unfold borSh at h
  split at h
  · injection h with h
    injection h with h1 h2
    subst h1 h2
    exact ⟨rfl, _, rfl⟩
  · cases h
theorem isYes_ok {a : E} (h : isYes a = true) : a = .yes := by
  cases a <;> first | rfl | cases h
theorem isTup_ok {a : Expr} (h : isTup a = true) : ∃ es k pos, a = .Tuple es k pos := by
  cases a <;> first | exact ⟨_, _, _, rfl⟩ | cases h
theorem nonSh_ok {op : CmpOp} {y : Expr} {neg : Bool} (h : nonSh op y = some neg) : ∃ j pos, op = (if neg then .IsNot else .Is) ∧ y = .Constant .none j pos := by
  unfold nonSh at h
  split at h
  · injection h with h; subst h; exact ⟨_, _, rfl, rfl⟩
  · injection h with h; subst h; exact ⟨_, _, rfl, rfl⟩
  · cases h
theorem bltSh_ok {sx : Sx} {f : Str} {e : Expr} {xs : List Expr} (h : bltSh sx sc f e = some xs) : ∃ p pos, e = .Call (.Name f p) xs [] pos ∧ bltB sx sc f = true := by
  unfold bltSh at h
  split at h
  · split at h
    · rename_i z
      injection h with h
      subst h
      obtain ⟨rfl, z⟩ := z
      exact ⟨_, _, rfl, z⟩
    · cases h
  · cases h
theorem yesT : PTs X [] (tT c G C W .yes) := by
  refine ⟨fun pins s0 σ H Q I ⟨Fr, F, ρ, ts, us, L, s, hl, k⟩ => pts_nil.run pins s0 σ H Q I ?_⟩
  simp only [tsE] at k
  exact k H F L trivial .refl s
theorem ts_o1 {o : Op1} {a : E} : asTst (.o1 o a) := fun C ρ => by first | (simp only [tsE]; done) | (simp only [tsE]; rfl)
theorem ts_o2 {o : Op2} {a b : E} : asTst (.o2 o a b) := fun C ρ => by first | (simp only [tsE]; done) | (simp only [tsE]; rfl)
theorem ts_k2 {o : Op2} {a : E} {b : P} : asTst (.k2 o a b) := fun C ρ => by first | (simp only [tsE]; done) | (simp only [tsE]; rfl)
theorem ts_call {f : Fk} {es : E} {df : List D} : asTst (.call f es df) := fun C ρ => by first | (simp only [tsE]; done) | (simp only [tsE]; rfl)
theorem ts_meth {m : Str} {ks : List Str} {a es : E} {df : List D} : asTst (.meth m ks a es df) := fun C ρ => by first | (simp only [tsE]; done) | (simp only [tsE]; rfl)
theorem cmpSh_ok (g : Gy c sy X sc N C W) {q : P} {x y : Expr} {op : CmpOp} {pos : Pos} (h : cmpSh sy.toSx sc N q x op y = true) : PT X (.Compare x [op] [y] pos) (tT c G C W (.p q)) := by
  unfold cmpSh at h
  split at h
  · simp only [Bool.and_eq_true, decide_eq_true_eq] at h
    exact s_pcT g h.1.1.1 h.1.1.2 h.1.2 h.2
  · split at h
    · rename_i neg hn
      simp only [Bool.and_eq_true, decide_eq_true_eq] at h
      obtain ⟨rfl, h⟩ := h
      obtain ⟨j, pos, rfl, rfl⟩ := nonSh_ok hn
      exact s_pnT g h
    · cases h
  · cases h
theorem nil_of (h : chkEs sy N sc wc (es : E) [] = true) : es = .nil := by
  cases es <;> first | rfl | (simp only [chkEs] at h; first | rfl | cases h)
def isBO : Expr → Bool
  | .BoolOp _ _ _ => true
  | _ => false
theorem plainBO {e : Expr} (h : plainTest e = true) (z : isBO e = true) : False := by
  cases e <;> first | (cases z; done) | (cases h; done)
mutual
theorem okE : ∀ (a : E) {X : Cx} {sc : Scope} {wc : List Str} {W : WX} {e : Expr} (g : Gz c sy X sc N wc C W) (h : chkE sy N sc wc a e = true), PE X e (tE c G C W a)
  | .p q, _, _, _, _, _, g, h => by
    simp only [chkE] at h
    exact s_p g.toGy h
  | .fz i, _, _, _, _, _, g, h => by
    simp only [chkE] at h
    split at h
    · exact s_fz g.toGy h
    · cases h
  | .mv i, _, _, _, _, _, g, h => by
    simp only [chkE] at h
    split at h
    · exact s_mv g.toGy h
    · cases h
  | .bor i, _, _, _, _, _, g, h => by
    simp only [chkE] at h; cases h
  | .frE a, _, _, _, _, _, g, h => by
    simp only [chkE] at h
    exact s_frE (okE a g h)
  | .o1 o a, _, _, _, _, _, g, h => by
    simp only [chkE] at h
    split at h
    · rename_i hs; exact s_o1 g.toGy hs (okE a g h)
    · cases h
  | .o2 o a b, _, _, _, _, _, g, h => by
    simp only [chkE] at h
    split at h
    · rename_i hs
      simp only [Bool.and_eq_true] at h
      exact s_o2 g.toGy hs (okE a g h.1.2) (okE b g h.2) (joinOk_ok h.1.1)
    · cases h
  | .o3 o a b d, _, _, _, _, _, g, h => by
    simp only [chkE] at h
    split at h
    · rename_i hs
      simp only [Bool.and_eq_true] at h
      exact s_o3 g.toGy hs (okE a g h.1.1) h.1.2 h.2
    · cases h
  | .k2 o a b, _, _, _, _, _, g, h => by
    simp only [chkE] at h
    split at h
    · rename_i hs
      simp only [Bool.and_eq_true, decide_eq_true_eq] at h
      exact s_k2 g.toGy hs h.1.1 (okE a g h.1.2) h.2
    · cases h
  | .chain o o' a b d, _, _, _, _, _, g, h => by
    simp only [chkE] at h
    split at h
    · simp only [Bool.and_eq_true, decide_eq_true_eq] at h
      obtain ⟨⟨⟨⟨⟨h1, h2⟩, h3⟩, h4⟩, h5⟩, h6⟩ := h
      exact s_chain g.toGy h1 h2 h3 h4 h5 h6
    · cases h
  | .tup es, _, _, _, _, _, g, h => by
    simp only [chkE] at h
    split at h
    · exact s_tup (okEs es g h)
    · cases h
  | .lst es, _, _, _, _, _, g, h => by
    simp only [chkE] at h
    split at h
    · exact s_lst (okEs es g h)
    · cases h
  | .and a b, _, _, _, _, _, g, h => by
    simp only [chkE] at h
    split at h
    · rename_i x y r pos
      rw [Bool.and_eq_true] at h
      refine s_and (okE a g h.1) ?_
      have h2 := h.2
      split at h2
      · rename_i hr
        have hr : r = [] := by simpa using hr
        subst hr
        exact s_and1 (okE b g h2)
      · exact okE b g h2
    · cases h
  | .or a b, _, _, _, _, _, g, h => by
    simp only [chkE] at h
    split at h
    · rename_i x y r pos
      rw [Bool.and_eq_true] at h
      refine s_or (okE a g h.1) ?_
      have h2 := h.2
      split at h2
      · rename_i hr
        have hr : r = [] := by simpa using hr
        subst hr
        exact s_and1 (okE b g h2)
      · exact okE b g h2
    · cases h
  | .not a, _, _, _, _, _, g, h => by
    simp only [chkE] at h
    split at h
    · exact s_not (okE a g h)
    · cases h
  | .ife t a b, _, _, _, _, _, g, h => by
    simp only [chkE] at h
    split at h
    · simp only [Bool.and_eq_true] at h
      exact s_ife (okB t g h.1.1).1 (okE a g h.1.2) (okE b g h.2)
    · cases h
  | .call f es df, _, _, _, _, _, g, h => by
    simp only [chkE] at h
    split at h
    · rename_i xs hs
      unfold callSh at hs
      split at hs
      · split at hs
        · rename_i z
          injection hs with hs
          subst hs
          obtain ⟨rfl, h1, h2, h3, h4⟩ := z
          exact s_call g.toGy h1 h2 h3 h4 (okEs es g h) fun e => by subst e; exact nil_of h
        · cases hs
      · cases hs
    · cases h
  | .new k es df, _, _, _, _, _, g, h => by
    simp only [chkE] at h
    split at h
    · rename_i xs hs
      unfold newSh at hs
      split at hs
      · split at hs
        · rename_i z
          injection hs with hs
          subst hs
          obtain ⟨rfl, h1, h2, h3, h4, h5⟩ := z
          exact s_new g.toGy h1 h2 h3 h4 h5 (okEs es g h) fun e => by subst e; exact nil_of h
        · cases hs
      · cases hs
    · cases h
  | .meth m ks a es df, _, _, _, _, _, g, h => by
    simp only [chkE] at h
    split at h
    · rename_i o xs hs
      unfold methSh at hs
      split at hs
      · split at hs
        · rename_i z
          injection hs with hs
          injection hs with hs1 hs2
          subst hs1 hs2
          obtain ⟨rfl, h1, h2, h3, h4, h5⟩ := z
          rw [Bool.and_eq_true] at h
          have hh := h.2
          split at hh
          · rename_i hb
            obtain ⟨rfl, p, rfl⟩ := borSh_ok hb
            exact s_methB g.toGy h1 h3 h4 h5 hh (okEs es g h.1) fun e => by subst e; exact nil_of h.1
          · rw [Bool.and_eq_true] at hh
            exact s_meth g.toGy h1 h2 h3 h4 h5 (okE a g hh.2) (notBor_ok hh.1).2 (okEs es g h.1) fun e => by subst e; exact nil_of h.1
        · cases hs
      · cases hs
    · cases h
  | .lc gT it cond elt, _, _, _, _, _, g, h => by
    simp only [chkE] at h
    split at h
    · simp only [Bool.and_eq_true] at h
      obtain ⟨⟨⟨⟨⟨h1, h2⟩, h3⟩, h4⟩, h5⟩, h6⟩ := h
      refine (s_lc (G := G) (cond := cond) (elt := elt) g h1 (by rw [List.map_map]; exact List.map_id _) (okI it g h2) h3 (fun X' g' => ?_) (fun X' g' => okE elt g' h5) (fun x => noSetI_ok h4 x)).weaken fun σ H Q hh => lc_core' hh
      split at h6
      · have := isYes_ok h6
        subst this
        exact yesT
      · exact pts_one (okB cond g' h6).1
      · cases h6
    · cases h
  | .nil, _, _, _, _, _, g, h => by simp only [chkE] at h; cases h
  | .cons _ _, _, _, _, _, _, g, h => by simp only [chkE] at h; cases h
  | .iv _, _, _, _, _, _, g, h => by simp only [chkE] at h; cases h
  | .ip _, _, _, _, _, _, g, h => by simp only [chkE] at h; cases h
  | .rng1 _, _, _, _, _, _, g, h => by simp only [chkE] at h; cases h
  | .rng2 _ _, _, _, _, _, _, g, h => by simp only [chkE] at h; cases h
  | .zip _ _, _, _, _, _, _, g, h => by simp only [chkE] at h; cases h
  | .enum _, _, _, _, _, _, g, h => by simp only [chkE] at h; cases h
  | .yes, _, _, _, _, _, g, h => by simp only [chkE] at h; cases h
  | .sortIt a, _, _, _, _, _, g, h => by
    simp only [chkE] at h
    split at h
    · simp only [Bool.and_eq_true, decide_eq_true_eq] at h
      obtain ⟨⟨⟨⟨⟨rfl, rfl⟩, h3⟩, h4⟩, h5⟩, h6⟩ := h
      exact s_sortIt g.toGx h3 h4 h5 h6
    · cases h
  | .n1 o q, _, _, _, _, _, g, h => by
    simp only [chkE] at h
    split at h
    · rename_i e1 hs
      exact s_n1 g.toGy hs h
    · cases h
  | .vk _ _ _, _, _, _, _, _, g, h => by simp only [chkE] at h; cases h
  | .lenO ks a, _, _, _, _, _, g, h => by
    simp only [chkE] at h
    split at h
    · simp only [Bool.and_eq_true, decide_eq_true_eq] at h
      obtain ⟨⟨⟨⟨⟨rfl, h2⟩, h3⟩, h4⟩, h5⟩, h6⟩ := h
      exact s_lenO g.toGy h2 h3 h4 (notBor_ok h5).2 (okE a g h6)
    · cases h
  | .callP f i n, _, _, _, _, _, g, h => by
    simp only [chkE] at h
    split at h
    · simp only [Bool.and_eq_true, decide_eq_true_eq, Bool.not_eq_true'] at h
      obtain ⟨⟨⟨⟨⟨rfl, h2⟩, h3⟩, h4⟩, h5⟩, rfl⟩ := h
      exact s_callP g.toGy h2 h3 h4 h5
    · cases h
  | .dlit _, _, _, _, _, _, g, h => by
    simp only [chkE] at h
    split at h
    · exact s_dlit h
    · cases h
  | .dnew, _, _, _, _, _, g, h => by
    simp only [chkE] at h
    split at h
    · exact s_dnew
    · cases h
theorem okEs : ∀ (a : E) {X : Cx} {sc : Scope} {wc : List Str} {W : WX} {es : List Expr} (g : Gz c sy X sc N wc C W) (h : chkEs sy N sc wc a es = true), PA X es (tEs c G C W a)
  | .nil, _, _, _, _, es, g, h => by
    simp only [chkEs] at h
    cases es with
    | nil => exact s_nil
    | cons _ _ => cases h
  | .cons a b, _, _, _, _, es, g, h => by
    simp only [chkEs] at h
    split at h
    · cases h
    · rw [Bool.and_eq_true] at h
      have h1 := h.1
      split at h1
      · rename_i hb
        obtain ⟨rfl, p, rfl⟩ := borSh_ok hb
        exact s_consB g.toGy h1 (okEs b g h.2)
      · simp only [Bool.and_eq_true] at h1
        exact s_cons g.toGy (okE a g h1.2) h1.1.2 (okEs b g h.2) (notBor_ok h1.1.1).1
  | .p _, _, _, _, _, _, g, h => by simp only [chkEs] at h; cases h
  | .fz _, _, _, _, _, _, g, h => by simp only [chkEs] at h; cases h
  | .mv _, _, _, _, _, _, g, h => by simp only [chkEs] at h; cases h
  | .bor _, _, _, _, _, _, g, h => by simp only [chkEs] at h; cases h
  | .frE _, _, _, _, _, _, g, h => by simp only [chkEs] at h; cases h
  | .o1 _ _, _, _, _, _, _, g, h => by simp only [chkEs] at h; cases h
  | .o2 _ _ _, _, _, _, _, _, g, h => by simp only [chkEs] at h; cases h
  | .o3 _ _ _ _, _, _, _, _, _, g, h => by simp only [chkEs] at h; cases h
  | .k2 _ _ _, _, _, _, _, _, g, h => by simp only [chkEs] at h; cases h
  | .chain _ _ _ _ _, _, _, _, _, _, g, h => by simp only [chkEs] at h; cases h
  | .tup _, _, _, _, _, _, g, h => by simp only [chkEs] at h; cases h
  | .lst _, _, _, _, _, _, g, h => by simp only [chkEs] at h; cases h
  | .and _ _, _, _, _, _, _, g, h => by simp only [chkEs] at h; cases h
  | .or _ _, _, _, _, _, _, g, h => by simp only [chkEs] at h; cases h
  | .not _, _, _, _, _, _, g, h => by simp only [chkEs] at h; cases h
  | .ife _ _ _, _, _, _, _, _, g, h => by simp only [chkEs] at h; cases h
  | .call _ _ _, _, _, _, _, _, g, h => by simp only [chkEs] at h; cases h
  | .new _ _ _, _, _, _, _, _, g, h => by simp only [chkEs] at h; cases h
  | .meth _ _ _ _ _, _, _, _, _, _, g, h => by simp only [chkEs] at h; cases h
  | .lc _ _ _ _, _, _, _, _, _, g, h => by simp only [chkEs] at h; cases h
  | .iv _, _, _, _, _, _, g, h => by simp only [chkEs] at h; cases h
  | .ip _, _, _, _, _, _, g, h => by simp only [chkEs] at h; cases h
  | .rng1 _, _, _, _, _, _, g, h => by simp only [chkEs] at h; cases h
  | .rng2 _ _, _, _, _, _, _, g, h => by simp only [chkEs] at h; cases h
  | .zip _ _, _, _, _, _, _, g, h => by simp only [chkEs] at h; cases h
  | .enum _, _, _, _, _, _, g, h => by simp only [chkEs] at h; cases h
  | .yes, _, _, _, _, _, g, h => by simp only [chkEs] at h; cases h
  | .dnew, _, _, _, _, _, g, h => by simp only [chkEs] at h; cases h
  | .dlit _, _, _, _, _, _, g, h => by simp only [chkEs] at h; cases h
  | .sortIt _, _, _, _, _, _, g, h => by simp only [chkEs] at h; cases h
  | .n1 _ _, _, _, _, _, _, g, h => by simp only [chkEs] at h; cases h
  | .vk _ _ _, _, _, _, _, _, g, h => by simp only [chkEs] at h; cases h
  | .lenO _ _, _, _, _, _, _, g, h => by simp only [chkEs] at h; cases h
  | .callP _ _ _, _, _, _, _, _, g, h => by simp only [chkEs] at h; cases h
theorem okB : ∀ (a : E) {X : Cx} {sc : Scope} {wc : List Str} {W : WX} {e : Expr} (g : Gz c sy X sc N wc C W) (h : chkB sy N sc wc a e = true), PT X e (tT c G C W a) ∧ (isBO e = true → PW X e (tT c G C W a))
  | .and a b, _, _, _, _, _, g, h => by
    simp only [chkB] at h
    split at h
    · rename_i x y r pos
      rw [Bool.and_eq_true] at h
      have h2 := h.2
      have z := s_andT (G := G) (pos := pos) (r := r) (okB a g h.1).1 (by
        split at h2
        · rename_i hr
          have hr : r = [] := by simpa using hr
          subst hr
          exact s_one (okB b g h2).1
        · exact (okB b g h2).2 rfl)
      exact ⟨z.pt, fun _ => z⟩
    · cases h
  | .or a b, _, _, _, _, _, g, h => by
    simp only [chkB] at h
    split at h
    · rename_i x y r pos
      rw [Bool.and_eq_true] at h
      have h2 := h.2
      have z := s_orT (G := G) (pos := pos) (r := r) (okB a g h.1).1 (by
        split at h2
        · rename_i hr
          have hr : r = [] := by simpa using hr
          subst hr
          exact s_one (okB b g h2).1
        · exact (okB b g h2).2 rfl)
      exact ⟨z.pt, fun _ => z⟩
    · cases h
  | .not a, _, _, _, _, _, g, h => by
    simp only [chkB] at h
    split at h
    · exact ⟨s_notT (okB a g h).1, fun z => by cases z⟩
    · cases h
  | .p q, _, _, _, _, _, g, h => by
    simp only [chkB] at h
    split at h
    · exact ⟨cmpSh_ok g.toGy h, fun z => by cases z⟩
    · rw [Bool.and_eq_true] at h
      exact ⟨s_pT g.toGy h.1 h.2, fun z => (plainBO h.1 z).elim⟩
  | .o1 o a, _, _, _, _, _, g, h => by
    simp only [chkB] at h
    split at h
    · split at h
      · rename_i neg hn
        rw [Bool.and_eq_true, decide_eq_true_eq] at h
        obtain ⟨rfl, h⟩ := h
        obtain ⟨j, pos, rfl, rfl⟩ := nonSh_ok hn
        exact ⟨s_nT g.toGy (okE a g h), fun z => by cases z⟩
      · cases h
    · rw [Bool.and_eq_true] at h
      have h2 := h.2
      split at h2
      · rename_i hs
        exact ⟨s_tst (s_o1 g.toGy hs (okE a g h2)) ts_o1 (pt_plain h.1), fun z => (plainBO h.1 z).elim⟩
      · cases h2
  | .o2 o a b, _, _, _, _, _, g, h => by
    simp only [chkB] at h
    split at h
    · simp only [Bool.and_eq_true, decide_eq_true_eq] at h
      exact ⟨s_cmpT g.toGy h.1.1.1 h.1.1.2 (okE a g h.1.2) (okE b g h.2), fun z => by cases z⟩
    · rw [Bool.and_eq_true] at h
      have h2 := h.2
      split at h2
      · rename_i hs
        simp only [Bool.and_eq_true] at h2
        exact ⟨s_tst (s_o2 g.toGy hs (okE a g h2.1.2) (okE b g h2.2) (joinOk_ok h2.1.1)) ts_o2 (pt_plain h.1), fun z => (plainBO h.1 z).elim⟩
      · cases h2
  | .k2 o a b, _, _, _, _, _, g, h => by
    simp only [chkB] at h
    split at h
    · simp only [Bool.and_eq_true, decide_eq_true_eq] at h
      exact ⟨s_k2T g.toGy h.1.1.1 h.1.1.2 (okE a g h.1.2) h.2, fun z => by cases z⟩
    · rw [Bool.and_eq_true] at h
      have h2 := h.2
      split at h2
      · rename_i hs
        simp only [Bool.and_eq_true, decide_eq_true_eq] at h2
        exact ⟨s_tst (s_k2 g.toGy hs h2.1.1 (okE a g h2.1.2) h2.2) ts_k2 (pt_plain h.1), fun z => (plainBO h.1 z).elim⟩
      · cases h2
  | .chain o o' a b d, _, _, _, _, _, g, h => by
    simp only [chkB] at h
    split at h
    · simp only [Bool.and_eq_true, decide_eq_true_eq] at h
      obtain ⟨⟨⟨⟨⟨h1, h2⟩, h3⟩, h4⟩, h5⟩, h6⟩ := h
      exact ⟨s_chainT g.toGy h1 h2 h3 h4 h5 h6, fun z => by cases z⟩
    · cases h
  | .call f es df, _, _, _, _, _, g, h => by
    simp only [chkB] at h
    rw [Bool.and_eq_true] at h
    have h2 := h.2
    split at h2
    · rename_i xs hs
      unfold callSh at hs
      split at hs
      · split at hs
        · rename_i z
          injection hs with hs
          subst hs
          obtain ⟨rfl, q1, q2, q3, q4⟩ := z
          exact ⟨s_tst (s_call g.toGy q1 q2 q3 q4 (okEs es g h2) fun e => by subst e; exact nil_of h2) ts_call (pt_plain h.1), fun z => (plainBO h.1 z).elim⟩
        · cases hs
      · cases hs
    · cases h2
  | .meth m ks a es df, _, _, _, _, _, g, h => by
    simp only [chkB] at h
    rw [Bool.and_eq_true] at h
    have h2 := h.2
    split at h2
    · rename_i o xs hs
      unfold methSh at hs
      split at hs
      · split at hs
        · rename_i z
          injection hs with hs
          injection hs with hs1 hs2
          subst hs1 hs2
          obtain ⟨rfl, q1, q2, q3, q4, q5⟩ := z
          rw [Bool.and_eq_true] at h2
          have hh := h2.2
          split at hh
          · rename_i hb
            obtain ⟨rfl, p, rfl⟩ := borSh_ok hb
            exact ⟨s_tst (s_methB g.toGy q1 q3 q4 q5 hh (okEs es g h2.1) fun e => by subst e; exact nil_of h2.1) ts_meth (pt_plain h.1), fun z => (plainBO h.1 z).elim⟩
          · rw [Bool.and_eq_true] at hh
            exact ⟨s_tst (s_meth g.toGy q1 q2 q3 q4 q5 (okE a g hh.2) (notBor_ok hh.1).2 (okEs es g h2.1) fun e => by subst e; exact nil_of h2.1) ts_meth (pt_plain h.1), fun z => (plainBO h.1 z).elim⟩
        · cases hs
      · cases hs
    · cases h2
  | .vk o i b, _, _, _, _, _, g, h => by
    simp only [chkB] at h
    split at h
    · simp only [Bool.and_eq_true, decide_eq_true_eq] at h
      exact ⟨s_vkT g.toGy h.1.1.1 h.1.1.2 h.1.2 (okE b g h.2), fun z => by cases z⟩
    · cases h
  | .fz _, _, _, _, _, _, g, h => by simp only [chkB] at h; cases h
  | .mv _, _, _, _, _, _, g, h => by simp only [chkB] at h; cases h
  | .bor _, _, _, _, _, _, g, h => by simp only [chkB] at h; cases h
  | .frE _, _, _, _, _, _, g, h => by simp only [chkB] at h; cases h
  | .o3 _ _ _ _, _, _, _, _, _, g, h => by simp only [chkB] at h; cases h
  | .tup _, _, _, _, _, _, g, h => by simp only [chkB] at h; cases h
  | .lst _, _, _, _, _, _, g, h => by simp only [chkB] at h; cases h
  | .ife _ _ _, _, _, _, _, _, g, h => by simp only [chkB] at h; cases h
  | .new _ _ _, _, _, _, _, _, g, h => by simp only [chkB] at h; cases h
  | .lc _ _ _ _, _, _, _, _, _, g, h => by simp only [chkB] at h; cases h
  | .nil, _, _, _, _, _, g, h => by simp only [chkB] at h; cases h
  | .cons _ _, _, _, _, _, _, g, h => by simp only [chkB] at h; cases h
  | .iv _, _, _, _, _, _, g, h => by simp only [chkB] at h; cases h
  | .ip _, _, _, _, _, _, g, h => by simp only [chkB] at h; cases h
  | .rng1 _, _, _, _, _, _, g, h => by simp only [chkB] at h; cases h
  | .rng2 _ _, _, _, _, _, _, g, h => by simp only [chkB] at h; cases h
  | .zip _ _, _, _, _, _, _, g, h => by simp only [chkB] at h; cases h
  | .enum _, _, _, _, _, _, g, h => by simp only [chkB] at h; cases h
  | .yes, _, _, _, _, _, g, h => by simp only [chkB] at h; cases h
  | .dnew, _, _, _, _, _, g, h => by simp only [chkB] at h; cases h
  | .dlit _, _, _, _, _, _, g, h => by simp only [chkB] at h; cases h
  | .sortIt _, _, _, _, _, _, g, h => by simp only [chkB] at h; cases h
  | .n1 _ _, _, _, _, _, _, g, h => by simp only [chkB] at h; cases h
  | .lenO _ _, _, _, _, _, _, g, h => by simp only [chkB] at h; cases h
  | .callP _ _ _, _, _, _, _, _, g, h => by simp only [chkB] at h; cases h
theorem okI : ∀ (a : E) {X : Cx} {sc : Scope} {wc : List Str} {W : WX} {tg e : Expr} (g : Gz c sy X sc N wc C W) (h : chkI sy N sc wc a tg e = true), PI X tg e (tIt c G C W a)
  | .iv a, _, _, _, _, _, _, g, h => by
    simp only [chkI] at h
    exact s_iv g.toGy (okE a g h)
  | .rng1 a, _, _, _, _, _, _, g, h => by
    simp only [chkI] at h
    split at h
    · rename_i hs
      obtain ⟨p, pos, rfl, hb⟩ := bltSh_ok hs
      simp only [Bool.and_eq_true] at h
      exact s_rng1 g.toGy hb h.1.1 (notBor_ok h.1.2).1 (okE a g h.2)
    · cases h
  | .rng2 a b, _, _, _, _, _, _, g, h => by
    simp only [chkI] at h
    split at h
    · rename_i hs
      obtain ⟨p, pos, rfl, hb⟩ := bltSh_ok hs
      simp only [Bool.and_eq_true] at h
      obtain ⟨⟨⟨⟨⟨h1, h2⟩, h3⟩, h4⟩, h5⟩, h6⟩ := h
      exact s_rng2 g.toGy hb h1 h2 (notBor_ok h3).1 (notBor_ok h4).1 (okE a g h5) (okE b g h6)
    · cases h
  | .zip a b, _, _, _, _, _, _, g, h => by
    simp only [chkI] at h
    rw [Bool.and_eq_true] at h
    obtain ⟨es, k, tp, rfl⟩ := isTup_ok h.1
    have hh := h.2
    split at hh
    · rename_i hs
      obtain ⟨p, pos, rfl, hb⟩ := bltSh_ok hs
      simp only [Bool.and_eq_true] at hh
      obtain ⟨⟨⟨⟨⟨h1, h2⟩, h3⟩, h4⟩, h5⟩, h6⟩ := hh
      exact s_zip g.toGy hb h1 h2 (notBor_ok h3).1 (notBor_ok h4).1 (okE a g h5) (okE b g h6)
    · cases hh
  | .enum a, _, _, _, _, _, _, g, h => by
    simp only [chkI] at h
    rw [Bool.and_eq_true] at h
    obtain ⟨es, k, tp, rfl⟩ := isTup_ok h.1
    have hh := h.2
    split at hh
    · rename_i hs
      obtain ⟨p, pos, rfl, hb⟩ := bltSh_ok hs
      simp only [Bool.and_eq_true] at hh
      exact s_enum g.toGy hb hh.1.1 (notBor_ok hh.1.2).1 (okE a g hh.2)
    · cases hh
  | .p _, _, _, _, _, _, _, g, h => by simp only [chkI] at h; cases h
  | .fz _, _, _, _, _, _, _, g, h => by simp only [chkI] at h; cases h
  | .mv _, _, _, _, _, _, _, g, h => by simp only [chkI] at h; cases h
  | .bor _, _, _, _, _, _, _, g, h => by simp only [chkI] at h; cases h
  | .frE _, _, _, _, _, _, _, g, h => by simp only [chkI] at h; cases h
  | .o1 _ _, _, _, _, _, _, _, g, h => by simp only [chkI] at h; cases h
  | .o2 _ _ _, _, _, _, _, _, _, g, h => by simp only [chkI] at h; cases h
  | .o3 _ _ _ _, _, _, _, _, _, _, g, h => by simp only [chkI] at h; cases h
  | .k2 _ _ _, _, _, _, _, _, _, g, h => by simp only [chkI] at h; cases h
  | .chain _ _ _ _ _, _, _, _, _, _, _, g, h => by simp only [chkI] at h; cases h
  | .tup _, _, _, _, _, _, _, g, h => by simp only [chkI] at h; cases h
  | .lst _, _, _, _, _, _, _, g, h => by simp only [chkI] at h; cases h
  | .and _ _, _, _, _, _, _, _, g, h => by simp only [chkI] at h; cases h
  | .or _ _, _, _, _, _, _, _, g, h => by simp only [chkI] at h; cases h
  | .not _, _, _, _, _, _, _, g, h => by simp only [chkI] at h; cases h
  | .ife _ _ _, _, _, _, _, _, _, g, h => by simp only [chkI] at h; cases h
  | .call _ _ _, _, _, _, _, _, _, g, h => by simp only [chkI] at h; cases h
  | .new _ _ _, _, _, _, _, _, _, g, h => by simp only [chkI] at h; cases h
  | .meth _ _ _ _ _, _, _, _, _, _, _, g, h => by simp only [chkI] at h; cases h
  | .lc _ _ _ _, _, _, _, _, _, _, g, h => by simp only [chkI] at h; cases h
  | .nil, _, _, _, _, _, _, g, h => by simp only [chkI] at h; cases h
  | .cons _ _, _, _, _, _, _, _, g, h => by simp only [chkI] at h; cases h
  | .ip _, _, _, _, _, _, _, g, h => by simp only [chkI] at h; cases h
  | .yes, _, _, _, _, _, _, g, h => by simp only [chkI] at h; cases h
  | .dnew, _, _, _, _, _, _, g, h => by simp only [chkI] at h; cases h
  | .dlit _, _, _, _, _, _, _, g, h => by simp only [chkI] at h; cases h
  | .sortIt _, _, _, _, _, _, _, g, h => by simp only [chkI] at h; cases h
  | .n1 _ _, _, _, _, _, _, _, g, h => by simp only [chkI] at h; cases h
  | .vk _ _ _, _, _, _, _, _, _, g, h => by simp only [chkI] at h; cases h
  | .lenO _ _, _, _, _, _, _, _, g, h => by simp only [chkI] at h; cases h
  | .callP _ _ _, _, _, _, _, _, _, g, h => by simp only [chkI] at h; cases h
end
end MP
/-! MP23: statements. -/
namespace MP
open PySem PySem.Spec PyProof.Rows L2
variable {c : Cv} {sy : Sy} {X : Cx} {sc : Scope} {N : List Str} {wc : List Str} {C : Ct} {W : WX} {G : Nat → Option Addr} {Fr F F' H H' : Hp} {kp : Nat → Bool}
structure Sd (kp : Nat → Bool) (ρ ρ' : Env1) (σ σ' : L2.St) (F F' : Hp) : Prop where
  l1 : ρ'.length = ρ.length
  l2 : σ'.length = σ.length
  le : Le F F'
  kp : ∀ i, kp i = true → σ'[i]? = σ[i]?
theorem Sd.refl {ρ : Env1} {σ : L2.St} {F : Hp} : Sd kp ρ ρ σ σ F F := ⟨rfl, rfl, .refl, fun _ _ => rfl⟩
theorem Sd.trans {ρ ρ1 ρ2 : Env1} {σ σ1 σ2 : L2.St} {F F1 F2 : Hp} (a : Sd kp ρ ρ1 σ σ1 F F1) (b : Sd kp ρ1 ρ2 σ1 σ2 F1 F2) : Sd kp ρ ρ2 σ σ2 F F2 := ⟨b.l1.trans a.l1, b.l2.trans a.l2, a.le.trans b.le, fun i h => (b.kp i h).trans (a.kp i h)⟩
theorem Sd.env {ρ ρ' : Env1} {σ : L2.St} {F F' : Hp} (h : ρ'.length = ρ.length) (l : Le F F') : Sd kp ρ ρ' σ σ F F' := ⟨h, rfl, l, fun _ _ => rfl⟩
def tSt (c : Cv) (G : Nat → Option Addr) (C : Ct) (W : WX) (kp : Nat → Bool) (s : S) : TS := fun D σ H => ∃ (Fr F : Hp) (ρ : Env1) (L : List Addr), SR c G Fr F H ρ σ L ∧
  match evS C kp s ρ with
  | .nx r => ∀ σ' H' F' L', Sd kp ρ r σ σ' F F' → SR c G Fr F' H' r σ' L' → D.nx σ' H'
  | .rt t r => ∀ v σ' H' F' L', Sd kp ρ r σ σ' F F' → SR c G Fr F' H' (r ++ [some t]) (σ' ++ [some v]) L' → D.rt v H'
  | .bk r => ∀ σ' H' F' L', Sd kp ρ r σ σ' F F' → SR c G Fr F' H' r σ' L' → D.bk σ' H'
  | .ct r => ∀ σ' H' F' L', Sd kp ρ r σ σ' F F' → SR c G Fr F' H' r σ' L' → D.ct σ' H'
  | .ex x r => ∀ cls d σ' H' F' L', Sd kp ρ r σ σ' F F' → ExR c F' H' x cls d → SR c G Fr F' H' r σ' L' → W cls d σ' H'
  | .no => False
theorem tE.top {e : E} {σ : L2.St} {Q : VK} {ρ : Env1} {L : List Addr} (s : SR c G Fr F H ρ σ L)
    (k : match evE C e ρ with
      | .ok t ρ' => ∀ v H' F' L', ρ'.length = ρ.length → Le F F' → SR c G Fr F' H' (ρ' ++ [some t]) (σ ++ [some v]) L' → Q v H'
      | .ex x ρ' => ∀ cls d H' F' L', ρ'.length = ρ.length → Le F F' → ExR c F' H' x cls d → SR c G Fr F' H' ρ' σ L' → W cls d σ H'
      | .no => False) : tE c G C W e σ H Q := by
  refine ⟨Fr, F, ρ, [], [], L, by simpa using s, s.len.symm, ?_⟩
  cases he : evE C e ρ with
  | no => rw [he] at k; exact k
  | ex x ρ' => rw [he] at k; exact k
  | ok t ρ' =>
    rw [he] at k
    exact fun v H' F' L' h1 le s' => k v H' F' L' h1 le (by simpa using s')
theorem tT.top {e : E} {σ : L2.St} {Q : Bool → Hp → Prop} {ρ : Env1} {L : List Addr} (s : SR c G Fr F H ρ σ L)
    (k : match tsE C e ρ with
      | .ok b ρ' => ∀ H' F' L', ρ'.length = ρ.length → Le F F' → SR c G Fr F' H' ρ' σ L' → Q b H'
      | .ex x ρ' => ∀ cls d H' F' L', ρ'.length = ρ.length → Le F F' → ExR c F' H' x cls d → SR c G Fr F' H' ρ' σ L' → W cls d σ H'
      | .no => False) : tT c G C W e σ H Q := by
  refine ⟨Fr, F, ρ, [], [], L, by simpa using s, s.len.symm, ?_⟩
  cases he : tsE C e ρ with
  | no => rw [he] at k; exact k
  | ex x ρ' => rw [he] at k; exact k
  | ok t ρ' =>
    rw [he] at k
    exact fun H' F' L' h1 le s' => k H' F' L' h1 le (by simpa using s')
/-- what is last is put into a slot -/
theorem SR.store {ρ : Env1} {σ : L2.St} {L : List Addr} {i : Nat} {o : Option T} {u : Option V} (s : SR c G Fr F H (ρ ++ [o]) (σ ++ [u]) L) (hi : i < ρ.length) : ∃ L', SR c G Fr F H (ρ.set i o) (σ.set i u) L' := by
  have hl : σ.length = ρ.length := by have := s.len; simpa using this
  obtain ⟨L1, s1, _⟩ := s.put (i := i) (o := none) (u := u) (by simp; omega) (.inl rfl)
  rw [set_app hi, set_app (by omega)] at s1
  obtain ⟨L2, s2, _⟩ := SR.moveTo (A := []) (ua := []) s1 (by simp; omega) (by rw [List.getElem?_set_self (by omega)])
  refine ⟨L2, ?_⟩
  simpa using s2
theorem s_skip : PSs X [] (tSt c G C W kp .skip) := by
  refine ⟨fun pins s σ H D I ⟨Fr, F, ρ, L, sr, k⟩ => pss_nil.run pins s σ H D I ?_⟩
  simp only [evS] at k
  exact k σ H F L .refl sr
theorem tSt.seq {a b : S} {D : Ends} {σ : L2.St} {H : Hp} (h : tSt c G C W kp (.seq a b) D σ H) : tSeq (tSt c G C W kp a) (tSt c G C W kp b) D σ H := by
  obtain ⟨Fr, F, ρ, L, sr, k⟩ := h
  refine ⟨Fr, F, ρ, L, sr, ?_⟩
  simp only [evS] at k
  cases he : evS C kp a ρ with
  | nx r =>
    rw [he] at k
    dsimp only at k ⊢
    intro σ' H' F' L' sd s'
    refine ⟨Fr, F', r, L', s', ?_⟩
    cases h2 : evS C kp b r with
    | nx r2 => rw [h2] at k; exact fun σ2 H2 F2 L2 sd2 s2 => k σ2 H2 F2 L2 (sd.trans sd2) s2
    | rt t r2 => rw [h2] at k; exact fun v σ2 H2 F2 L2 sd2 s2 => k v σ2 H2 F2 L2 (sd.trans sd2) s2
    | bk r2 => rw [h2] at k; exact fun σ2 H2 F2 L2 sd2 s2 => k σ2 H2 F2 L2 (sd.trans sd2) s2
    | ct r2 => rw [h2] at k; exact fun σ2 H2 F2 L2 sd2 s2 => k σ2 H2 F2 L2 (sd.trans sd2) s2
    | ex x r2 => rw [h2] at k; exact fun cls d σ2 H2 F2 L2 sd2 xr s2 => k cls d σ2 H2 F2 L2 (sd.trans sd2) xr s2
    | no => rw [h2] at k; exact k
  | rt t r => rw [he] at k; exact k
  | bk r => rw [he] at k; exact k
  | ct r => rw [he] at k; exact k
  | ex x r => rw [he] at k; exact k
  | no => rw [he] at k; exact k
theorem s_seq {a b : S} {st : Stmt} {rest : List Stmt} (ha : PS X st (tSt c G C W kp a)) (hb : PSs X rest (tSt c G C W kp b)) : PSs X (st :: rest) (tSt c G C W kp (.seq a b)) := (pss_cons ha hb).weaken fun D σ H h => tSt.seq h
/-- name = e, from what e asks -/
theorem set_core {i : Nat} {e : E} {te : TE} {D : Ends} {σ : L2.St} {H : Hp} (he : ∀ {Q : VK}, tE c G C W e σ H Q → te σ H Q) (h : tSt c G C W kp (.asg i e) D σ H) : tAsg te (gName i) D σ H := by
  obtain ⟨Fr, F, ρ, L, sr, k⟩ := h
  refine he (tE.top sr ?_)
  simp only [evS] at k
  cases h1 : evE C e ρ with
  | no => rw [h1] at k; exact k
  | ex x ρ' => rw [h1] at k; exact fun cls d H' F' L' h1 le xr s' => k cls d σ H' F' L' (.env h1 le) xr s'
  | ok t ρ' =>
    rw [h1] at k
    dsimp only at k ⊢
    intro v H' F' L' h2 le s'
    show D.nx (σ.set i (some v)) H'
    unfold putS at k
    cases hk : kp i with
    | true => rw [hk] at k; exact k.elim
    | false =>
      rw [hk, if_neg (by simp)] at k
      by_cases hi : i < ρ'.length
      · rw [if_pos hi] at k
        obtain ⟨L2, s2⟩ := s'.store hi
        refine k _ H' F' L2 ⟨by simp [h2], by simp, le, fun j hj => ?_⟩ s2
        rw [List.getElem?_set_ne fun q => by rw [q, hj] at hk; cases hk]
      · rw [if_neg hi] at k; exact k.elim
def noComp : Expr → Bool
  | .ListComp _ _ _ _ => false
  | .SetComp _ _ _ _ => false
  | .DictComp _ _ _ _ _ => false
  | _ => true
theorem noComp_sw {e : Expr} {t : Option Expr} {l : Nat} {env : PySem.Env} (h : noComp e = true) : swapsWith e t l env = pure false := by
  cases e <;> first | rfl | cases h
theorem locOk (g : Gz c sy X sc N wc C W) {x : Str} (h2 : locB sc wc x = true) : L2.Loc X.env.scope x ∧ (X.fn x = true ∨ X.env.scope.names.lookup x = some .local) := by
  rw [g.scp]
  unfold locB at h2
  unfold L2.Loc
  split at h2
  · rename_i e; exact ⟨.inl e, .inr e⟩
  · rename_i e; exact ⟨.inr e, .inl (g.wcs x (of_decide_eq_true h2))⟩
  · cases h2
theorem s_asg (g : Gz c sy X sc N wc C W) {i : Nat} {x : Str} {e : E} {ex : Expr} {p pos : Pos} (hN : N[i]? = some x) (hl : locB sc wc x = true) (hc : noComp ex = true) (he : chkE sy N sc wc e ex = true) : PS X (.Assign [.Name x p] ex pos) (tSt c G C W kp (.asg i e)) :=
  (ps_set (by rw [g.nn]; exact g.nd) (by rw [g.nn]; exact hN) (locOk g hl).1 (okE e g he) (noComp_sw hc) (locOk g hl).2).weaken fun D σ H h => set_core (fun h => h) h
/-- x = [..], x a plain local: the list is stored within the comprehension -/
def lcSw (sc : Scope) (y : Str) (py : Pos) : Expr → Bool
  | .ListComp _ _ scope pos => (match sc.kind with | .function => true | _ => false) && decide (sc.names.lookup y = some .local) && (py.line == pos.line) && !(scope.names.any fun (n, k) => n == y && (k == .local || k == .cell))
  | _ => false
def isLc : E → Bool
  | .lc _ _ _ _ => true
  | .frE (.lc _ _ _ _) => true
  | _ => false
theorem s_asgLc0 (g : Gz c sy X sc N wc C W) {i : Nat} {x : Str} {e e0 : E} {ex : Expr} {p pos : Pos} (core : ∀ {σ : L2.St} {H : Hp} {Q : VK}, tE c G C W e0 σ H Q → tE c G C W e σ H Q) (hlc : ∃ a b k d, e = .lc a b k d) (hN : N[i]? = some x) (hs : lcSw sc x p ex = true) (he : chkE sy N sc wc e ex = true) : PS X (.Assign [.Name x p] ex pos) (tSt c G C W kp (.asg i e0)) := by
  unfold lcSw at hs
  split at hs
  · rename_i el gs scope lpos
    simp only [Bool.and_eq_true, decide_eq_true_eq, Bool.not_eq_true'] at hs
    obtain ⟨⟨⟨h1, h2⟩, h3⟩, h4⟩ := hs
    have hk : X.env.scope.kind = .function := by
      rw [g.scp]
      split at h1
      · assumption
      · cases h1
    have hloc : X.env.scope.names.lookup x = some .local := by rw [g.scp]; exact h2
    obtain ⟨gT, it, cond, elt, rfl⟩ := hlc
    · simp only [chkE] at he
      split at he
      · rename_i el tg iter ifs scope' pos' heq
        injection heq with e1 e2 e3 e4
        subst e1 e2 e3 e4
        simp only [Bool.and_eq_true] at he
        obtain ⟨⟨⟨⟨⟨q1, q2⟩, q3⟩, q4⟩, q5⟩, q6⟩ := he
        have ho : (gT.slots.map fun i => (N.getD i "", i)).map (·.2) = gT.slots := by rw [List.map_map]; exact List.map_id _
        have z := ps_setLc (spos := pos) (i := i) (py := p) g.calm (by rw [g.nn]; exact g.nd) (by rw [g.nn]; exact hN) hloc (sw_true hk hloc h3 h4) (okI (G := G) it g q2) (by rw [g.nn, g.scp]; exact blkOk_by q1)
          (fun s H A cl fp => tg_ok (G := G) (kp := fun _ => false) g.blk q3) (fun s H A cl fp => show PTs _ ifs (tT c G C WF cond) from by
            split at q6
            · have := isYes_ok q6
              subst this
              exact yesT
            · exact pts_one (okB cond g.blk q6).1
            · cases q6) (fun s H A cl fp => okE (G := G) elt g.blk q5) (fun x => noSetI_ok q4 x)
        rw [ho] at z
        exact z.weaken fun D σ H h => set_core (fun h => lc_core' (core h)) h
      · cases he
  · cases hs
theorem s_asgLc (g : Gz c sy X sc N wc C W) {i : Nat} {x : Str} {e : E} {ex : Expr} {p pos : Pos} (hlc : isLc e = true) (hN : N[i]? = some x) (hs : lcSw sc x p ex = true) (he : chkE sy N sc wc e ex = true) : PS X (.Assign [.Name x p] ex pos) (tSt c G C W kp (.asg i e)) := by
  unfold isLc at hlc
  split at hlc
  · exact s_asgLc0 g (fun h => h) ⟨_, _, _, _, rfl⟩ hN hs he
  · simp only [chkE] at he
    exact s_asgLc0 g (fun h => frE_core h) ⟨_, _, _, _, rfl⟩ hN hs (by simpa only [chkE] using he)
  · cases hlc
end MP
/-! MP24: more statements. -/
namespace MP
open PySem PySem.Spec PyProof.Rows L2
variable {c : Cv} {sy : Sy} {X : Cx} {sc : Scope} {N : List Str} {wc : List Str} {C : Ct} {W : WX} {G : Nat → Option Addr} {Fr F F' H H' : Hp} {kp : Nat → Bool}
theorem s_pass {pos : Pos} : PS X (.Pass pos) (tSt c G C W kp .skip) := ps_pass.weaken fun D σ H ⟨Fr, F, ρ, L, sr, k⟩ => by
  simp only [evS] at k
  exact k σ H F L .refl sr
theorem s_doc {x : Str} {j pos pos'} : PS X (.Expr (.Constant (.str x) j pos) pos') (tSt c G C W kp .skip) := ps_doc.weaken fun D σ H ⟨Fr, F, ρ, L, sr, k⟩ => by
  simp only [evS] at k
  exact k σ H F L .refl sr
theorem s_brk {pos : Pos} : PS X (.Break pos) (tSt c G C W kp .brk) := ps_break.weaken fun D σ H ⟨Fr, F, ρ, L, sr, k⟩ => by
  simp only [evS] at k
  exact k σ H F L .refl sr
theorem s_cnt {pos : Pos} : PS X (.Continue pos) (tSt c G C W kp .cnt) := ps_continue.weaken fun D σ H ⟨Fr, F, ρ, L, sr, k⟩ => by
  simp only [evS] at k
  exact k σ H F L .refl sr
theorem s_retN {pos : Pos} : PS X (.Return none pos) (tSt c G C W kp .retN) := ps_retN.weaken fun D σ H ⟨Fr, F, ρ, L, sr, k⟩ => by
  simp only [evS] at k
  exact k .non σ H F L .refl (sr.snocF (by simp only [R]))
theorem s_ret {e : E} {ex : Expr} {pos : Pos} (he : PE X ex (tE c G C W e)) : PS X (.Return (some ex) pos) (tSt c G C W kp (.ret e)) := (ps_ret he).weaken fun D σ H ⟨Fr, F, ρ, L, sr, k⟩ => by
  refine tE.top sr ?_
  simp only [evS] at k
  cases h1 : evE C e ρ with
  | no => rw [h1] at k; exact k
  | ex x ρ' => rw [h1] at k; exact fun cls d H' F' L' h1 le xr s' => k cls d σ H' F' L' (.env h1 le) xr s'
  | ok t ρ' => rw [h1] at k; exact fun v H' F' L' h2 le s' => k v σ H' F' L' (.env h2 le) s'
theorem s_ex {e : E} {ex : Expr} {pos : Pos} (hc : noComp ex = true) (he : PE X ex (tE c G C W e)) : PS X (.Expr ex pos) (tSt c G C W kp (.ex e)) := (ps_expr he (noComp_sw hc)).weaken fun D σ H ⟨Fr, F, ρ, L, sr, k⟩ => by
  refine tE.top sr ?_
  simp only [evS] at k
  cases h1 : evE C e ρ with
  | no => rw [h1] at k; exact k
  | ex x ρ' => rw [h1] at k; exact fun cls d H' F' L' h1 le xr s' => k cls d σ H' F' L' (.env h1 le) xr s'
  | ok t ρ' =>
    rw [h1] at k
    intro v H' F' L' h2 le s'
    obtain ⟨L2, s2, _⟩ := s'.cut (by have := s'.len; simpa using this)
    exact k σ H' F' L2 (.env h2 le) s2
theorem s_ite {t : E} {a b : S} {ex : Expr} {xs ys : List Stmt} {pos : Pos} (ht : PT X ex (tT c G C W t)) (ha : PSs X xs (tSt c G C W kp a)) (hb : PSs X ys (tSt c G C W kp b)) : PS X (.If ex xs ys pos) (tSt c G C W kp (.ite t a b)) := (ps_if ht ha hb).weaken fun D σ H ⟨Fr, F, ρ, L, sr, k⟩ => by
  refine tT.top sr ?_
  simp only [evS] at k
  cases h1 : tsE C t ρ with
  | no => rw [h1] at k; exact k
  | ex x ρ' => rw [h1] at k; exact fun cls d H' F' L' h1 le xr s' => k cls d σ H' F' L' (.env h1 le) xr s'
  | ok q ρ' =>
    rw [h1] at k
    intro H' F' L' h2 le s'
    have go : ∀ (z : S), (match evS C kp z ρ' with
        | .nx r => ∀ σ' H' F' L', Sd kp ρ r σ σ' F F' → SR c G Fr F' H' r σ' L' → D.nx σ' H'
        | .rt t r => ∀ v σ' H' F' L', Sd kp ρ r σ σ' F F' → SR c G Fr F' H' (r ++ [some t]) (σ' ++ [some v]) L' → D.rt v H'
        | .bk r => ∀ σ' H' F' L', Sd kp ρ r σ σ' F F' → SR c G Fr F' H' r σ' L' → D.bk σ' H'
        | .ct r => ∀ σ' H' F' L', Sd kp ρ r σ σ' F F' → SR c G Fr F' H' r σ' L' → D.ct σ' H'
        | .ex x r => ∀ cls d σ' H' F' L', Sd kp ρ r σ σ' F F' → ExR c F' H' x cls d → SR c G Fr F' H' r σ' L' → W cls d σ' H'
        | .no => False) → tSt c G C W kp z D σ H' := fun z kk => by
      refine ⟨Fr, F', ρ', L', s', ?_⟩
      have sd : Sd kp ρ ρ' σ σ F F' := .env h2 le
      cases h3 : evS C kp z ρ' with
      | nx r2 => rw [h3] at kk; exact fun σ2 H2 F2 L2 sd2 s2 => kk σ2 H2 F2 L2 (sd.trans sd2) s2
      | rt t r2 => rw [h3] at kk; exact fun v σ2 H2 F2 L2 sd2 s2 => kk v σ2 H2 F2 L2 (sd.trans sd2) s2
      | bk r2 => rw [h3] at kk; exact fun σ2 H2 F2 L2 sd2 s2 => kk σ2 H2 F2 L2 (sd.trans sd2) s2
      | ct r2 => rw [h3] at kk; exact fun σ2 H2 F2 L2 sd2 s2 => kk σ2 H2 F2 L2 (sd.trans sd2) s2
      | ex x r2 => rw [h3] at kk; exact fun cls d σ2 H2 F2 L2 sd2 xr s2 => kk cls d σ2 H2 F2 L2 (sd.trans sd2) xr s2
      | no => rw [h3] at kk; exact kk
    cases q with
    | true => rw [if_pos rfl]; exact go a k
    | false => rw [if_neg (by simp)]; exact go b k
/-- a, b = .. that is no tuple -/
def noPar : Expr → Expr → Bool
  | .Tuple _ _ _, .Tuple _ _ _ => false
  | .List _ _, .Tuple _ _ _ => false
  | _, _ => true
theorem noPar_ok {t e : Expr} {env : PySem.Env} (h : noPar t e = true) : swappedStores [t] e env = pure none := by
  cases t <;> first | rfl | (cases e <;> first | rfl | cases h)
theorem s_unp (g : Gz c sy X sc N wc C W) {t : Tg} {e : E} {tg ex : Expr} {pos : Pos} (ht : isTup tg = true) (hp : swappedStores [tg] ex X.env = pure none) (hc : noComp ex = true) (hg : chkT sc N wc t tg = true) (he : PE X ex (tE c G C W e)) : PS X (.Assign [tg] ex pos) (tSt c G C W kp (.unp t e)) :=
  (ps_asg he (tg_ok (G := G) (kp := kp) g hg) (noComp_sw hc) hp (by obtain ⟨a, b, d, rfl⟩ := isTup_ok ht; rfl)).weaken fun D σ H ⟨Fr, F, ρ, L, sr, k⟩ => by
  refine tE.top sr ?_
  simp only [evS] at k
  cases h1 : evE C e ρ with
  | no => rw [h1] at k; exact k
  | ex x ρ' => rw [h1] at k; exact fun cls d H' F' L' h1 le xr s' => k cls d σ H' F' L' (.env h1 le) xr s'
  | ok t1 ρ' =>
    rw [h1] at k
    dsimp only at k ⊢
    intro v H' F' L' h2 le s'
    have hl : σ.length = ρ'.length := by have := s'.len; simpa using this
    cases hf : frz t1 with
    | none => rw [hf] at k; exact k.elim
    | some d =>
      rw [hf] at k
      dsimp only at k
      cases hb : bindT kp t d ρ' with
      | none => rw [hb] at k; exact k.elim
      | some r2 =>
        rw [hb] at k
        obtain ⟨F2, L2, le2, rd, s2⟩ := s'.frzLast hl hf
        obtain ⟨L3, s3, _⟩ := s2.cut hl
        refine ⟨Fr, F2, ρ', [], [], L3, d, r2, by simpa using s3, hl.symm, rd, hb, fun σ' L4 e1 e2 e3 s4 => ?_⟩
        exact k σ' H' F2 L4 ⟨by omega, e2, le.trans le2, fun i hi => e3 i (.inl hi)⟩ (by simpa using s4)
/-- x, y = a, b -/
def parOk (sc : Scope) (x y : Str) (px py : Pos) (a b : Expr) : Bool :=
  (match sc.kind with | .function => true | _ => false) && decide (sc.names.lookup x = some .local) && decide (sc.names.lookup y = some .local) && (py.line == px.line) && decide (x ≠ y) && noStar a && noStar b &&
    !(foldedForSure 8 a && foldedForSure 8 b) && !(constantsAlone 8 a && constantsAlone 8 b)
theorem noStar_any {a : Expr} (h : noStar a = true) : (match a with | .Starred .. => true | _ => false) = false := by
  cases a <;> first | rfl | cases h
theorem par_sw {x y : Str} {px py pt pt2 : Pos} {kt k2} {a b : Expr} {env : PySem.Env} (he : env.scope = sc) (h : parOk sc x y px py a b = true) :
    swappedStores [.Tuple [.Name x px, .Name y py] kt pt] (.Tuple [a, b] k2 pt2) env = pure (some [x, y]) := by
  subst he
  unfold parOk at h
  simp only [Bool.and_eq_true, decide_eq_true_eq, Bool.not_eq_true'] at h
  obtain ⟨⟨⟨⟨⟨⟨⟨⟨h1, h2⟩, h3⟩, h4⟩, h5⟩, h6⟩, h7⟩, h8⟩, h9⟩ := h
  have hk : env.scope.kind = .function := by
    split at h1
    · assumption
    · cases h1
  have hb : env.blockKind = .function := by unfold Env.blockKind; rw [hk]; rfl
  have kx : env.kindOf x = some .local := h2
  have ky : env.kindOf y = some .local := h3
  have hpx : (Expr.Name x px).pos = px := rfl
  have hnd : ([x, y] : List Str).eraseDups.length = 2 := by
    have : ([x, y] : List Str).eraseDups = [x, y] := by
      rw [List.eraseDups_cons]
      have : ([y] : List Str).filter (fun b => !b == x) = [y] := by
        have e : (y == x) = false := by simpa using fun q => h5 q.symm
        simp [e]
      rw [this]
      rfl
    rw [this]; rfl
  unfold swappedStores
  simp only [List.length_cons, List.length_nil, hb, List.any_cons, List.any_nil, noStar_any h6, noStar_any h7, List.head?_cons, Option.map_some, hpx, Option.getD_some, List.filterMap_cons, List.filterMap_nil, kx, ky, h4, List.all_cons, List.all_nil, Bool.and_true, h8, h9, hnd]
  simp
  rw [if_neg, if_pos hnd]
  rintro (q | q)
  · cases a <;> first | (cases q; done) | (cases h6; done)
  · cases b <;> first | (cases q; done) | (cases h7; done)
theorem s_par2 (g : Gz c sy X sc N wc C W) {i j : Nat} {x y : Str} {a b : E} {ea eb : Expr} {px py pt pt2 pos : Pos} {kt k2} (hi : N[i]? = some x) (hj : N[j]? = some y) (h : parOk sc x y px py ea eb = true) (na : notBor a = true) (nb : notBor b = true)
    (ha : PE X ea (tE c G C W a)) (hb : PE X eb (tE c G C W b)) : PS X (.Assign [.Tuple [.Name x px, .Name y py] kt pt] (.Tuple [ea, eb] k2 pt2) pos) (tSt c G C W kp (.par2 i j a b)) := by
  have hh := h
  unfold parOk at hh
  simp only [Bool.and_eq_true, decide_eq_true_eq, Bool.not_eq_true'] at hh
  obtain ⟨⟨⟨⟨⟨⟨⟨⟨h1, h2⟩, h3⟩, h4⟩, h5⟩, h6⟩, h7⟩, h8⟩, h9⟩ := hh
  have hij : i ≠ j := fun e => by subst e; rw [hi] at hj; injection hj with hj; exact h5 hj
  refine (ps_par (i := i) (j := j) (pos := pos) g.calm (by rw [g.nn]; exact g.nd) (by rw [g.nn]; exact hi) (by rw [g.nn]; exact hj) hij (by rw [g.scp]; exact h2) (by rw [g.scp]; exact h3) (s_cons g.toGy ha h6 (s_cons g.toGy hb h7 s_nil (notBor_ok nb).1) (notBor_ok na).1) (par_sw g.scp h) rfl).weaken fun D σ H ⟨Fr, F, ρ, L, sr, k⟩ => ?_
  refine ⟨Fr, F, ρ, [], [], L, by simpa using sr, sr.len.symm, ?_⟩
  simp only [evS] at k
  simp only [evEs, (notBor_ok na).2, (notBor_ok nb).2]
  cases q1 : evE C a ρ with
  | no => rw [q1] at k; exact k
  | ex x ρ' => rw [q1] at k; exact fun cls d H' F' L' h1 le xr s' => k cls d σ H' F' L' (.env h1 le) xr s'
  | ok s1 ρ1 =>
    rw [q1] at k
    dsimp only at k ⊢
    cases q2 : evE C b ρ1 with
    | no => rw [q2] at k; exact k
    | ex x ρ' => rw [q2] at k; exact fun cls d H' F' L' h1 le xr s' => k cls d σ H' F' L' (.env h1 le) xr s'
    | ok t1 ρ2 =>
      rw [q2] at k
      dsimp only at k ⊢
      intro vs H' F' L' e1 le bo lv s'
      obtain ⟨v, w, rfl⟩ : ∃ v w, vs = [v, w] := by
        match vs, lv with
        | [v, w], _ => exact ⟨v, w, rfl⟩
      refine ⟨v, w, rfl, ?_⟩
      have s2 : SR c G Fr F' H' ((ρ2 ++ [some s1]) ++ [some t1]) ((σ ++ [some v]) ++ [some w]) L' := by simpa using s'
      have hl : σ.length = ρ2.length := by have := s2.len; simpa using this
      unfold putS at k
      cases k1 : kp i with
      | true => rw [k1] at k; exact k.elim
      | false =>
        rw [k1, if_neg (by simp)] at k
        by_cases hi2 : i < ρ2.length
        · rw [if_pos hi2] at k
          dsimp only at k
          cases k2 : kp j with
          | true => rw [k2] at k; exact k.elim
          | false =>
            rw [k2, if_neg (by simp)] at k
            by_cases hj2 : j < (ρ2.set i (some s1)).length
            · rw [if_pos hj2] at k
              have hj3 : j < ρ2.length := by simpa using hj2
              obtain ⟨L3, s3⟩ := s2.store (i := j) (by simp; omega)
              rw [set_app hj3, set_app (by omega)] at s3
              obtain ⟨L4, s4⟩ := s3.store (i := i) (by simpa using hi2)
              rw [List.set_comm _ _ (Ne.symm hij), List.set_comm _ _ (Ne.symm hij)] at s4
              refine k _ H' F' L4 ⟨by simp [e1], by simp, le, fun l hl => ?_⟩ s4
              rw [List.getElem?_set_ne (fun q => by rw [q, hl] at k2; cases k2), List.getElem?_set_ne (fun q => by rw [q, hl] at k1; cases k1)]
            · rw [if_neg hj2] at k; exact k.elim
        · rw [if_neg hi2] at k; exact k.elim
end MP
/-! MP25: loops, changes of owned things. -/
namespace MP
open PySem PySem.Spec PyProof.Rows L2
variable {c : Cv} {sy : Sy} {X : Cx} {sc : Scope} {N : List Str} {wc : List Str} {C : Ct} {W : WX} {G : Nat → Option Addr} {Fr F F' H H' : Hp} {kp : Nat → Bool}
structure Gs (c : Cv) (sy : Sy) (X : Cx) (sc : Scope) (N : List Str) (wc : List Str) (C : Ct) (W : WX) extends Gz c sy X sc N wc C W where
  po : PassesOwn (model X.prog X.w) X.A X.env X.xe
  stk : X.stack = X.env :: X.outer
  frm : X.env.frame = some X.env.locals
/-- what a flow asks -/
def Out (c : Cv) (G : Nat → Option Addr) (W : WX) (kp : Nat → Bool) (Fr F : Hp) (ρ : Env1) (σ : L2.St) (D : Ends) : Fl → Prop
  | .nx r => ∀ σ' H' F' L', Sd kp ρ r σ σ' F F' → SR c G Fr F' H' r σ' L' → D.nx σ' H'
  | .rt t r => ∀ v σ' H' F' L', Sd kp ρ r σ σ' F F' → SR c G Fr F' H' (r ++ [some t]) (σ' ++ [some v]) L' → D.rt v H'
  | .bk r => ∀ σ' H' F' L', Sd kp ρ r σ σ' F F' → SR c G Fr F' H' r σ' L' → D.bk σ' H'
  | .ct r => ∀ σ' H' F' L', Sd kp ρ r σ σ' F F' → SR c G Fr F' H' r σ' L' → D.ct σ' H'
  | .ex x r => ∀ cls d σ' H' F' L', Sd kp ρ r σ σ' F F' → ExR c F' H' x cls d → SR c G Fr F' H' r σ' L' → W cls d σ' H'
  | .no => False
theorem tSt_iff {s : S} {D : Ends} {σ : L2.St} {H : Hp} : tSt c G C W kp s D σ H ↔ ∃ (Fr F : Hp) (ρ : Env1) (L : List Addr), SR c G Fr F H ρ σ L ∧ Out c G W kp Fr F ρ σ D (evS C kp s ρ) := by
  constructor
  · rintro ⟨Fr, F, ρ, L, sr, k⟩
    refine ⟨Fr, F, ρ, L, sr, ?_⟩
    cases h : evS C kp s ρ <;> rw [h] at k <;> exact k
  · rintro ⟨Fr, F, ρ, L, sr, k⟩
    refine ⟨Fr, F, ρ, L, sr, ?_⟩
    cases h : evS C kp s ρ <;> rw [h] at k <;> exact k
theorem Out.trans {ρ r : Env1} {σ σ' : L2.St} {D : Ends} {f : Fl} (sd : Sd kp ρ r σ σ' F F') (k : Out c G W kp Fr F ρ σ D f) : Out c G W kp Fr F' r σ' D f := by
  cases f with
  | nx r2 => exact fun σ2 H2 F2 L2 sd2 s2 => k σ2 H2 F2 L2 (sd.trans sd2) s2
  | rt t r2 => exact fun v σ2 H2 F2 L2 sd2 s2 => k v σ2 H2 F2 L2 (sd.trans sd2) s2
  | bk r2 => exact fun σ2 H2 F2 L2 sd2 s2 => k σ2 H2 F2 L2 (sd.trans sd2) s2
  | ct r2 => exact fun σ2 H2 F2 L2 sd2 s2 => k σ2 H2 F2 L2 (sd.trans sd2) s2
  | ex x r2 => exact fun cls d σ2 H2 F2 L2 sd2 xr s2 => k cls d σ2 H2 F2 L2 (sd.trans sd2) xr s2
  | no => exact k
theorem s_for (g : Gs c sy X sc N wc C W) {t : Tg} {it : E} {b : S} {tg iter : Expr} {body : List Stmt} {pos : Pos} (hg : chkT sc N wc t tg = true) (hi : PI X tg iter (tIt c G C W it)) (hb : PSs X body (tSt c G C W kp b)) (hs : noSetI iter = true) :
    PS X (.For tg iter body [] pos) (tSt c G C W kp (.for t it b)) := (ps_for g.po g.calm hi (tg_ok (G := G) (kp := kp) g.toGz hg) hb (fun x => noSetI_ok hs x)).weaken fun D σ H h => by
  obtain ⟨Fr, F, ρ, L, sr, k⟩ := tSt_iff.mp h
  refine ⟨Fr, F, ρ, [], [], L, by simpa using sr, sr.len.symm, ?_⟩
  simp only [evS] at k
  cases h1 : evI C it ρ with
  | no => rw [h1] at k; exact k
  | ex x ρ' => rw [h1] at k; exact fun cls d H' F' L' h1 le xr s' => k cls d σ H' F' L' (.env h1 le) xr s'
  | ok ds ρ' =>
    rw [h1] at k
    dsimp only at k ⊢
    intro J H1 F1 L1 e1 le1 s1 wk
    have s1 : SR c G Fr F1 H1 ρ' σ L1 := by simpa using s1
    refine ⟨fun i m σ' H => m = ds.length - i ∧ i ≤ ds.length ∧ ∃ (F' : Hp) (r : Env1) (L : List Addr), Le F1 F' ∧ Sd kp ρ r σ σ' F F' ∧ SR c G Fr F' H r σ' L ∧ Out c G W kp Fr F ρ σ D (forRun kp t (evS C kp b) (ds.drop i) r),
      ⟨ds.length, by simp, Nat.zero_le _, F1, ρ', L1, .refl, .env e1 le1, s1, by rw [List.drop_zero]; exact k⟩, ?_⟩
    rintro i m σ' H ⟨rfl, hle, F', r, L, leF, sd, sr', kk⟩
    by_cases hlt : i < ds.length
    · have hd : ds[i]? = some ds[i] := List.getElem?_eq_getElem hlt
      generalize ds[i] = d at hd
      have hdrop : ds.drop i = d :: ds.drop (i + 1) := by
        rw [List.drop_eq_getElem_cons hlt]
        rw [List.getElem?_eq_getElem hlt] at hd
        injection hd with hd
        rw [hd]
      rw [hdrop] at kk
      simp only [forRun] at kk
      obtain ⟨go, yd⟩ := (wk F' H leF sr'.le).2 i d hd
      refine .inr ⟨go, _, fun σ2 H' hN => ⟨ds.length - (i + 1), by omega, rfl, by omega, hN⟩, fun x H' hy => ?_⟩
      obtain ⟨F2, le2, s4, rd⟩ : ∃ F2, Le F' F2 ∧ SR c G Fr F2 H' r σ' L ∧ R c F2 d x := by
        rcases yd x H' hy with ⟨rfl, rd⟩ | ⟨p, o, hp, rfl, rd⟩
        · exact ⟨F', .refl, sr', rd⟩
        · obtain ⟨l, s5⟩ := sr'.frozen (o := o) hp
          exact ⟨_, l, s5, rd⟩
      cases hbd : bindT kp t d r with
      | none => rw [hbd] at kk; exact kk.elim
      | some r1 =>
        rw [hbd] at kk
        dsimp only at kk
        have lr1 := bindT_len hbd
        refine ⟨Fr, F2, r, [], [], L, d, r1, by simpa using s4, s4.len.symm, rd, hbd, fun σ2 L3 e1 e2 e3 s5 => tSt_iff.mpr ?_⟩
        have s5 : SR c G Fr F2 H' r1 σ2 L3 := by simpa using s5
        have sd2 : Sd kp ρ r1 σ σ2 F F2 := sd.trans ⟨lr1, e2, le2, fun i hi => e3 i (.inl hi)⟩
        refine ⟨Fr, F2, r1, L3, s5, ?_⟩
        cases hev : evS C kp b r1 with
        | nx r2 =>
          rw [hev] at kk
          exact fun σ3 H3 F3 L4 sd3 s6 => ⟨F3, r2, L4, (leF.trans le2).trans sd3.le, sd2.trans sd3, s6, kk⟩
        | ct r2 =>
          rw [hev] at kk
          exact fun σ3 H3 F3 L4 sd3 s6 => ⟨F3, r2, L4, (leF.trans le2).trans sd3.le, sd2.trans sd3, s6, kk⟩
        | bk r2 =>
          rw [hev] at kk
          exact fun σ3 H3 F3 L4 sd3 s6 => kk σ3 H3 F3 L4 (sd2.trans sd3) s6
        | rt t r2 =>
          rw [hev] at kk
          exact fun v σ3 H3 F3 L4 sd3 s6 => kk v σ3 H3 F3 L4 (sd2.trans sd3) s6
        | ex x r2 =>
          rw [hev] at kk
          exact fun cls d σ3 H3 F3 L4 sd3 xr s6 => kk cls d σ3 H3 F3 L4 (sd2.trans sd3) xr s6
        | no => rw [hev] at kk; exact kk.elim
    · have hi : i = ds.length := by omega
      subst hi
      rw [List.drop_length] at kk
      simp only [forRun] at kk
      exact .inl ⟨(wk F' H leF sr'.le).1, kk σ' H F' L sd sr'⟩
/-! ### owned things -/
theorem ROK.put {k : Key} {t : T} {v : V} {Lt : List Addr} (hr : RO c G F H t v Lt) : ∀ {ks : List (Key × T)} {vs : List (Key × V)} {L : List Addr}, ROK c G F H ks vs L → (L ++ Lt).Nodup → (ks.map (·.1)).Nodup →
    ∃ L', ROK c G F H (ks.map fun p => if p.1 = k then (p.1, t) else p) (vs.map fun p => if p.1 = k then (p.1, v) else p) L' ∧ L'.Nodup ∧ (∀ a ∈ L', a ∈ L ++ Lt) ∧ ((∀ p ∈ ks, p.1 ≠ k) → L' = L)
  | [], _, _, h, nd, _ => by
    simp only [ROK] at h
    obtain ⟨rfl, rfl⟩ := h
    exact ⟨[], by simp only [List.map_nil, ROK]; exact ⟨trivial, trivial⟩, by simp, fun a ha => (by cases ha), fun _ => rfl⟩
  | (k', t') :: r, _, _, h, nd, nk => by
    simp only [ROK] at h
    obtain ⟨v', w, L1, L2, rfl, rfl, x, y⟩ := h
    rw [List.map_cons, List.nodup_cons] at nk
    rw [List.append_assoc] at nd
    obtain ⟨n1, n2, n3⟩ := List.nodup_append.mp nd
    obtain ⟨L', z, n4, sub, same⟩ := ROK.put hr y n2 nk.2
    by_cases e : k' = k
    · have hno : ∀ p ∈ r, p.1 ≠ k := fun p hp q => nk.1 (List.mem_map.mpr ⟨p, hp, by rw [q, e]⟩)
      have e2 := same hno
      subst e2
      refine ⟨Lt ++ L', ?_, ?_, fun a ha => ?_, fun q => absurd e (q _ List.mem_cons_self)⟩
      · simp only [List.map_cons, e, if_true, ROK]
        exact ⟨v, _, Lt, L', rfl, rfl, hr, z⟩
      · exact (List.perm_append_comm).nodup_iff.mp n2
      · rcases List.mem_append.mp ha with q | q <;> simp [q]
    · refine ⟨L1 ++ L', ?_, List.nodup_append.mpr ⟨n1, n4, fun a ha b hb => n3 a ha b (sub b hb)⟩, fun a ha => ?_, fun q => ?_⟩
      · simp only [List.map_cons, e, if_false, ROK]
        exact ⟨v', _, L1, L', rfl, rfl, x, z⟩
      · rcases List.mem_append.mp ha with q | q
        · simp [q]
        · have := sub a q
          rw [List.append_assoc]
          exact List.mem_append_right _ this
      · rw [same fun p hp => q p (List.mem_cons_of_mem _ hp)]
theorem ROK.app : ∀ {ts t2 : List (Key × T)} {vs v2 : List (Key × V)} {L L2 : List Addr}, ROK c G F H ts vs L → ROK c G F H t2 v2 L2 → ROK c G F H (ts ++ t2) (vs ++ v2) (L ++ L2)
  | [], _, _, _, _, _, h, k => by
    simp only [ROK] at h
    obtain ⟨rfl, rfl⟩ := h
    exact k
  | (q, t) :: r, _, _, _, _, _, h, k => by
    simp only [ROK] at h
    obtain ⟨v, w, L1, L2, rfl, rfl, x, y⟩ := h
    simp only [List.cons_append, ROK]
    exact ⟨v, _, L1, _, rfl, by rw [List.append_assoc], x, ROK.app y k⟩
theorem ROK.keys : ∀ {ts : List (Key × T)} {vs : List (Key × V)} {L : List Addr}, ROK c G F H ts vs L → vs.map (·.1) = ts.map (·.1)
  | [], _, _, h => by
    simp only [ROK] at h
    rw [h.1]; rfl
  | (q, t) :: r, _, _, h => by
    simp only [ROK] at h
    obtain ⟨v, w, L1, L2, rfl, rfl, x, y⟩ := h
    rw [List.map_cons, List.map_cons, ROK.keys y]
theorem any_keys {ks : List (Key × T)} {vs : List (Key × V)} {k : Key} (h : vs.map (·.1) = ks.map (·.1)) : (vs.any fun p => decide (p.1 = k)) = ks.any fun p => decide (p.1 = k) := by
  have e1 : (vs.any fun p => decide (p.1 = k)) = (vs.map (·.1)).any fun q => decide (q = k) := by rw [List.any_map]; rfl
  have e2 : (ks.any fun p => decide (p.1 = k)) = (ks.map (·.1)).any fun q => decide (q = k) := by rw [List.any_map]; rfl
  rw [e1, e2, h]
theorem ROK.putT {k : Key} {t : T} {v : V} {Lt : List Addr} {acc : List (Key × T)} {vs : List (Key × V)} {L : List Addr} (hr : RO c G F H t v Lt) (h : ROK c G F H acc vs L) (nd : (L ++ Lt).Nodup) (nk : (acc.map (·.1)).Nodup) (hk : vs.map (·.1) = acc.map (·.1)) :
    ∃ L', ROK c G F H (putKT acc k t) (putK vs k v) L' ∧ L'.Nodup ∧ ∀ b ∈ L', b ∈ L ++ Lt := by
  unfold putKT putK
  rw [any_keys hk]
  cases hh : acc.any fun p => decide (p.1 = k) with
  | true =>
    rw [if_pos rfl, if_pos rfl]
    obtain ⟨L', z, n7, sub, _⟩ := ROK.put (k := k) hr h nd nk
    exact ⟨L', z, n7, sub⟩
  | false =>
    rw [if_neg (by simp), if_neg (by simp)]
    exact ⟨L ++ Lt, h.app (by simp only [ROK]; exact ⟨v, [], Lt, [], rfl, by simp, hr, rfl, rfl⟩), nd, fun b hb => hb⟩
theorem SR.setK {ρ : List (Option T)} {us : List (Option V)} {t : T} {v : V} {L : List Addr} {i : Nat} {k : Key} {acc : List (Key × T)} (s : SR c G Fr F H (ρ ++ [some t]) (us ++ [some v]) L) (h1 : us.length = ρ.length) (h0 : ρ[i]? = some (some (.dK acc))) (hn : (acc.map (·.1)).Nodup) :
    ∃ a vs, us[i]? = some (some (.ref a)) ∧ H a = some (.dK vs) ∧ vs.length = acc.length ∧ ∃ L', SR c G Fr F (upd H a (.dK (putK vs k v))) (ρ.set i (some (.dK (putKT acc k t)))) us L' := by
  obtain ⟨u, L2, Lt, hu, r0, r1, nd, ap, gn, f⟩ := s.graft h1 h0
  simp only [RO] at r0
  obtain ⟨a, vs, L1, rfl, ha, rl, rfl⟩ := r0
  obtain ⟨n1, n2, n3, n4, n5, n6⟩ := noA nd
  have kA : ∀ {L : List Addr}, a ∉ L → Kept G L H (upd H a (.dK (putK vs k v))) := fun {L} h => ⟨fun b hb => upd_ne fun e => h (e ▸ hb), fun n b g => upd_ne fun e => gn n b g (by rw [e]; simp)⟩
  have rl' := rl.kept Le.refl (kA n1)
  have r1' := r1.kept Le.refl (kA n2)
  have hk := rl.keys
  have hlen : vs.length = acc.length := by have := congrArg List.length hk; simpa using this
  obtain ⟨L', z, n7, sub⟩ := ROK.putT (k := k) r1' rl' n5 hn hk
  refine ⟨a, vs, hu, ha, hlen, f a _ _ (a :: L') (by simp) (fun b hb => upd_ne hb) ?_ (List.nodup_cons.mpr ⟨fun h => ?_, n7⟩) (fun x hx => ?_)⟩
  · simp only [RO]
    exact ⟨a, _, _, rfl, upd_same, z, rfl⟩
  · rcases List.mem_append.mp (sub a h) with q | q
    · exact n1 q
    · exact n2 q
  · rcases List.mem_cons.mp hx with rfl | hx
    · simp
    · have := sub x hx
      simp only [List.mem_append, List.mem_cons] at this ⊢
      rcases this with q | q <;> simp [q]
theorem ROF.put {f : Str} {t : T} {v : V} {Lt : List Addr} (hr : RO c G F H t v Lt) : ∀ {ks : List (Str × T)} {vs : List (Str × V)} {L : List Addr}, ROF c G F H ks vs L → (L ++ Lt).Nodup → ∃ L', ROF c G F H (putT f t ks) (putF f v vs) L' ∧ L'.Nodup ∧ (∀ a ∈ L', a ∈ L ++ Lt)
  | [], _, _, h, nd => by
    simp only [ROF] at h
    obtain ⟨rfl, rfl⟩ := h
    refine ⟨Lt, by simp only [putT, putF, ROF]; exact ⟨v, [], Lt, [], rfl, by simp, hr, rfl, rfl⟩, by simpa using nd, fun a ha => by simpa using ha⟩
  | (k', t') :: r, _, _, h, nd => by
    simp only [ROF] at h
    obtain ⟨v', w, L1, L2, rfl, rfl, x, y⟩ := h
    rw [List.append_assoc] at nd
    obtain ⟨n1, n2, n3⟩ := List.nodup_append.mp nd
    by_cases e : k' = f
    · refine ⟨Lt ++ L2, ?_, (List.perm_append_comm).nodup_iff.mp n2, fun a ha => ?_⟩
      · simp only [putT, putF, e, if_true, ROF]
        exact ⟨v, _, Lt, L2, rfl, rfl, hr, y⟩
      · rcases List.mem_append.mp ha with q | q <;> simp [q]
    · obtain ⟨L', z, n4, sub⟩ := ROF.put hr y n2
      refine ⟨L1 ++ L', ?_, List.nodup_append.mpr ⟨n1, n4, fun a ha b hb => n3 a ha b (sub b hb)⟩, fun a ha => ?_⟩
      · simp only [putT, putF, e, if_false, ROF]
        exact ⟨v', _, L1, L', rfl, rfl, x, z⟩
      · rcases List.mem_append.mp ha with q | q
        · simp [q]
        · have := sub a q
          rw [List.append_assoc]
          exact List.mem_append_right _ this
theorem ROF.length : ∀ {ts : List (Str × T)} {vs : List (Str × V)} {L : List Addr}, ROF c G F H ts vs L → vs.length = ts.length
  | [], _, _, h => by
    simp only [ROF] at h
    rw [h.1]; rfl
  | (k, t) :: r, _, _, h => by
    simp only [ROF] at h
    obtain ⟨v, w, L1, L2, rfl, rfl, x, y⟩ := h
    rw [List.length_cons, List.length_cons, ROF.length y]
/-- o.f = .. -/
theorem SR.setF {ρ : List (Option T)} {us : List (Option V)} {t : T} {v : V} {L : List Addr} {i : Nat} {k f : Str} {fs : List (Str × T)} (s : SR c G Fr F H (ρ ++ [some t]) (us ++ [some v]) L) (h1 : us.length = ρ.length) (h0 : ρ[i]? = some (some (.obj k fs))) :
    ∃ a dx vs, us[i]? = some (some (.ref a)) ∧ H a = some (.ins (c.cl k) dx vs) ∧ vs.length = fs.length ∧ ∃ L', SR c G Fr F (upd H a (.ins (c.cl k) dx (putF f v vs))) (ρ.set i (some (.obj k (putT f t fs)))) us L' := by
  obtain ⟨u, L2, Lt, hu, r0, r1, nd, ap, gn, ff⟩ := s.graft h1 h0
  simp only [RO] at r0
  obtain ⟨a, dx, vs, L1, rfl, ha, rl, rfl⟩ := r0
  obtain ⟨n1, n2, n3, n4, n5, n6⟩ := noA nd
  have kA : ∀ {L : List Addr}, a ∉ L → Kept G L H (upd H a (.ins (c.cl k) dx (putF f v vs))) := fun {L} h => ⟨fun b hb => upd_ne fun e => h (e ▸ hb), fun n b g => upd_ne fun e => gn n b g (by rw [e]; simp)⟩
  obtain ⟨L', z, n7, sub⟩ := ROF.put (f := f) (r1.kept Le.refl (kA n2)) (rl.kept Le.refl (kA n1)) n5
  refine ⟨a, dx, vs, hu, ha, rl.length, ff a _ _ (a :: L') (by simp) (fun b hb => upd_ne hb) ?_ (List.nodup_cons.mpr ⟨fun h => ?_, n7⟩) (fun x hx => ?_)⟩
  · simp only [RO]
    exact ⟨a, dx, _, _, rfl, upd_same, z, rfl⟩
  · rcases List.mem_append.mp (sub a h) with q | q
    · exact n1 q
    · exact n2 q
  · rcases List.mem_cons.mp hx with rfl | hx
    · simp
    · have := sub x hx
      simp only [List.mem_append, List.mem_cons] at this ⊢
      rcases this with q | q <;> simp [q]
end MP
/-! MP26: changes as statements; the checker of statements. -/
namespace MP
open PySem PySem.Spec PyProof.Rows L2
variable {c : Cv} {sy : Sy} {X : Cx} {sc : Scope} {N : List Str} {wc : List Str} {C : Ct} {W : WX} {G : Nat → Option Addr} {Fr F F' H H' : Hp} {kp : Nat → Bool}
theorem sub_asg {o i : Expr} {pos : Pos} {env : PySem.Env} (h : noSlice i = true) (v : Value) : assign (.Subscript o i pos) env v = (do
      let ov ← holding [v] (eval o env)
      let iv ← holding [v, ov] (eval i env)
      standAt pos
      holding [v, ov, iv] (setItem ov iv v)
      release [v, ov, iv] []) := by
  cases i <;> first | rfl | cases h
theorem sole_sw {e t : Expr} {l : Nat} {env : PySem.Env} (h : noComp e = true) : swapsWithSole [t] e l env = pure false := by
  cases e <;> first | rfl | cases h
theorem s_setI (g : Gz c sy X sc N wc C W) {i : Nat} {k : P} {e : E} {y : Str} {ix ex : Expr} {p p' pos : Pos} (hy : nameB sc N i y = true) (hk : chkP sy.toSx sc N k ix = true) (hs : noSlice ix = true) (hc : noComp ex = true) (he : PE X ex (tE c G C W e)) :
    PS X (.Assign [.Subscript (.Name y p) ix p'] ex pos) (tSt c G C W kp (.setI i k e)) := by
  have rule : ∀ {t : TSet}, PSet X t → PS X (.Assign [.Subscript (.Name y p) ix p'] ex pos) (tAsg (tE c G C W e) (gSub (tVar i) (tP c G k) t)) := fun {t} ht =>
    ps_asg he (pg_sub (pe_slot g.toGx hy) (chkP_ok G g.toGx hk) ht (sub_asg hs)) (sole_sw hc) (noPar_ok rfl) rfl
  refine ⟨fun pins s σ H D I hh => ?_⟩
  obtain ⟨Fr, F, ρ, L, sr, kk⟩ := tSt_iff.mp hh
  simp only [evS] at kk
  cases h1 : evE C e ρ with
  | no => rw [h1] at kk; exact kk.elim
  | ex x ρ' =>
    rw [h1] at kk
    refine (rule set_list).run pins s σ H D I (tE.top sr ?_)
    rw [h1]
    exact fun cls d H' F' L' h1 le xr s' => kk cls d σ H' F' L' (.env h1 le) xr s'
  | ok t ρ' =>
    rw [h1] at kk
    dsimp only at kk
    cases hsl : slot ρ' i with
    | none => rw [hsl] at kk; exact kk.elim
    | some t0 =>
      cases hk1 : evP ρ' k with
      | none => rw [hsl, hk1] at kk; cases t0 <;> exact kk.elim
      | some q =>
        rw [hsl, hk1] at kk
        have hi : ρ'[i]? = some (some t0) := slot_get hsl
        cases t0 with
        | lst acc =>
          cases q with
          | sh dq =>
            cases dq with
            | int n =>
              dsimp only at kk
              cases hj : ixN acc.length n with
              | none => rw [hj] at kk; exact kk.elim
              | some j =>
                rw [hj] at kk
                refine (rule set_list).run pins s σ H D I (tE.top sr ?_)
                rw [h1]
                intro v H' F' L' h2 le s'
                have hl : σ.length = ρ'.length := by have := s'.len; simpa using this
                obtain ⟨a, vs, q1, q2, q3, _⟩ := s'.setL (j := j) hl hi ((ixN_seq hj).2.1)
                refine ⟨_, q1, Fr, F', ρ', _, _, L', s', hl.symm, _, hk1, fun w H2 x2 vw => ?_⟩
                obtain ⟨a', vs', q1', q2', q3', L2, s2⟩ := (s'.to x2).setL (j := j) hl hi ((ixN_seq hj).2.1)
                rw [q1] at q1'
                injection q1' with q1'; injection q1' with q1'; injection q1' with q1'
                subst q1'
                refine ⟨a, vs', n, j, rfl, vw.int, q2', by rw [q3']; exact hj, ?_⟩
                exact kk σ _ F' L2 ⟨by simp [h2], rfl, le, fun _ _ => rfl⟩ s2
            | _ => exact kk.elim
          | _ => exact kk.elim
        | dK acc =>
          cases q with
          | sh dq =>
            dsimp only at kk
            cases hj : keyOf (.sh dq) with
            | none => rw [hj] at kk; exact kk.elim
            | some j =>
              rw [hj] at kk
              dsimp only at kk
              by_cases hz : acc.length < sizeLine ∧ (acc.map (·.1)).Nodup
              · rw [if_pos hz] at kk
                refine (rule (set_dict (hu1 g.toGx))).run pins s σ H D I (tE.top sr ?_)
                rw [h1]
                intro v H' F' L' h2 le s'
                have hl : σ.length = ρ'.length := by have := s'.len; simpa using this
                obtain ⟨a, vs, q1, q2, q3, _⟩ := s'.setK (k := j) hl hi hz.2
                refine ⟨_, q1, Fr, F', ρ', _, _, L', s', hl.symm, _, hk1, fun w H2 x2 vw => ?_⟩
                obtain ⟨a', vs', q1', q2', q3', L2, s2⟩ := (s'.to x2).setK (k := j) hl hi hz.2
                rw [q1] at q1'
                injection q1' with q1'; injection q1' with q1'; injection q1' with q1'
                subst q1'
                refine ⟨a, _, rfl, .inl ⟨vs', j, q2', keyOf_eq vw hj, by rw [q3']; exact hz.1, rfl⟩, ?_⟩
                exact kk σ _ F' L2 ⟨by simp [h2], rfl, le, fun _ _ => rfl⟩ s2
              · rw [if_neg hz] at kk; exact kk.elim
          | _ => exact kk.elim
        | _ => exact kk.elim
theorem SR.dKAt {ρ : List (Option T)} {us : List (Option V)} {L : List Addr} {i : Nat} {acc : List (Key × T)} (s : SR c G Fr F H ρ us L) (h : ρ[i]? = some (some (.dK acc))) : ∃ a, us[i]? = some (some (.ref a)) := by
  obtain ⟨u, L1, L2, L3, hu, _, ⟨v, e, r⟩, _⟩ := s.sl.at h
  subst e
  simp only [RO] at r
  obtain ⟨a, vs, M, rfl, ha, rl, _⟩ := r
  exact ⟨a, hu⟩
theorem s_setE (g : Gz c sy X sc N wc C W) {i : Nat} {k e : E} {y : Str} {ix ex : Expr} {p p' pos : Pos} (hy : nameB sc N i y = true) (hk : PE X ix (tE c G C W k)) (hs : noSlice ix = true) (hc : noComp ex = true) (he : PE X ex (tE c G C W e)) :
    PS X (.Assign [.Subscript (.Name y p) ix p'] ex pos) (tSt c G C W kp (.setE i k e)) := by
  have rule : PS X (.Assign [.Subscript (.Name y p) ix p'] ex pos) (tAsg (tE c G C W e) (gSub (tVar i) (tE c G C W k) rSetD)) :=
    ps_asg he (pg_sub (pe_slot g.toGx hy) hk (set_dict (hu1 g.toGx)) (sub_asg hs)) (sole_sw hc) (noPar_ok rfl) rfl
  refine rule.weaken fun D σ H hh => ?_
  obtain ⟨Fr, F, ρ, L, sr, kk⟩ := tSt_iff.mp hh
  simp only [evS] at kk
  refine tE.top sr ?_
  cases h1 : evE C e ρ with
  | no => rw [h1] at kk; exact kk
  | ex x ρ' => rw [h1] at kk; exact fun cls d H' F' L' h1 le xr s' => kk cls d σ H' F' L' (.env h1 le) xr s'
  | ok t ρ' =>
    rw [h1] at kk
    dsimp only at kk ⊢
    intro v H1 F1 L1 l1 le1 s1
    have hl1 : σ.length = ρ'.length := by have := s1.len; simpa using this
    cases hsl : slot ρ' i with
    | none => rw [hsl] at kk; exact kk.elim
    | some t0 =>
      rw [hsl] at kk
      cases t0 with
      | dK acc0 =>
        dsimp only at kk
        have hi0 : (ρ' ++ [some t])[i]? = some (some (.dK acc0)) := by
          have q := slot_get hsl
          rw [List.getElem?_append_left (List.getElem?_eq_some_iff.mp q).1]
          exact q
        obtain ⟨a, q1⟩ := s1.dKAt hi0
        have hiρ : i < ρ'.length := (List.getElem?_eq_some_iff.mp (slot_get hsl)).1
        rw [List.getElem?_append_left (by omega)] at q1
        refine ⟨_, q1, Fr, F1, ρ', [some t], [some v], L1, s1, hl1.symm, ?_⟩
        cases h2 : evE C k ρ' with
        | no => rw [h2] at kk; exact kk
        | ex x ρ2 => rw [h2] at kk; exact fun cls d H' F' L' h1 le xr s' => kk cls d σ H' F' L' (.env (by omega) (le1.trans le)) xr s'
        | ok q ρ2 =>
          rw [h2] at kk
          dsimp only at kk ⊢
          intro w H2 F2 L2 l2 le2 s2
          have hl2 : σ.length = ρ2.length := by have := s2.len; simpa using this
          have s2' : SR c G Fr F2 H2 ((ρ2 ++ [some t]) ++ [some q]) ((σ ++ [some v]) ++ [some w]) L2 := by simpa using s2
          obtain ⟨acc, j, h3, h4, k2⟩ : ∃ (acc : List (Key × T)) (j : Key), ρ2[i]? = some (some (.dK acc)) ∧ keyOf q = some j ∧ Out c G W kp Fr F ρ σ D (if acc.length < sizeLine ∧ (acc.map (fun p : Key × T => p.1)).Nodup then .nx (ρ2.set i (some (.dK (putKT acc j t)))) else .no) := by
            cases hs2 : slot ρ2 i with
            | none => rw [hs2] at kk; exact kk.elim
            | some t2 =>
              rw [hs2] at kk
              cases hq : keyOf q with
              | none => rw [hq] at kk; cases t2 <;> exact kk.elim
              | some j =>
                rw [hq] at kk
                cases t2 with
                | dK acc => exact ⟨acc, j, slot_get hs2, rfl, kk⟩
                | _ => exact kk.elim
          clear kk
          have vw := s2'.lastV (by simp; omega)
          have ew := keyOf_eq vw h4
          obtain ⟨L3, s3, _⟩ := s2'.cut (by simp; omega)
          by_cases hz : acc.length < sizeLine ∧ (acc.map (·.1)).Nodup
          · rw [if_pos hz] at k2
            obtain ⟨a', vs, q3, q4, q5, L4, s4⟩ := s3.setK (k := j) hl2 h3 hz.2
            rw [q1] at q3
            injection q3 with q3; injection q3 with q3; injection q3 with q3
            subst q3
            refine ⟨a, _, rfl, .inl ⟨vs, j, q4, ew, by rw [q5]; exact hz.1, rfl⟩, ?_⟩
            exact k2 σ _ F2 L4 ⟨by simp; omega, rfl, le1.trans le2, fun _ _ => rfl⟩ s4
          · rw [if_neg hz] at k2; exact k2.elim
      | _ => exact kk.elim
/-- x[j][k] = .. -/
theorem s_setP (g : Gz c sy X sc N wc C W) {i j : Nat} {k : P} {e : E} {y : Str} {ix ex : Expr} {p jp sp p' pos : Pos} {jk} (hy : nameB sc N i y = true) (hk : chkP sy.toSx sc N k ix = true) (hs : noSlice ix = true) (hc : noComp ex = true) (he : PE X ex (tE c G C W e)) :
    PS X (.Assign [.Subscript (.Subscript (.Name y p) (.Constant (.int (j : Int)) jk jp) sp) ix p'] ex pos) (tSt c G C W kp (.setP i j k e)) := by
  refine (ps_asg he (pg_sub (pe_part g.toGx hy) (chkP_ok G g.toGx hk) (set_dict (hu1 g.toGx)) (sub_asg hs)) (sole_sw hc) (noPar_ok rfl) rfl).weaken fun D σ H hh => ?_
  obtain ⟨Fr, F, ρ, L, sr, kk⟩ := tSt_iff.mp hh
  simp only [evS] at kk
  refine tE.top sr ?_
  cases h1 : evE C e ρ with
  | no => rw [h1] at kk; exact kk
  | ex x ρ' => rw [h1] at kk; exact fun cls d H' F' L' h1 le xr s' => kk cls d σ H' F' L' (.env h1 le) xr s'
  | ok t ρ' =>
    rw [h1] at kk
    dsimp only at kk ⊢
    intro v H' F' L' h2 le s'
    obtain ⟨xs, acc, q, kq, hsl, hk1, hx, hq, k2⟩ : ∃ (xs : List T) (acc : List (Key × T)) (q : T) (kq : Key), slot ρ' i = some (.lst xs) ∧ evP ρ' k = some q ∧ xs[j]? = some (.dK acc) ∧ keyOf q = some kq ∧
        Out c G W kp Fr F ρ σ D (if acc.length < sizeLine ∧ (acc.map (fun p : Key × T => p.1)).Nodup then .nx (ρ'.set i (some (.lst (xs.set j (.dK (putKT acc kq t)))))) else .no) := by
      cases hsl : slot ρ' i with
      | none => rw [hsl] at kk; exact kk.elim
      | some t0 =>
        cases hk1 : evP ρ' k with
        | none => rw [hsl, hk1] at kk; cases t0 <;> exact kk.elim
        | some q =>
          rw [hsl, hk1] at kk
          cases t0 with
          | lst xs =>
            dsimp only at kk
            cases hx : xs[j]? with
            | none => rw [hx] at kk; exact kk.elim
            | some t1 =>
              rw [hx] at kk
              cases hq : keyOf q with
              | none => rw [hq] at kk; cases t1 <;> exact kk.elim
              | some kq =>
                rw [hq] at kk
                cases t1 with
                | dK acc => exact ⟨xs, acc, q, kq, rfl, rfl, hx, hq, kk⟩
                | _ => exact kk.elim
          | _ => exact kk.elim
    clear kk
    have hi : ρ'[i]? = some (some (.lst xs)) := slot_get hsl
    have hl : σ.length = ρ'.length := by have := s'.len; simpa using this
    have hjx := (List.getElem?_eq_some_iff.mp hx).1
    by_cases hz : acc.length < sizeLine ∧ (acc.map (·.1)).Nodup
    · rw [if_pos hz] at k2
      have step : ∀ {H2 : Hp} {L2 : List Addr}, SR c G Fr F' H2 (ρ' ++ [some t]) (σ ++ [some v]) L2 → ∃ a vs a2 vs2 L3, σ[i]? = some (some (.ref a)) ∧ H2 a = some (.lst vs) ∧ vs[j]? = some (.ref a2) ∧ H2 a2 = some (.dK vs2) ∧ vs2.length = acc.length ∧
          SR c G Fr F' (upd H2 a2 (.dK (putK vs2 kq v))) (ρ'.set i (some (.lst (xs.set j (.dK (putKT acc kq t)))))) σ L3 := by
        intro H2 L2 s2
        obtain ⟨a, vs, L1, q1, q2, q3, q4, s3⟩ := s2.explode hl hi
        have s4 : SR c G (upd Fr a (.lst vs)) F' H2 ((ρ'.set i none ++ xs.map some) ++ [some t]) ((σ ++ vs.map some) ++ [some v]) L1 := by simpa using s3
        have e1 : (ρ'.set i none ++ xs.map some)[ρ'.length + j]? = some (some (.dK acc)) := by
          rw [List.getElem?_append_right (by simp), List.length_set, Nat.add_sub_cancel_left, List.getElem?_map, hx]
          rfl
        obtain ⟨a2, vs2, e2, e3, e4, L4, s5⟩ := s4.setK (k := kq) (by simp [hl, q3]) e1 hz.2
        have e5 : vs[j]? = some (.ref a2) := by
          rw [List.getElem?_append_right (by omega), hl, Nat.add_sub_cancel_left, List.getElem?_map] at e2
          obtain ⟨w, hw, ew⟩ := Option.map_eq_some_iff.mp e2
          rw [hw, ← Option.some.inj ew]
        have e6 : (ρ'.set i none ++ xs.map some).set (ρ'.length + j) (some (.dK (putKT acc kq t))) = ρ'.set i none ++ (xs.set j (.dK (putKT acc kq t))).map some := by
          rw [List.set_append_right _ _ (by simp), List.length_set, Nat.add_sub_cancel_left, List.map_set]
        rw [e6] at s5
        have s6 : SR c G (upd Fr a (.lst vs)) F' (upd H2 a2 (.dK (putK vs2 kq v))) (ρ'.set i none ++ ((xs.set j (.dK (putKT acc kq t))).map some ++ [])) (σ ++ (vs.map some ++ [])) L4 := by simpa using s5
        obtain ⟨L5, s7⟩ := s6.implode (by simpa using hl) (by simpa using q3) q1 q4 s2.gf
        rw [List.set_set] at s7
        exact ⟨a, vs, a2, vs2, L5, q1, q2, e5, e3, e4, by simpa using s7⟩
      obtain ⟨a, vs, a2, vs2, _, q1, q2, q3, _⟩ := step s'
      refine ⟨a, vs, _, q1, q2, q3, Fr, F', ρ', [some t], [some v], L', s', hl.symm, q, hk1, fun w H2 x2 vw => ?_⟩
      obtain ⟨a', vs', a2', vs2', L3, r1, r2, r3, r4, r5, s3⟩ := step (s'.to x2)
      rw [q1] at r1
      injection r1 with r1; injection r1 with r1; injection r1 with r1
      subst r1
      rw [x2 _ _ q2] at r2
      injection r2 with r2; injection r2 with r2
      subst r2
      rw [q3] at r3
      injection r3 with r3; injection r3 with r3
      subst r3
      refine ⟨a2, _, rfl, .inl ⟨vs2', kq, r4, keyOf_eq vw hq, by rw [r5]; exact hz.1, rfl⟩, ?_⟩
      exact k2 σ _ F' L3 ⟨by simp [h2], rfl, le, fun _ _ => rfl⟩ s3
    · rw [if_neg hz] at k2; exact k2.elim
theorem SR.lstAt {ρ : List (Option T)} {us : List (Option V)} {L : List Addr} {i : Nat} {acc : List T} (s : SR c G Fr F H ρ us L) (h : ρ[i]? = some (some (.lst acc))) : ∃ a vs, us[i]? = some (some (.ref a)) ∧ H a = some (.lst vs) ∧ vs.length = acc.length := by
  obtain ⟨u, L1, L2, L3, hu, _, ⟨v, e, r⟩, _⟩ := s.sl.at h
  subst e
  simp only [RO] at r
  obtain ⟨a, vs, M, rfl, ha, rl, _⟩ := r
  exact ⟨a, vs, hu, ha, rl.length⟩
theorem slotLst {ρ : Env1} {i : Nat} {α : Type} {x y : α} (P : α → Prop) (h : P (match slot ρ i with | some (.lst _) => x | _ => y)) (hy : ¬ P y) : ∃ acc, ρ[i]? = some (some (.lst acc)) ∧ P x := by
  cases hs : slot ρ i with
  | none => rw [hs] at h; exact (hy h).elim
  | some t =>
    rw [hs] at h
    cases t with
    | lst acc => exact ⟨acc, slot_get hs, h⟩
    | _ => exact (hy h).elim
theorem slotLst' {ρ : Env1} {i : Nat} {x : List T → Fl} {y : Fl} (P : Fl → Prop) (h : P (match slot ρ i with | some (.lst ts) => x ts | _ => y)) (hy : ¬ P y) : ∃ acc, ρ[i]? = some (some (.lst acc)) ∧ P (x acc) := by
  cases hs : slot ρ i with
  | none => rw [hs] at h; exact (hy h).elim
  | some t =>
    rw [hs] at h
    cases t with
    | lst acc => exact ⟨acc, slot_get hs, h⟩
    | _ => exact (hy h).elim
theorem s_app (g : Gz c sy X sc N wc C W) {i : Nat} {e : E} {y : Str} {ex : Expr} {p apos cpos pos : Pos} (hy : nameB sc N i y = true) (hs : noStar ex = true) (hl : (apos.endLine == cpos.line) = true) (he : PE X ex (tE c G C W e)) :
    PS X (.Expr (.Call (.Attribute (.Name y p) "append" apos) [ex] [] cpos) pos) (tSt c G C W kp (.app i e)) := by
  have rule : PE X (.Call (.Attribute (.Name y p) "append" apos) [ex] [] cpos) (tBM X.K "list" rAppend (tVar i) (tCons (tE c G C W e) tNil)) :=
    pe_bm PySem.F.plainAttrs_list PySem.F.slot_list_append PySem.F.type_list_append mt_append (pe_slot g.toGx hy) (pa_cons he pa_nil (star_cons hs)) rfl (by rw [star_cons hs]; rfl) hl (star_cons hs) rfl
  refine (ps_expr rule rfl).weaken fun D σ H hh => ?_
  obtain ⟨Fr, F, ρ, L, sr, kk⟩ := tSt_iff.mp hh
  simp only [evS] at kk
  obtain ⟨acc0, h0, kk⟩ := slotLst (Out c G W kp Fr F ρ σ D) kk (fun z => z)
  obtain ⟨a, vs0, q1, q2, _⟩ := sr.lstAt h0
  refine ⟨_, q1, .inl ⟨rfl, vs0, SqL.of q2⟩, tE.top sr ?_⟩
  cases h1 : evE C e ρ with
  | no => rw [h1] at kk; exact kk
  | ex x ρ' => rw [h1] at kk; exact fun cls d H' F' L' h1 le xr s' => kk cls d σ H' F' L' (.env h1 le) xr s'
  | ok t ρ' =>
    rw [h1] at kk
    dsimp only at kk ⊢
    intro v H' F' L' h2 le s'
    obtain ⟨acc, h3, kk⟩ := slotLst' (Out c G W kp Fr F ρ σ D) kk (fun z => z)
    have hl : σ.length = ρ'.length := by have := s'.len; simpa using this
    obtain ⟨a', vs, q3, q4, q5, L2, s2⟩ := s'.push hl h3
    rw [q1] at q3
    injection q3 with q3; injection q3 with q3; injection q3 with q3
    subst q3
    by_cases hz : acc.length < sizeLine
    · rw [if_pos hz] at kk
      exact ⟨a, vs, v, rfl, rfl, q4, by omega, kk σ _ F' L2 ⟨by simp [h2], rfl, le, fun _ _ => rfl⟩ s2⟩
    · rw [if_neg hz] at kk; exact kk.elim
theorem s_ins (g : Gz c sy X sc N wc C W) {i : Nat} {e1 e2 : E} {y : Str} {x1 x2 : Expr} {p apos cpos pos : Pos} (hy : nameB sc N i y = true) (hs1 : noStar x1 = true) (hs2 : noStar x2 = true) (hl : (apos.endLine == cpos.line) = true) (he1 : PE X x1 (tE c G C W e1)) (he2 : PE X x2 (tE c G C W e2)) :
    PS X (.Expr (.Call (.Attribute (.Name y p) "insert" apos) [x1, x2] [] cpos) pos) (tSt c G C W kp (.ins i e1 e2)) := by
  have st : starEach [x1, x2] X.env = [(false, eval x1 X.env), (false, eval x2 X.env)] := by rw [star_cons hs1, star_cons hs2]; rfl
  have rule := pe_bm (o := .Name y p) PySem.F.plainAttrs_list PySem.F.slot_list_insert PySem.F.type_list_insert (mt_insert (X := X)) (pe_slot g.toGx hy) (cpos := cpos) (apos := apos) (pa_cons he1 (pa_cons he2 pa_nil (star_cons hs2)) (star_cons hs1)) rfl (by rw [st]; rfl) hl (star_cons hs1) (by rw [star_cons hs2]; rfl)
  refine (ps_expr rule rfl).weaken fun D σ H hh => ?_
  obtain ⟨Fr, F, ρ, L, sr, kk⟩ := tSt_iff.mp hh
  simp only [evS] at kk
  obtain ⟨acc0, h0, kk⟩ := slotLst (Out c G W kp Fr F ρ σ D) kk (fun z => z)
  obtain ⟨a, vs0, q1, q2, _⟩ := sr.lstAt h0
  refine ⟨_, q1, .inl ⟨rfl, vs0, SqL.of q2⟩, tE.top sr ?_⟩
  cases h1 : evE C e1 ρ with
  | no => rw [h1] at kk; exact kk
  | ex x ρ' => rw [h1] at kk; exact fun cls d H' F' L' h1 le xr s' => kk cls d σ H' F' L' (.env h1 le) xr s'
  | ok s ρ' =>
    rw [h1] at kk
    dsimp only at kk ⊢
    intro v1 H1 F1 L1 l1 le1 s1
    have hl1 : σ.length = ρ'.length := by have := s1.len; simpa using this
    refine ⟨Fr, F1, ρ', [some s], [some v1], L1, s1, hl1.symm, ?_⟩
    cases h2 : evE C e2 ρ' with
    | no => rw [h2] at kk; exact kk
    | ex x ρ2 => rw [h2] at kk; exact fun cls d H' F' L' h1 le xr s' => kk cls d σ H' F' L' (.env (by omega) (le1.trans le)) xr s'
    | ok t ρ2 =>
      rw [h2] at kk
      dsimp only at kk ⊢
      intro v H2 F2 L2 l2 le2 s2
      obtain ⟨acc, h3, k2⟩ : ∃ acc, ρ2[i]? = some (some (.lst acc)) ∧ Out c G W kp Fr F ρ σ D (match asI s with
          | some n => if acc.length < sizeLine ∧ 0 ≤ n ∧ n < 2 ^ 63 then .nx (ρ2.set i (some (.lst (acc.take n.toNat ++ [t] ++ acc.drop n.toNat)))) else .no
          | none => .no) := by
        cases hsl : slot ρ2 i with
        | none => rw [hsl] at kk; exact kk.elim
        | some t0 =>
          rw [hsl] at kk
          cases t0 with
          | lst acc => exact ⟨acc, slot_get hsl, kk⟩
          | _ => exact kk.elim
      clear kk
      have hl2 : σ.length = ρ2.length := by have := s2.len; simpa using this
      have s2' : SR c G Fr F2 H2 ((ρ2 ++ [some s]) ++ [some t]) ((σ ++ [some v1]) ++ [some v]) L2 := by simpa using s2
      cases hs : asI s with
      | none => rw [hs] at k2; exact k2.elim
      | some n =>
        rw [hs] at k2
        dsimp only at k2
        have := asI_eq hs; subst this
        have hi : i < ρ2.length := (List.getElem?_eq_some_iff.mp h3).1
        obtain ⟨L2b, s2b, _⟩ := s2'.cut (by simp; omega)
        have := (s2b.lastV hl2).int
        subst this
        have h3' : (ρ2 ++ [some (tI n)])[i]? = some (some (.lst acc)) := by rw [List.getElem?_append_left hi]; exact h3
        obtain ⟨a', vs, q3, q4, q5, L3, s3⟩ := s2'.ins n.toNat (by simp; omega) h3'
        rw [List.getElem?_append_left (by omega), q1] at q3
        injection q3 with q3; injection q3 with q3; injection q3 with q3
        subst q3
        by_cases hz : acc.length < sizeLine ∧ 0 ≤ n ∧ n < 2 ^ 63
        · rw [if_pos hz] at k2
          rw [List.set_append_left _ _ hi] at s3
          obtain ⟨L4, s4, _⟩ := s3.cut (by simpa using hl2)
          exact ⟨a, vs, n, v, rfl, rfl, q4, by omega, hz.2.1, hz.2.2, k2 σ _ F2 L4 ⟨by simp; omega, rfl, le1.trans le2, fun _ _ => rfl⟩ s4⟩
        · rw [if_neg hz] at k2; exact k2.elim
theorem s_ext (g : Gz c sy X sc N wc C W) {i : Nat} {e : E} {y : Str} {ex : Expr} {p apos cpos pos : Pos} (hy : nameB sc N i y = true) (hs : noStar ex = true) (hl : (apos.endLine == cpos.line) = true) (he : PE X ex (tE c G C W e)) :
    PS X (.Expr (.Call (.Attribute (.Name y p) "extend" apos) [ex] [] cpos) pos) (tSt c G C W kp (.ext i e)) := by
  have rule : PE X (.Call (.Attribute (.Name y p) "extend" apos) [ex] [] cpos) (tBM X.K "list" rExtend (tVar i) (tCons (tE c G C W e) tNil)) :=
    pe_bm PySem.F.plainAttrs_list PySem.F.slot_list_extend PySem.F.type_list_extend mt_extend (pe_slot g.toGx hy) (pa_cons he pa_nil (star_cons hs)) rfl (by rw [star_cons hs]; rfl) hl (star_cons hs) rfl
  refine (ps_expr rule rfl).weaken fun D σ H hh => ?_
  obtain ⟨Fr, F, ρ, L, sr, kk⟩ := tSt_iff.mp hh
  simp only [evS] at kk
  obtain ⟨acc0, h0, kk⟩ := slotLst (Out c G W kp Fr F ρ σ D) kk (fun z => z)
  obtain ⟨a, vs0, q1, q2, _⟩ := sr.lstAt h0
  refine ⟨_, q1, .inl ⟨rfl, vs0, SqL.of q2⟩, tE.top sr ?_⟩
  cases h1 : evE C e ρ with
  | no => rw [h1] at kk; exact kk
  | ex x ρ' => rw [h1] at kk; exact fun cls d H' F' L' h1 le xr s' => kk cls d σ H' F' L' (.env h1 le) xr s'
  | ok t ρ' =>
    rw [h1] at kk
    dsimp only at kk ⊢
    intro v H' F' L' h2 le s'
    cases hsl : slot ρ' i with
    | none => rw [hsl] at kk; exact kk.elim
    | some t0 =>
      cases hf : frz t with
      | none => rw [hsl, hf] at kk; cases t0 <;> exact kk.elim
      | some d =>
        rw [hsl, hf] at kk
        have h3 := slot_get hsl
        cases t0 with
        | lst acc =>
          cases d with
          | lst ds =>
            dsimp only at kk
            have hl : σ.length = ρ'.length := by have := s'.len; simpa using this
            obtain ⟨F2, L2, le2, rd, s2⟩ := s'.frzLast hl hf
            have rd0 := rd
            simp only [R] at rd0
            obtain ⟨b, zs, rfl, hb, rl⟩ := rd0
            obtain ⟨a', vs, q3, q4, q5, L3, s3⟩ := s2.extend hl h3 rl
            rw [q1] at q3
            injection q3 with q3; injection q3 with q3; injection q3 with q3
            subst q3
            by_cases hz : acc.length + ds.length ≤ sizeLine
            · rw [if_pos hz] at kk
              exact ⟨a, b, vs, zs, rfl, rfl, q4, s2.le.ex hb rfl, by rw [q5, rl.length]; exact hz, kk σ _ F2 L3 ⟨by simp [h2], rfl, le.trans le2, fun _ _ => rfl⟩ s3⟩
            · rw [if_neg hz] at kk; exact kk.elim
          | _ => exact kk.elim
        | _ => exact kk.elim
theorem s_aug (g : Gz c sy X sc N wc C W) {i : Nat} {o : Op2} {op : Operator} {e : E} {x : Str} {ex : Expr} {p pos : Pos} (ho : o = .add ∨ o = .sub) (hop : binOf o = some op) (hN : N[i]? = some x) (hl : locB sc wc x = true) (he : PE X ex (tE c G C W e)) :
    PS X (.AugAssign (.Name x p) op ex pos) (tSt c G C W kp (.aug i o e)) := by
  have core : ∀ (f : Int → Int → Int), (∀ (a b : Int), augV o a b = some (f a b)) → ∀ {D σ H}, tSt c G C W kp (.aug i o e) D σ H → tAug i (tE c G C W e) (ipI f) D σ H := by
    intro f hf D σ H hh
    obtain ⟨Fr, F, ρ, L, sr, kk⟩ := tSt_iff.mp hh
    simp only [evS] at kk
    cases hs : slot ρ i with
    | none => rw [hs] at kk; exact kk.elim
    | some t0 =>
      rw [hs] at kk
      cases t0 with
      | sh d0 =>
        cases d0 with
        | int a =>
          dsimp only at kk
          obtain ⟨v0, hv, rv⟩ := sr.slotR (slot_get hs)
          simp only [R] at rv
          subst rv
          refine ⟨_, hv, tE.top sr ?_⟩
          cases h1 : evE C e ρ with
          | no => rw [h1] at kk; exact kk
          | ex x ρ' => rw [h1] at kk; exact fun cls d H' F' L' h1 le xr s' => kk cls d σ H' F' L' (.env h1 le) xr s'
          | ok t ρ' =>
            rw [h1] at kk
            dsimp only at kk ⊢
            intro v H' F' L' h2 le s'
            have hl : σ.length = ρ'.length := by have := s'.len; simpa using this
            cases hI : asI t with
            | none => rw [hI] at kk; exact kk.elim
            | some b =>
              rw [hI] at kk
              have := asI_eq hI
              subst this
              dsimp only at kk
              rw [hf] at kk
              dsimp only at kk
              have := (s'.lastV hl).int
              subst this
              refine ⟨a, b, rfl, rfl, ?_⟩
              obtain ⟨L2, s2, _⟩ := s'.cut hl
              unfold putS at kk
              cases hk : kp i with
              | true => rw [hk] at kk; exact kk.elim
              | false =>
                rw [hk, if_neg (by simp)] at kk
                by_cases hi : i < ρ'.length
                · rw [if_pos hi] at kk
                  obtain ⟨L3, s3, _⟩ := s2.put (i := i) (o := some (tI (f a b))) (u := some (.int (f a b))) hi (.inr ⟨_, _, rfl, rfl, by simp only [R]⟩)
                  refine kk _ H' F' L3 ⟨by simp [h2], by simp, le, fun j hj => ?_⟩ s3
                  rw [List.getElem?_set_ne (fun q => by rw [q, hj] at hk; cases hk)]
                · rw [if_neg hi] at kk; exact kk.elim
        | _ => exact kk.elim
      | _ => exact kk.elim
  rcases ho with rfl | rfl
  · simp only [binOf, Option.some.injEq] at hop
    subst hop
    exact (ps_aug (by rw [g.nn]; exact g.nd) (by rw [g.nn]; exact hN) (locOk g hl).1 he ip_add (locOk g hl).2).weaken fun D σ H hh => core _ (fun _ _ => rfl) hh
  · simp only [binOf, Option.some.injEq] at hop
    subst hop
    exact (ps_aug (by rw [g.nn]; exact g.nd) (by rw [g.nn]; exact hN) (locOk g hl).1 he ip_sub (locOk g hl).2).weaken fun D σ H hh => core _ (fun _ _ => rfl) hh
theorem s_setF (g : Gz c sy X sc N wc C W) {i : Nat} {f : Str} {ks : List Str} {e : E} {y : Str} {ex : Expr} {p p' pos : Pos} (hy : nameB sc N i y = true) (hk : ks.all (fun k => decide ((k, f) ∈ sy.toSx.fld)) = true) (hc : noComp ex = true) (he : PE X ex (tE c G C W e)) :
    PS X (.Assign [.Attribute (.Name y p) f p'] ex pos) (tSt c G C W kp (.setF i f ks e)) := (ps_fld (pe_slot g.toGx hy) he (noComp_sw hc)).weaken fun D σ H hh => by
  obtain ⟨Fr, F, ρ, L, sr, kk⟩ := tSt_iff.mp hh
  simp only [evS] at kk
  refine tE.top sr ?_
  cases h1 : evE C e ρ with
  | no => rw [h1] at kk; exact kk
  | ex x ρ' => rw [h1] at kk; exact fun cls d H' F' L' h1 le xr s' => kk cls d σ H' F' L' (.env h1 le) xr s'
  | ok t ρ' =>
    rw [h1] at kk
    dsimp only at kk ⊢
    intro v H' F' L' h2 le s'
    have hl : σ.length = ρ'.length := by have := s'.len; simpa using this
    cases hs : slot ρ' i with
    | none => rw [hs] at kk; exact kk.elim
    | some t0 =>
      rw [hs] at kk
      cases t0 with
      | obj k fs =>
        dsimp only at kk
        by_cases hz : fs.length < 1000 ∧ k ∈ ks
        · rw [if_pos hz] at kk
          obtain ⟨a, dx, vs, q1, q2, q3, L3, s3⟩ := s'.setF (f := f) hl (slot_get hs)
          have hm := List.all_eq_true.mp hk k hz.2
          obtain ⟨hcl, hna⟩ := g.fld (k, f) (of_decide_eq_true hm)
          exact ⟨_, q1, a, c.cl k, dx, vs, rfl, q2, hcl, hna, by omega, kk σ _ F' L3 ⟨by simp [h2], rfl, le, fun _ _ => rfl⟩ s3⟩
        · rw [if_neg hz] at kk; exact kk.elim
      | _ => exact kk.elim
/-- X() of an own class over ValueError -/
theorem pmk_own0 {Ca : Addr} {bmB : List Value} {B newId initId : String} {x : Str} {p pos : Pos} (F : ExcBaseFacts B newId initId bmB) (q : PySem.W.excIn X.K Ca bmB newId = true) (gC : X.mg x = some (.ref Ca)) (kC : PySem.W.keepIn X.K (.ref Ca) = true) (r : Raises X (.ref Ca)) (hg : Gl X x)
    (hdb : (x == ("__debug__" : Str)) = false) : PMk X (.Call (.Name x p) [] [] pos) (fun _ H Q => Q (.ref Ca) none H) := by
  intro pins s σ H Q I h
  refine wpAny_Call_Name_kw (ld_glob I hg gC ?_ hdb)
  refine PySem.W.callWith_K0 (first := []) I.kIn kC ?_
  obtain ⟨bm, N, nm, qn, bs, hdct, sn, sub, ab, col, dd, k0, k1, k2, k3, k5, mN, hC, hN, hni, T⟩ := exc_obj I.kIn q
  refine wpAny_call_exc_subT F T hC hN hni (fun h' e hm => ?_) (Nat.zero_le _)
  exact mk_of I hm r h (I.hok.gone hm.new)
theorem s_stop {st : Stmt} : PS X st (tSt c G C W kp .stop) := ⟨fun pins s σ H D I ⟨Fr, F, ρ, L, sr, k⟩ => by
  simp only [evS] at k⟩
theorem s_stops {ss : List Stmt} : PSs X ss (tSt c G C W kp .stop) := ⟨fun pins s σ H D I ⟨Fr, F, ρ, L, sr, k⟩ => by
  simp only [evS] at k⟩
theorem s_rse (g : Gz c sy X sc N wc C W) {x : Str} {p cpos pos : Pos} (hg : glB sc x = true) (hd : (x != ("__debug__" : Str)) = true) (hx : x ∈ sy.exc) : PS X (.Raise (some (.Call (.Name x p) [] [] cpos)) none pos) (tSt c G C W kp (.rse x)) := by
  have ec := g.exc x hx
  refine (ps_raise g.calm g.tk (pmk_own0 PySem.F.excBase_ValueError ec.ex ec.gx ec.kp (raises_own ec.sb ec.ty) (glB_ok g.toGx hg) (by simpa using hd))).weaken fun D σ H hh => ?_
  obtain ⟨Fr, F, ρ, L, sr, kk⟩ := tSt_iff.mp hh
  simp only [evS] at kk
  exact kk _ none σ H F L .refl ⟨rfl, .inl ⟨rfl, rfl⟩⟩ sr
/-! ### try .. except X: a suite of one plain statement -/
theorem lit_pe {X' : Cx} {d : D} {e : Expr} (h : litB d e = true) : ∃ v, PE X' e (tC v) ∧ ∀ F, R c F d v := by
  unfold litB at h
  split at h
  · exact ⟨_, pe_non, fun F => by simp only [R]⟩
  · rename_i b k _ _
    have : b = k := by simpa using h
    subst this
    exact ⟨_, pe_bl, fun F => by simp only [R]⟩
  · have := of_decide_eq_true h; subst this
    exact ⟨_, pe_int, fun F => by simp only [R]⟩
  · have := of_decide_eq_true h; subst this
    exact ⟨_, pe_str, fun F => by simp only [R]⟩
  · cases h
def litBs : List D → List Expr → Bool
  | [], [] => true
  | d :: ds, e :: es => litB d e && noStar e && litBs ds es
  | _, _ => false
theorem lits_pa {X' : Cx} : ∀ {ds : List D} {es : List Expr}, litBs ds es = true → ∃ vs, PA X' es (fun _ H Q => Q vs H) ∧ vs.length = ds.length ∧ ∀ F, RL c F ds vs
  | [], [], _ => ⟨[], pa_nil, rfl, fun F => by simp only [RL]⟩
  | d :: ds, e :: es, h => by
    simp only [litBs, Bool.and_eq_true] at h
    obtain ⟨⟨h1, h2⟩, h3⟩ := h
    obtain ⟨v, p1, r1⟩ := lit_pe (c := c) (X' := X') h1
    obtain ⟨vs, p2, l2, r2⟩ := lits_pa h3
    exact ⟨v :: vs, pa_cons p1 p2 (star_cons h2), by simp [l2], fun F => by simp only [RL]; exact ⟨v, vs, rfl, r1 F, r2 F⟩⟩
  | [], _ :: _, h => by cases h
  | _ :: _, [], h => by cases h
def chkHL : HL → Expr → Bool
  | .lit d, e => litB d e
  | .tup ds, .Tuple es _ _ => decide (ds.length ≤ 1000) && litBs ds es
  | .lst ds, .List es _ => decide (ds.length ≤ 1000) && litBs ds es
  | _, _ => false
theorem hl_pe {X' : Cx} {hl : HL} {e : Expr} (h : chkHL hl e = true) : ∃ t : TE, PE X' e t ∧ ∀ {G : Nat → Option Addr} {Fr F H : Hp} {ρ : Env1} {σ : L2.St} {L : List Addr} {Q : VK}, SR c G Fr F H ρ σ L →
    (∀ v H' L', SR c G Fr F H' (ρ ++ [some hl.t]) (σ ++ [some v]) L' → Q v H') → t σ H Q := by
  cases hl with
  | lit d =>
    obtain ⟨v, p, r⟩ := lit_pe (c := c) (X' := X') (d := d) (e := e) (by simpa only [chkHL] using h)
    exact ⟨_, p, fun s k => k v _ _ (s.snocF (r _))⟩
  | tup ds =>
    cases e <;> simp only [chkHL, Bool.and_eq_true, decide_eq_true_eq, reduceCtorEq, Bool.false_eq_true] at h
    obtain ⟨h1, h2⟩ := h
    obtain ⟨vs, p, l, r⟩ := lits_pa (c := c) (X' := X') h2
    refine ⟨_, pe_tup p, fun {G Fr F H ρ σ L Q} s k => ⟨by rw [l]; exact Nat.le_trans h1 (by unfold sizeLine; omega), fun q hq => ?_⟩⟩
    exact k _ _ _ (s.snocN (t := .tup (ds.map .sh)) hq (by simp only [RO]; exact ⟨q, vs, [], rfl, upd_same, ROL.ofRL (r _), rfl⟩))
  | lst ds =>
    cases e <;> simp only [chkHL, Bool.and_eq_true, decide_eq_true_eq, reduceCtorEq, Bool.false_eq_true] at h
    obtain ⟨h1, h2⟩ := h
    obtain ⟨vs, p, l, r⟩ := lits_pa (c := c) (X' := X') h2
    refine ⟨_, pe_lst p, fun {G Fr F H ρ σ L Q} s k => ⟨by rw [l]; exact Nat.le_trans h1 (by unfold sizeLine; omega), fun q hq => ?_⟩⟩
    exact k _ _ _ (s.snocN (t := .lst (ds.map .sh)) hq (by simp only [RO]; exact ⟨q, vs, [], rfl, upd_same, ROL.ofRL (r _), rfl⟩))
def chkHS (N : List Str) (sc : Scope) (wc : List Str) : HS → Stmt → Bool
  | .ret h, .Return (some e) _ => chkHL h e
  | .asg i h, .Assign [.Name x _] e _ => decide (N[i]? = some x) && locB sc wc x && noComp e && chkHL h e
  | .pass, .Pass _ => true
  | _, _ => false
theorem hs_ps (g : Gz c sy X sc N wc C W) {A : Around} {pn : List (Addr × Obj)} {xe : Value → Shared → Prop} {h : HS} {st : Stmt} (hc : chkHS N sc wc h st = true) : ∃ t : TS, PS { X with A := A, calm := false, pn := pn, xe := xe } st t ∧
    ∀ {G : Nat → Option Addr} {Fr F H : Hp} {ρ : Env1} {σ : L2.St} {L : List Addr} {D : Ends} {W : WX}, SR c G Fr F H ρ σ L → Out c G W kp Fr F ρ σ D (runHS kp h ρ) → t D σ H := by
  cases h with
  | ret hl =>
    cases st <;> simp only [chkHS, Bool.false_eq_true] at hc
    rename_i o pos
    cases o with
    | none => simp only [chkHS, Bool.false_eq_true] at hc
    | some e =>
      simp only [chkHS] at hc
      obtain ⟨t, p, k⟩ := hl_pe (c := c) (X' := { X with A := A, calm := false, pn := pn, xe := xe }) hc
      exact ⟨_, ps_ret p, fun {G Fr F H ρ σ L D W} s o => k s fun v H' L' s' => o v σ H' F L' .refl s'⟩
  | asg i hl =>
    obtain ⟨x, px, e, pos, est, hc2⟩ : ∃ x px e pos, st = .Assign [.Name x px] e pos ∧ (decide (N[i]? = some x) && locB sc wc x && noComp e && chkHL hl e) = true := by
      unfold chkHS at hc
      split at hc
      · rename_i e1; cases e1
      · rename_i e1
        injection e1 with e1 e2
        subst e1 e2
        exact ⟨_, _, _, _, rfl, hc⟩
      · rename_i e1; cases e1
      · cases hc
    · subst est
      clear hc
      simp only [Bool.and_eq_true, decide_eq_true_eq] at hc2
      obtain ⟨⟨⟨h1, h2⟩, h3⟩, h4⟩ := hc2
      obtain ⟨t, p, k⟩ := hl_pe (c := c) (X' := { X with A := A, calm := false, pn := pn, xe := xe }) h4
      refine ⟨_, ps_set (X := { X with A := A, calm := false, pn := pn, xe := xe }) (i := i) (by show X.N.Nodup; rw [g.nn]; exact g.nd) (by show X.N[i]? = _; rw [g.nn]; exact h1) (locOk g h2).1 p (noComp_sw h3) (locOk g h2).2, fun {G Fr F H ρ σ L D W} s o => k s fun v H' L' s' => ?_⟩
      show D.nx (σ.set i (some v)) H'
      simp only [runHS] at o
      unfold putS at o
      cases hk : kp i with
      | true => rw [hk] at o; exact o.elim
      | false =>
        rw [hk, if_neg (by simp)] at o
        by_cases hi : i < ρ.length
        · rw [if_pos hi] at o
          obtain ⟨L2, s2⟩ := s'.store hi
          refine o _ H' F L2 ⟨by simp, by simp, .refl, fun j hj => ?_⟩ s2
          rw [List.getElem?_set_ne fun q => by rw [q, hj] at hk; cases hk]
        · rw [if_neg hi] at o; exact o.elim
  | pass =>
    cases st <;> simp only [chkHS, Bool.false_eq_true] at hc
    exact ⟨_, ps_pass, fun {G Fr F H ρ σ L D W} s o => o σ H F L .refl s⟩
def Gs.tr (g : Gs c sy X sc N wc C W) {W' : WX} {pn : List (Addr × Obj)} {xe : Value → Shared → Prop} (tk : Takes (X.tr pn xe) W') (po : PassesOwn (model X.prog X.w) X.A X.env xe) : Gs c sy (X.tr pn xe) sc N wc C W' :=
  { kk := g.kk, scp := g.scp, nn := g.nn, nd := g.nd, calm := g.calm, units := g.units, blt := g.blt, glo := g.glo, fld := g.fld, tab := g.tab, k := g.k, room := g.room, tk := tk, exc := g.exc, exm := g.exm, fns := fun p hp => by obtain ⟨a, fi, h1, h2⟩ := g.fns p hp; exact ⟨a, ⟨fi.ok, fi.kp⟩, h1, h2⟩
    wcs := g.wcs, po := po, stk := g.stk, frm := g.frm }
theorem Out.tr {ρ r1 : Env1} {σ σ' : L2.St} {D : Ends} {f : Fl} (sd : Sd kp ρ r1 σ σ' F F') (k : Out c G W kp Fr F ρ σ D f) : Out c G W kp Fr F' r1 σ' D f := by
  cases f with
  | nx r => exact fun σ2 H2 F2 L2 s2 => k σ2 H2 F2 L2 (sd.trans s2)
  | rt t r => exact fun v σ2 H2 F2 L2 s2 => k v σ2 H2 F2 L2 (sd.trans s2)
  | bk r => exact fun σ2 H2 F2 L2 s2 => k σ2 H2 F2 L2 (sd.trans s2)
  | ct r => exact fun σ2 H2 F2 L2 s2 => k σ2 H2 F2 L2 (sd.trans s2)
  | ex x r => exact fun cls d σ2 H2 F2 L2 s2 => k cls d σ2 H2 F2 L2 (sd.trans s2)
  | no => exact k
theorem s_try (g : Gs c sy X sc N wc C W) {b : S} {x : Str} {yes no : List Str} {h : HS} {body : List Stmt} {st : Stmt} {np pos' pos : Pos} (hg : glB sc x = true) (hd : (x != ("__debug__" : Str)) = true) (hx : x ∈ sy.exc)
    (hy : ∀ y ∈ yes, (y, x, true) ∈ sy.exm) (hn : ∀ y ∈ no, (y, x, false) ∈ sy.exm) (hs : chkHS N sc wc h st = true)
    (hb : ∀ (W' : WX) (pn : List (Addr × Obj)) (xe : Value → Shared → Prop), Gs c sy (X.tr pn xe) sc N wc C W' → PSs (X.tr pn xe) body (tSt c G C W' kp b)) :
    PS X (.Try body [.ExceptHandler (some (.Name x np)) none [st] pos'] [] [] pos) (tSt c G C W kp (.tryX b x yes no h)) := by
  have ec := g.exc x hx
  refine (ps_try_only g.stk g.frm ⟨glB_ok g.toGx hg, by simpa using hd, .inl ec.gx⟩ g.tk (tb := fun W' => tSt c G C W' kp b)
    (ts := fun _ _ _ D σ H => ∃ (Fr F : Hp) (ρ : Env1) (L : List Addr), SR c G Fr F H ρ σ L ∧ Out c G W kp Fr F ρ σ D (runHS kp h ρ))
    (fun W' pn xe tk po => hb W' pn xe (g.tr tk po)) (fun a oe cls d pn _ _ => ?_)).weaken fun D σ H hh => ?_
  · obtain ⟨t, p, k⟩ := hs_ps (kp := kp) (c := c) g.toGz (A := X.A.mark (some (.ref a))) (pn := (a, oe) :: pn) (xe := fun _ _ => False) hs
    exact pss_one (p.weaken fun D σ H ⟨Fr, F, ρ, L, s, o⟩ => k s o)
  · obtain ⟨Fr, F, ρ, L, sr, kk⟩ := tSt_iff.mp hh
    refine tSt_iff.mpr ⟨Fr, F, ρ, L, sr, ?_⟩
    simp only [evS] at kk
    cases hbb : evS C kp b ρ with
    | nx r => rw [hbb] at kk; exact kk
    | rt t r => rw [hbb] at kk; exact kk
    | bk r => rw [hbb] at kk; exact kk
    | ct r => rw [hbb] at kk; exact kk
    | no => rw [hbb] at kk; exact kk
    | ex e r1 =>
      rw [hbb] at kk
      dsimp only at kk
      intro cls d σ' H' F' L' sd xr s'
      have ecls : cls = .ref (c.cl e.cls) := xr.1
      by_cases hy1 : e.cls ∈ yes
      · rw [if_pos hy1] at kk
        exact ⟨true, by rw [ecls]; exact g.exm _ (hy _ hy1), fun _ a ha => ⟨Fr, F', r1, L', s', Out.tr sd kk⟩, fun z => by cases z⟩
      · rw [if_neg hy1] at kk
        by_cases hn1 : e.cls ∈ no
        · rw [if_pos hn1] at kk
          exact ⟨false, by rw [ecls]; exact g.exm _ (hn _ hn1), fun z => (by cases z), fun _ => kk cls d σ' H' F' L' sd xr s'⟩
        · rw [if_neg hn1] at kk; exact kk.elim
end MP
/-! MP27: the checker of statements, its truth. -/
namespace MP
open PySem PySem.Spec PyProof.Rows L2
variable {c : Cv} {sy : Sy} {X : Cx} {sc : Scope} {N : List Str} {wc : List Str} {C : Ct} {W : WX} {G : Nat → Option Addr} {Fr F F' H H' : Hp} {kp : Nat → Bool}
/-- what a comprehension stored in a name asks: not stored within -/
def noSw (sc : Scope) (y : Str) (py : Pos) : Expr → Bool
  | .ListComp _ _ scope pos => decide (sc.names.lookup y ≠ some .local) || !(py.line == pos.line) || (scope.names.any fun (n, k) => n == y && (k == .local || k == .cell))
  | e => noComp e
theorem noSw_ok {y : Str} {py : Pos} {e : Expr} {l : Nat} {env : PySem.Env} (he : env.scope = sc) (h : noSw sc y py e = true) : swapsWith e (some (.Name y py)) l env = pure false := by
  subst he
  cases e <;> first | rfl | (cases h; done) | skip
  rename_i elt gs scope pos
  unfold noSw at h
  unfold swapsWith
  show (pure (env.blockKind == .function && env.kindOf y == some .local && py.line == pos.line && !(scope.names.any fun (n, k) => n == y && (k == .local || k == .cell))) : Sem Bool) = pure false
  congr 1
  simp only [Bool.or_eq_true, decide_eq_true_eq, Bool.not_eq_true'] at h
  rcases h with (h | h) | h
  · have : (env.kindOf y == some NameKind.local) = false := by
      show (env.scope.names.lookup y == some NameKind.local) = false
      cases e : env.scope.names.lookup y with
      | none => rfl
      | some k => cases k <;> first | rfl | exact absurd e h
    rw [this]; simp
  · rw [h]; simp
  · rw [h]; simp
theorem s_asg' (g : Gz c sy X sc N wc C W) {i : Nat} {x : Str} {e : E} {ex : Expr} {p pos : Pos} (hN : N[i]? = some x) (hl : locB sc wc x = true) (hc : noSw sc x p ex = true) (he : chkE sy N sc wc e ex = true) : PS X (.Assign [.Name x p] ex pos) (tSt c G C W kp (.asg i e)) :=
  (ps_set (by rw [g.nn]; exact g.nd) (by rw [g.nn]; exact hN) (locOk g hl).1 (okE e g he) (noSw_ok g.scp hc) (locOk g hl).2).weaken fun D σ H h => set_core (fun h => h) h
def someCell (sc : Scope) : Expr → Bool
  | .Tuple ts _ _ => ts.any fun
    | .Name x _ => decide (sc.names.lookup x ≠ some .local)
    | _ => false
  | _ => false
theorem fm_lt {α β : Type} {f : α → Option β} : ∀ {l : List α}, (∃ a ∈ l, f a = none) → (l.filterMap f).length < l.length
  | [], ⟨a, h, _⟩ => by cases h
  | b :: l, ⟨a, h, e⟩ => by
    have le := List.length_filterMap_le f l
    rw [List.filterMap_cons]
    cases hb : f b with
    | none => simp only [List.length_cons]; omega
    | some y =>
      rcases List.mem_cons.mp h with rfl | h
      · rw [e] at hb; cases hb
      · have := fm_lt ⟨a, h, e⟩
        simp only [List.length_cons]; omega
theorem someCell_ok {t e : Expr} {env : PySem.Env} (he : env.scope = sc) (h : someCell sc t = true) : swappedStores [t] e env = pure none := by
  subst he
  unfold someCell at h
  split at h
  · rename_i ts k pos
    rw [List.any_eq_true] at h
    obtain ⟨a, ha, h⟩ := h
    split at h
    · rename_i x p
      have hx : (env.kindOf x == some NameKind.local) = false := by
        have h := of_decide_eq_true h
        show (env.scope.names.lookup x == some NameKind.local) = false
        cases e : env.scope.names.lookup x with
        | none => rfl
        | some k => cases k <;> first | rfl | exact absurd e h
      cases e <;> first | rfl | skip
      rename_i vs k2 pos2
      unfold swappedStores
      dsimp only
      split
      · rfl
      · split
        · rfl
        · rw [if_pos]
          rw [Bool.or_eq_true]
          refine .inl ?_
          rw [bne_iff_ne]
          refine Nat.ne_of_lt (fm_lt ⟨_, ha, ?_⟩)
          simp [hx]
    · cases h
  · cases h
def noParS (sc : Scope) (t e : Expr) : Bool := noPar t e || someCell sc t
theorem noParS_ok {t e : Expr} {env : PySem.Env} (he : env.scope = sc) (h : noParS sc t e = true) : swappedStores [t] e env = pure none := by
  unfold noParS at h
  rw [Bool.or_eq_true] at h
  rcases h with h | h
  · exact noPar_ok h
  · exact someCell_ok he h
def skipSh : Stmt → Bool
  | .Pass _ => true
  | .Expr (.Constant (.str _) _ _) _ => true
  | _ => false
def appSh (m : Str) (sc : Scope) (N : List Str) (i : Nat) : Stmt → Option Expr
  | .Expr (.Call (.Attribute (.Name y _) m' apos) [ex] [] cpos) _ => if m' = m ∧ nameB sc N i y = true ∧ noStar ex = true ∧ (apos.endLine == cpos.line) = true then some ex else none
  | _ => none
def insSh (sc : Scope) (N : List Str) (i : Nat) : Stmt → Option (Expr × Expr)
  | .Expr (.Call (.Attribute (.Name y _) m apos) [x1, x2] [] cpos) _ => if m = "insert" ∧ nameB sc N i y = true ∧ noStar x1 = true ∧ noStar x2 = true ∧ (apos.endLine == cpos.line) = true then some (x1, x2) else none
  | _ => none
mutual
def chkS (sy : Sy) (N : List Str) (sc : Scope) (wc : List Str) : S → Stmt → Bool
  | .skip, st => skipSh st
  | .asg i e, st => match st with
    | .Assign [.Name x p] ex _ => decide (N[i]? = some x) && chkE sy N sc wc e ex && ((locB sc wc x && noSw sc x p ex) || (isLc e && lcSw sc x p ex))
    | _ => false
  | .unp t e, st => match st with
    | .Assign [tg] ex _ => isTup tg && noParS sc tg ex && noComp ex && chkT sc N wc t tg && chkE sy N sc wc e ex
    | _ => false
  | .par2 i j a b, st => match st with
    | .Assign [.Tuple [.Name x px, .Name y py] _ _] (.Tuple [ea, eb] _ _) _ => decide (N[i]? = some x) && decide (N[j]? = some y) && parOk sc x y px py ea eb && notBor a && notBor b && chkE sy N sc wc a ea && chkE sy N sc wc b eb
    | _ => false
  | .setI i k e, st => match st with
    | .Assign [.Subscript (.Name y _) ix _] ex _ => nameB sc N i y && chkP sy.toSx sc N k ix && noSlice ix && noComp ex && chkE sy N sc wc e ex
    | _ => false
  | .app i e, st => match appSh "append" sc N i st with
    | some ex => chkE sy N sc wc e ex
    | none => false
  | .ext i e, st => match appSh "extend" sc N i st with
    | some ex => chkE sy N sc wc e ex
    | none => false
  | .setE i k e, st => match st with
    | .Assign [.Subscript (.Name y _) ix _] ex _ => nameB sc N i y && chkE sy N sc wc k ix && noSlice ix && noComp ex && chkE sy N sc wc e ex
    | _ => false
  | .setP i j k e, st => match st with
    | .Assign [.Subscript (.Subscript (.Name y _) (.Constant (.int n) _ _) _) ix _] ex _ => decide (n = (j : Int)) && nameB sc N i y && chkP sy.toSx sc N k ix && noSlice ix && noComp ex && chkE sy N sc wc e ex
    | _ => false
  | .ins i a e, st => match insSh sc N i st with
    | some (x1, x2) => chkE sy N sc wc a x1 && chkE sy N sc wc e x2
    | none => false
  | .aug i o e, st => match st with
    | .AugAssign (.Name x _) op ex _ => decide (o = .add ∨ o = .sub) && decide (binOf o = some op) && decide (N[i]? = some x) && locB sc wc x && chkE sy N sc wc e ex
    | _ => false
  | .ite t a b, st => match st with
    | .If ex xs ys _ => chkB sy N sc wc t ex && chkSs sy N sc wc a xs && chkSs sy N sc wc b ys
    | _ => false
  | .ret e, st => match st with
    | .Return (some ex) _ => chkE sy N sc wc e ex
    | _ => false
  | .retN, st => match st with
    | .Return none _ => true
    | _ => false
  | .ex e, st => match st with
    | .Expr ex _ => noComp ex && chkE sy N sc wc e ex
    | _ => false
  | .for t it b, st => match st with
    | .For tg iter body [] _ => chkT sc N wc t tg && chkI sy N sc wc it tg iter && noSetI iter && chkSs sy N sc wc b body
    | _ => false
  | .brk, st => match st with
    | .Break _ => true
    | _ => false
  | .cnt, st => match st with
    | .Continue _ => true
    | _ => false
  | .setF i f ks e, st => match st with
    | .Assign [.Attribute (.Name y _) f' _] ex _ => decide (f' = f) && nameB sc N i y && ks.all (fun k => decide ((k, f) ∈ sy.toSx.fld)) && noComp ex && chkE sy N sc wc e ex
    | _ => false
  | .stop, _ => true
  | .rse x, st => match st with
    | .Raise (some (.Call (.Name y _) [] [] _)) none _ => decide (y = x) && glB sc x && (x != "__debug__") && decide (x ∈ sy.exc)
    | _ => false
  | .tryX b x yes no h, st => match st with
    | .Try body [.ExceptHandler (some (.Name y _)) none [st1] _] [] [] _ => decide (y = x) && glB sc x && (x != "__debug__") && decide (x ∈ sy.exc) && yes.all (fun z => decide ((z, x, true) ∈ sy.exm)) && no.all (fun z => decide ((z, x, false) ∈ sy.exm)) && chkHS N sc wc h st1 && chkSs sy N sc wc b body
    | _ => false
  | .seq _ _, _ => false
def chkSs (sy : Sy) (N : List Str) (sc : Scope) (wc : List Str) : S → List Stmt → Bool
  | .skip, ss => ss.isEmpty
  | .seq a b, ss => match ss with
    | st :: rest => chkS sy N sc wc a st && chkSs sy N sc wc b rest
    | [] => false
  | .stop, _ => true
  | _, _ => false
end
theorem appSh_ok {m : Str} {i : Nat} {st : Stmt} {ex : Expr} (h : appSh m sc N i st = some ex) : ∃ y p apos cpos pos, st = .Expr (.Call (.Attribute (.Name y p) m apos) [ex] [] cpos) pos ∧ nameB sc N i y = true ∧ noStar ex = true ∧ (apos.endLine == cpos.line) = true := by
  unfold appSh at h
  split at h
  · split at h
    · rename_i z
      injection h with h
      subst h
      obtain ⟨rfl, h1, h2, h3⟩ := z
      exact ⟨_, _, _, _, _, rfl, h1, h2, h3⟩
    · cases h
  · cases h
theorem insSh_ok {i : Nat} {st : Stmt} {x1 x2 : Expr} (h : insSh sc N i st = some (x1, x2)) : ∃ y p apos cpos pos, st = .Expr (.Call (.Attribute (.Name y p) "insert" apos) [x1, x2] [] cpos) pos ∧ nameB sc N i y = true ∧ noStar x1 = true ∧ noStar x2 = true ∧ (apos.endLine == cpos.line) = true := by
  unfold insSh at h
  split at h
  · split at h
    · rename_i z
      injection h with h
      injection h with e1 e2
      subst e1 e2
      obtain ⟨rfl, h1, h2, h3, h4⟩ := z
      exact ⟨_, _, _, _, _, rfl, h1, h2, h3, h4⟩
    · cases h
  · cases h
theorem skipSh_ok {st : Stmt} (h : skipSh st = true) : PS X st (tSt c G C W kp .skip) := by
  unfold skipSh at h
  split at h
  · exact s_pass
  · exact s_doc
  · cases h
mutual
theorem okS {X : Cx} {W : WX} (g : Gs c sy X sc N wc C W) : ∀ (a : S) {st : Stmt} (h : chkS sy N sc wc a st = true), PS X st (tSt c G C W kp a)
  | .skip, st, h => by
    simp only [chkS] at h
    exact skipSh_ok h
  | .seq _ _, st, h => by simp only [chkS] at h; cases h
  | .asg i e, st, h => by
    simp only [chkS] at h
    split at h
    · simp only [Bool.and_eq_true, Bool.or_eq_true, decide_eq_true_eq] at h
      obtain ⟨⟨h1, h2⟩, h3 | h3⟩ := h
      · exact s_asg' g.toGz h1 h3.1 h3.2 h2
      · exact s_asgLc g.toGz h3.1 h1 h3.2 h2
    · cases h
  | .unp t e, st, h => by
    simp only [chkS] at h
    split at h
    · simp only [Bool.and_eq_true] at h
      obtain ⟨⟨⟨⟨h1, h2⟩, h3⟩, h4⟩, h5⟩ := h
      exact s_unp g.toGz h1 (noParS_ok g.scp h2) h3 h4 (okE e g.toGz h5)
    · cases h
  | .par2 i j a b, st, h => by
    simp only [chkS] at h
    split at h
    · simp only [Bool.and_eq_true, decide_eq_true_eq] at h
      obtain ⟨⟨⟨⟨⟨⟨h1, h2⟩, h3⟩, h4⟩, h5⟩, h6⟩, h7⟩ := h
      exact s_par2 g.toGz h1 h2 h3 h4 h5 (okE a g.toGz h6) (okE b g.toGz h7)
    · cases h
  | .setI i k e, st, h => by
    simp only [chkS] at h
    split at h
    · simp only [Bool.and_eq_true] at h
      obtain ⟨⟨⟨⟨h1, h2⟩, h3⟩, h4⟩, h5⟩ := h
      exact s_setI g.toGz h1 h2 h3 h4 (okE e g.toGz h5)
    · cases h
  | .app i e, st, h => by
    simp only [chkS] at h
    split at h
    · rename_i ex hs
      obtain ⟨y, p, apos, cpos, pos, rfl, h1, h2, h3⟩ := appSh_ok hs
      exact s_app g.toGz h1 h2 h3 (okE e g.toGz h)
    · cases h
  | .ext i e, st, h => by
    simp only [chkS] at h
    split at h
    · rename_i ex hs
      obtain ⟨y, p, apos, cpos, pos, rfl, h1, h2, h3⟩ := appSh_ok hs
      exact s_ext g.toGz h1 h2 h3 (okE e g.toGz h)
    · cases h
  | .setE i k e, st, h => by
    simp only [chkS] at h
    split at h
    · simp only [Bool.and_eq_true] at h
      obtain ⟨⟨⟨⟨h1, h2⟩, h3⟩, h4⟩, h5⟩ := h
      exact s_setE g.toGz h1 (okE k g.toGz h2) h3 h4 (okE e g.toGz h5)
    · cases h
  | .setP i j k e, st, h => by
    simp only [chkS] at h
    split at h
    · simp only [Bool.and_eq_true, decide_eq_true_eq] at h
      obtain ⟨⟨⟨⟨⟨rfl, h1⟩, h2⟩, h3⟩, h4⟩, h5⟩ := h
      exact s_setP g.toGz h1 h2 h3 h4 (okE e g.toGz h5)
    · cases h
  | .ins i a e, st, h => by
    simp only [chkS] at h
    split at h
    · rename_i x1 x2 hs
      simp only [Bool.and_eq_true] at h
      obtain ⟨y, p, apos, cpos, pos, rfl, h1, h2, h3, h4⟩ := insSh_ok hs
      exact s_ins g.toGz h1 h2 h3 h4 (okE a g.toGz h.1) (okE e g.toGz h.2)
    · cases h
  | .aug i o e, st, h => by
    simp only [chkS] at h
    split at h
    · simp only [Bool.and_eq_true, decide_eq_true_eq] at h
      obtain ⟨⟨⟨⟨h1, h2⟩, h3⟩, h4⟩, h5⟩ := h
      exact s_aug g.toGz h1 h2 h3 h4 (okE e g.toGz h5)
    · cases h
  | .ite t a b, st, h => by
    simp only [chkS] at h
    split at h
    · simp only [Bool.and_eq_true] at h
      exact s_ite (okB t g.toGz h.1.1).1 (okSs g a h.1.2) (okSs g b h.2)
    · cases h
  | .ret e, st, h => by
    simp only [chkS] at h
    split at h
    · exact s_ret (okE e g.toGz h)
    · cases h
  | .retN, st, h => by
    simp only [chkS] at h
    split at h
    · exact s_retN
    · cases h
  | .ex e, st, h => by
    simp only [chkS] at h
    split at h
    · rw [Bool.and_eq_true] at h
      exact s_ex h.1 (okE e g.toGz h.2)
    · cases h
  | .for t it b, st, h => by
    simp only [chkS] at h
    split at h
    · simp only [Bool.and_eq_true] at h
      obtain ⟨⟨⟨h1, h2⟩, h3⟩, h4⟩ := h
      exact s_for g h1 (okI it g.toGz h2) (okSs g b h4) h3
    · cases h
  | .brk, st, h => by
    simp only [chkS] at h
    split at h
    · exact s_brk
    · cases h
  | .cnt, st, h => by
    simp only [chkS] at h
    split at h
    · exact s_cnt
    · cases h
  | .setF i f ks e, st, h => by
    simp only [chkS] at h
    split at h
    · simp only [Bool.and_eq_true, decide_eq_true_eq] at h
      obtain ⟨⟨⟨⟨h1, h2⟩, h3⟩, h4⟩, h5⟩ := h
      subst h1
      exact s_setF g.toGz h2 h3 h4 (okE e g.toGz h5)
    · cases h
  | .tryX b x yes no hs, st, h => by
    simp only [chkS] at h
    split at h
    · simp only [Bool.and_eq_true, decide_eq_true_eq, List.all_eq_true] at h
      obtain ⟨⟨⟨⟨⟨⟨⟨rfl, h2⟩, h3⟩, h4⟩, h5⟩, h6⟩, h7⟩, h8⟩ := h
      exact s_try g h2 h3 h4 h5 h6 h7 fun W' pn xe g' => okSs g' b h8
    · cases h
  | .stop, st, h => s_stop
  | .rse x, st, h => by
    simp only [chkS] at h
    split at h
    · simp only [Bool.and_eq_true, decide_eq_true_eq] at h
      obtain ⟨⟨⟨rfl, h2⟩, h3⟩, h4⟩ := h
      exact s_rse g.toGz h2 h3 h4
    · cases h
theorem okSs {X : Cx} {W : WX} (g : Gs c sy X sc N wc C W) : ∀ (a : S) {ss : List Stmt} (h : chkSs sy N sc wc a ss = true), PSs X ss (tSt c G C W kp a)
  | .skip, ss, h => by
    simp only [chkSs] at h
    have : ss = [] := by simpa using h
    subst this
    exact s_skip
  | .seq a b, ss, h => by
    simp only [chkSs] at h
    split at h
    · rw [Bool.and_eq_true] at h
      exact s_seq (okS g a h.1) (okSs g b h.2)
    · cases h
  | .asg _ _, _, h => by simp only [chkSs] at h; cases h
  | .unp _ _, _, h => by simp only [chkSs] at h; cases h
  | .par2 _ _ _ _, _, h => by simp only [chkSs] at h; cases h
  | .setI _ _ _, _, h => by simp only [chkSs] at h; cases h
  | .app _ _, _, h => by simp only [chkSs] at h; cases h
  | .ins _ _ _, _, h => by simp only [chkSs] at h; cases h
  | .setE _ _ _, _, h => by simp only [chkSs] at h; cases h
  | .setP _ _ _ _, _, h => by simp only [chkSs] at h; cases h
  | .ext _ _, _, h => by simp only [chkSs] at h; cases h
  | .aug _ _ _, _, h => by simp only [chkSs] at h; cases h
  | .ite _ _ _, _, h => by simp only [chkSs] at h; cases h
  | .ret _, _, h => by simp only [chkSs] at h; cases h
  | .retN, _, h => by simp only [chkSs] at h; cases h
  | .ex _, _, h => by simp only [chkSs] at h; cases h
  | .for _ _ _, _, h => by simp only [chkSs] at h; cases h
  | .brk, _, h => by simp only [chkSs] at h; cases h
  | .cnt, _, h => by simp only [chkSs] at h; cases h
  | .setF _ _ _ _, _, h => by simp only [chkSs] at h; cases h
  | .tryX _ _ _ _ _, _, h => by simp only [chkSs] at h; cases h
  | .stop, _, h => s_stops
  | .rse _, _, h => by simp only [chkSs] at h; cases h
end
end MP
/-! MP28: functions. -/
namespace MP
open PySem PySem.Spec PyProof.Rows L2
variable {c : Cv} {sy : Sy} {G : Nat → Option Addr} {Fr F F' H H' : Hp}
theorem RSl.nones : ∀ {m : Nat}, RSl c G F H (List.replicate m none) (List.replicate m none) []
  | 0 => ⟨rfl, rfl⟩
  | m + 1 => ⟨none, List.replicate m none, [], [], rfl, rfl, rfl, RSl.nones⟩
theorem SR.nones {ρ : List (Option T)} {us : List (Option V)} {L : List Addr} {m : Nat} (s : SR c G Fr F H ρ us L) : SR c G Fr F H (ρ ++ List.replicate m none) (us ++ List.replicate m none) L := by
  have z := s.sl.app (RSl.nones (c := c) (G := G) (F := F) (H := H) (m := m))
  rw [List.append_nil] at z
  exact ⟨z, s.nd, s.ap, s.le, s.fr, s.gf, s.ff⟩
theorem finOf_len : ∀ {ks : List Bool} {r : Env1}, ks.length ≤ r.length → (finOf ks r).length = ks.length
  | [], r, _ => by cases r <;> rfl
  | b :: ks, [], h => by simp at h
  | true :: ks, o :: r, h => by simp only [finOf, List.length_cons]; rw [finOf_len (by simpa using h)]
  | false :: ks, o :: r, h => by simp only [finOf, List.length_cons]; rw [finOf_len (by simpa using h)]
theorem RSl.fin : ∀ {ks : List Bool} {r : Env1} {us : List (Option V)} {vs : List V} {L : List Addr}, RSl c G F H r us L → ks.length = vs.length → ks.length ≤ r.length → (∀ i, ks.getD i false = true → us[i]? = (vs[i]?).map some) → ∃ L', RSl c G F H (finOf ks r) (vs.map some) L' ∧ L'.Sublist L
  | [], r, us, vs, L, h, h1, _, _ => by
    cases vs with
    | nil => exact ⟨[], by cases r <;> exact ⟨rfl, rfl⟩, List.nil_sublist _⟩
    | cons _ _ => cases h1
  | b :: ks, [], _, _, _, _, _, h2, _ => by simp at h2
  | b :: ks, o :: r, us, vs, L, ⟨u, w, L1, L2, e, q, x, y⟩, h1, h2, h3 => by
    subst e q
    cases vs with
    | nil => cases h1
    | cons v vs =>
      obtain ⟨L', z, sub⟩ := RSl.fin (ks := ks) (vs := vs) y (by simpa using h1) (by simpa using h2) fun i hi => by
        have := h3 (i + 1) (by simpa using hi)
        simpa using this
      cases b with
      | true =>
        have h0 := h3 0 rfl
        simp at h0
        subst h0
        exact ⟨L1 ++ L', ⟨some v, vs.map some, L1, L', rfl, rfl, x, z⟩, (List.Sublist.refl L1).append sub⟩
      | false => exact ⟨L', ⟨some v, vs.map some, [], L', rfl, rfl, rfl, z⟩, sub.trans (List.sublist_append_right _ _)⟩
theorem SR.fin {ks : List Bool} {r B : Env1} {us ub : List (Option V)} {vs : List V} {L : List Addr} (s : SR c G Fr F H (r ++ B) (us ++ ub) L) (hl : us.length = r.length) (h1 : ks.length = vs.length) (h2 : ks.length ≤ r.length) (h3 : ∀ i, ks.getD i false = true → us[i]? = (vs[i]?).map some) :
    ∃ L', SR c G Fr F H (finOf ks r ++ B) (vs.map some ++ ub) L' := by
  obtain ⟨L1, L2, rfl, x, y⟩ := RSl.split hl s.sl
  obtain ⟨L1', z, sub⟩ := x.fin h1 h2 h3
  have sub2 : (L1' ++ L2).Sublist (L1 ++ L2) := sub.append (List.Sublist.refl _)
  exact ⟨L1' ++ L2, z.app y, s.nd.sublist sub2, fun a ha => s.ap a (sub2.subset ha), s.le, s.fr, s.gf, s.ff⟩
section
variable {P : Program} {w : World} {K : PySem.W.Frag} {mg : Str → Option Value} {base : Heap} {Q : Fk → Option Fn}
/-- what a def is, as it stands -/
structure St (c : Cv) (sy : Sy) (K : PySem.W.Frag) (Q : Fk → Option Fn) (p : Fk × Nat × List D) (a : Addr) (fd : FuncData) (ps : List Str) : Prop where
  ex : ∃ (x qual : Str) (params : Arguments) (body : List Stmt) (scope : Scope) (dvs : List V) (N : List Str) (fn : Fn), FunD K x qual params body scope dvs [] a fd ∧ FnScope N ps scope ∧ ps.length = p.2.1 ∧ (∀ F, RL c F p.2.2 dvs) ∧
    (∀ j, j ≤ dvs.length → ∃ ds, Vals (dvs.drop j) ds ∧ Binds K fd ps ds) ∧ Q p.1 = some fn ∧ fn.np = ps.length ∧ fn.ns = N.length ∧ chkSs sy N scope (scope.names.map (·.1)) fn.body body = true
/-- what is said of the module -/
structure Ms (c : Cv) (sy : Sy) (K : PySem.W.Frag) (w : World) (mg : Str → Option Value) (Q : Fk → Option Fn) : Prop where
  kk : K = c.K
  blt : ∀ x ∈ sy.blt, mg x = none
  glo : ∀ p ∈ sy.glo, ∃ u v, mg p.1 = some u ∧ RelV v u ∧ ∀ F, R c F p.2 v
  fld : ∀ p ∈ sy.fld, Cls K (c.cl p.1) ∧ NoAttr K (c.cl p.1) p.2
  tab : ∀ p ∈ sy.tabs, TabC K w mg p.1 p.2
  exc : ∀ x ∈ sy.exc, ExcC c K mg x
  exm : ∀ p ∈ sy.exm, PySem.W.exmOne K (.ref (c.cl p.1)) (.ref (c.cl p.2.1)) = some p.2.2
  fns : ∀ p ∈ sy.fns, ∃ a fd ps, St c sy K Q p a fd ps ∧ (p.1.1 = "" → mg p.1.2 = some (.ref a)) ∧
    (p.1.1 ≠ "" → Cls K (c.cl p.1.1) ∧ (p.1.2 = "__init__" → Mk K (c.cl p.1.1) a ∧ mg p.1.1 = some (.ref (c.cl p.1.1))) ∧ (p.1.2 ≠ "__init__" → Meth K (c.cl p.1.1) p.1.2 a))
theorem spF_len {C : Ct} {f : Fk} {vs : List V} {H : Hp} {Q : VK} {E : XK} {n : Nat} (h : spF c C f vs H Q E) (hn : ∀ ts, C f ts ≠ .no → ts.length = n) : vs.length = n := by
  obtain ⟨G, Fr, F, ts, L, s, k⟩ := h
  have e := s.len
  simp only [List.length_map] at e
  rw [e]
  refine hn ts fun q => ?_
  rw [q] at k
  exact k
def cxF (P : Program) (w : World) (K : PySem.W.Frag) (mg : Str → Option Value) (base : Heap) (N : List Str) (qual : Str) (scope : Scope) (f : Addr) (cd : Value) (A : Around) (outer : List Env) (s : Shared) (H : Hp) (E : XK) : Cx := cxOf (L2.CX P w) P w K mg base N qual scope f cd A outer s H E
theorem fn_ok (m : Ms c sy K w mg Q) : ∀ n, ∀ p ∈ sy.fns, ∀ a fd ps, St c sy K Q p a fd ps → FnOk P w K mg base (L2.CX P w) (2 * n) a fd ps (spF c (callN Q n) p.1)
  | 0, p, hp, a, fd, ps, st => by
    refine ⟨fun vs H Q' E h => ?_, fun A outer s H args us vs Q' E _ _ _ _ h => ?_⟩
    · obtain ⟨G, Fr, F, ts, L, s, k⟩ := h
      simp only [callN] at k
    · obtain ⟨G, Fr, F, ts, L, s, k⟩ := h
      simp only [callN] at k
  | n + 1, p, hp, a, fd, ps, st => by
    obtain ⟨x, qual, params, body, scope, dvs, N, fn, FD, S, h1, h2, h3, hQ, h4, h5, chk⟩ := st.ex
    have hpre : ps.length ≤ N.length := by
      have e := congrArg List.length S.pre
      rw [List.length_take] at e
      omega
    refine (FD.ok (k := 2 * n + 1) S (fun vs H Q' E h => spF_len h fun ts hts => ?_) fun cdv A outer s H vs Q' E hr hsp => ?_)
    · simp only [callN, hQ] at hts
      unfold runF at hts
      split at hts
      · rename_i z; rw [z.1, h4]
      · exact absurd rfl hts
    · obtain ⟨G, Fr, F, ts, L, sr, k⟩ := hsp
      simp only [callN, hQ] at k
      unfold runF at k
      by_cases z : ts.length = fn.np ∧ fn.keep.length = fn.np ∧ fn.np ≤ fn.ns
      case neg => rw [if_neg z] at k; exact k.elim
      rw [if_pos z] at k
      obtain ⟨z1, z2, z3⟩ := z
      have hvl : vs.length = ts.length := by have := sr.len; simpa using this
      have gs : Gs c sy (cxOf (L2.CX P w) P w K mg base N qual scope a cdv A outer s H E) scope N (scope.names.map (·.1)) (callN Q n) (fun cls d _ H => E cls d H) :=
        { kk := m.kk
          scp := rfl
          nn := rfl
          nd := S.nd
          calm := rfl
          units := hr.units
          blt := m.blt
          glo := m.glo
          fld := m.fld
          tab := m.tab
          k := 2 * n
          room := hr
          tk := takes_of rfl rfl rfl rfl
          exc := m.exc
          exm := m.exm
          stk := rfl
          frm := rfl
          fns := fun q hq => by
            obtain ⟨a', fd', ps', st', g1, g2⟩ := m.fns q hq
            obtain ⟨x', qual', params', body', scope', dvs', N', fn', FD', S', e1, e2, e3, _⟩ := st'.ex
            exact ⟨a', ⟨⟨fd', ps', dvs', fn_ok m n q hq a' fd' ps' st', e1, e2, e3⟩, FD'.kp⟩, g1, g2⟩
          wcs := fun _ _ => rfl
          po := passes_of rfl }
      refine ⟨tSt c G (callN Q n) (fun cls d _ H => E cls d H) fn.kp fn.body, okSs gs fn.body chk, tSt_iff.mpr ?_⟩
      have hst : start N vs = vs.map some ++ List.replicate (fn.ns - fn.np) none := by
        unfold L2.start
        rw [h5, h4, hvl, z1, h4]
      have sr2 := sr.nones (m := fn.ns - fn.np)
      rw [← hst] at sr2
      refine ⟨Fr, F, _, L, sr2, ?_⟩
      have hk : fn.keep.length = vs.length := by rw [z2, hvl, z1]
      have hrl : (ts.map some ++ List.replicate (fn.ns - fn.np) (none : Option T)).length = fn.ns := by simp; omega
      -- the parameters at the end
      have fin : ∀ {r : Env1} {B : Env1} {σ' ub : List (Option V)} {H' F' : Hp} {L' : List Addr}, Sd fn.kp (ts.map some ++ List.replicate (fn.ns - fn.np) none) r (start N vs) σ' F F' → SR c G Fr F' H' (r ++ B) (σ' ++ ub) L' → ub.length = B.length →
          ∃ L'', SR c G Fr F' H' (finOf fn.keep r ++ B) (vs.map some ++ ub) L'' := fun {r B σ' ub H' F' L'} sd s' hB => by
        have hl1 := sd.l1
        rw [hrl] at hl1
        refine s'.fin (by have := s'.len; simp at this; omega) hk (by rw [z2]; omega) fun i hi => ?_
        rw [sd.kp i hi, hst]
        by_cases hlt : i < vs.length
        · rw [List.getElem?_append_left (by simpa using hlt), List.getElem?_map]
        · have : fn.keep.getD i false = false := by
            rw [List.getD_eq_getElem?_getD, List.getElem?_eq_none (by omega)]
            rfl
          rw [this] at hi; cases hi
      have flen : ∀ {r : Env1} {σ' : L2.St} {F' : Hp}, Sd fn.kp (ts.map some ++ List.replicate (fn.ns - fn.np) none) r (start N vs) σ' F F' → (finOf fn.keep r).length = vs.length := fun {r σ' F'} sd => by
        have hl1 := sd.l1
        rw [hrl] at hl1
        rw [finOf_len (by rw [z2]; omega), hk]
      cases hev : evS (callN Q n) fn.kp fn.body (ts.map some ++ List.replicate (fn.ns - fn.np) none) with
      | nx r =>
        rw [hev] at k
        intro σ' H' F' L' sd s'
        have s2 : SR c G Fr F' H' (r ++ [some (.sh .non)]) (σ' ++ [some .non]) L' := s'.snocF (by simp only [R])
        obtain ⟨L2, s3⟩ := fin sd s2 rfl
        exact k .non H' F' L2 sd.le (flen sd) s3
      | rt t r =>
        rw [hev] at k
        intro v σ' H' F' L' sd s'
        obtain ⟨L2, s3⟩ := fin sd s' rfl
        exact k v H' F' L2 sd.le (flen sd) s3
      | ex x r =>
        rw [hev] at k
        intro cls d σ' H' F' L' sd xr s'
        have s2 : SR c G Fr F' H' (r ++ []) (σ' ++ []) L' := by simpa using s'
        obtain ⟨L2, s3⟩ := fin sd s2 rfl
        exact k cls d H' F' L2 sd.le (flen sd) xr (by simpa using s3)
      | bk r => rw [hev] at k; exact k.elim
      | ct r => rw [hev] at k; exact k.elim
      | no => rw [hev] at k; exact k.elim
end
end MP
/-! MP29: the module's facts from the head. -/
namespace MP
open PySem PySem.Spec PyProof.Rows L2
def cvOf (K : PySem.W.Frag) : Cv := ⟨K, fun x => He.ga K x, fun x => He.ga K x⟩
def fkA (K : PySem.W.Frag) (k : Fk) : Addr := if k.1 = "" then He.ga K k.2 else He.ma K (He.ga K k.1) k.2
def gF (p : Str × D) : He.Fa := match p.2 with
  | .int i => .int p.1 i
  | .str z => .str p.1 z
  | _ => .free "__none__"
def gOk (p : Str × D) : Bool := match p.2 with
  | .int _ => true
  | .str _ => true
  | _ => false
def fnF (k : Fk) : List He.Fa := if k.1 = "" then [.glo k.2] else .cls k.1 :: (if k.2 = "__init__" then [.mkr k.1, .glo k.1] else [.meth k.1 k.2])
def excF (x : Str) : List He.Fa := [.glo x, .exc x]
/-- the tables of the top -/
def tabT (p : Str × List (Str × Key)) : He.Tab := (fun K => He.ga K p.1, p.2.map (·.1))
def tabsT (sy : Sy) : List He.Tab := sy.tabs.map tabT
def keyDv : Key → He.Dv
  | .inl i => .int i
  | .inr x => .str x
def tabX (sy : Sy) (K : PySem.W.Frag) : Bool := sy.tabs.all fun p => He.valsB K (He.ga K p.1) (p.2.map fun q => (q.1, keyDv q.2))
def faOf (sy : Sy) : List He.Fa := sy.blt.map He.Fa.free ++ (sy.glo.map gF ++ ((sy.fld.flatMap fun p => [He.Fa.cls p.1, He.Fa.noat p.1 p.2]) ++ ((sy.fns.flatMap fun p => fnF p.1) ++ (sy.exc.flatMap excF ++ (sy.exm.map (fun p => He.Fa.exm p.1 p.2.1 p.2.2) ++ sy.tabs.map fun p => He.Fa.glo p.1)))))
theorem ms_of {sy : Sy} {K : PySem.W.Frag} {w : World} {mg : Str → Option Value} {h : Heap} {fn : List He.DefD} {Q : Fk → Option Fn} (X : K.In h) (G : h.Ns mainGlobals mg) (cS : He.SaysD (faOf sy) fn K) (hg : sy.glo.all gOk = true)
    (ht : ∀ p ∈ sy.tabs, TabC K w mg p.1 p.2) (hn : ∀ p ∈ sy.fns, ∃ fd ps, St (cvOf K) sy K Q p (fkA K p.1) fd ps) : Ms (cvOf K) sy K w mg Q where
  tab := ht
  kk := rfl
  blt := fun x hx => He.free_ok X G (cS.facts (f := .free x) (List.mem_append_left _ (List.mem_map.mpr ⟨x, hx, rfl⟩)))
  glo := fun p hp => by
    have hm : gF p ∈ faOf sy := List.mem_append_right _ (List.mem_append_left _ (List.mem_map.mpr ⟨p, hp, rfl⟩))
    have hk := List.all_eq_true.mp hg p hp
    obtain ⟨x, d⟩ := p
    cases d <;> simp only [gOk, reduceCtorEq, Bool.false_eq_true] at hk
    · rename_i i
      obtain ⟨t, e⟩ := He.int_ok X G (cS.facts (f := .int x i) hm)
      exact ⟨_, .int i, e, ⟨t, rfl⟩, fun F => by simp only [R]⟩
    · rename_i z
      obtain ⟨t, e⟩ := He.str_ok X G (cS.facts (f := .str x z) hm)
      exact ⟨_, .str z, e, ⟨t, rfl⟩, fun F => by simp only [R]⟩
  fld := fun p hp => by
    have hm : ∀ f ∈ [He.Fa.cls p.1, He.Fa.noat p.1 p.2], f ∈ faOf sy := fun f hf => List.mem_append_right _ (List.mem_append_right _ (List.mem_append_left _ (List.mem_flatMap.mpr ⟨p, hp, hf⟩)))
    exact ⟨He.cls_ok (cS.facts (hm (.cls p.1) (by simp))), He.noat_ok (cS.facts (hm (.noat p.1 p.2) (by simp)))⟩
  exc := fun x hx => by
    have hm : ∀ f ∈ excF x, f ∈ faOf sy := fun f hf => List.mem_append_right _ (List.mem_append_right _ (List.mem_append_right _ (List.mem_append_right _ (List.mem_append_left _ (List.mem_flatMap.mpr ⟨x, hx, hf⟩)))))
    obtain ⟨e1, e2, e3, e4⟩ := He.exc_ok (cS.facts (hm (.exc x) (by simp [excF])))
    exact ⟨He.glo_ok X G (cS.facts (hm (.glo x) (by simp [excF]))), e1, e2, e3, e4⟩
  exm := fun p hp => He.exm_ok (cS.facts (f := .exm p.1 p.2.1 p.2.2) (List.mem_append_right _ (List.mem_append_right _ (List.mem_append_right _ (List.mem_append_right _ (List.mem_append_right _ (List.mem_append_left _ (List.mem_map.mpr ⟨p, hp, rfl⟩))))))))
  fns := fun p hp => by
    have hm : ∀ f ∈ fnF p.1, f ∈ faOf sy := fun f hf => List.mem_append_right _ (List.mem_append_right _ (List.mem_append_right _ (List.mem_append_left _ (List.mem_flatMap.mpr ⟨p, hp, hf⟩))))
    obtain ⟨fd, ps, st⟩ := hn p hp
    refine ⟨_, fd, ps, st, fun e => ?_, fun e => ?_⟩
    · have q := He.glo_ok X G (cS.facts (hm (.glo p.1.2) (by unfold fnF; rw [if_pos e]; simp)))
      unfold fkA
      rw [if_pos e]
      exact q
    · refine ⟨He.cls_ok (cS.facts (hm (.cls p.1.1) (by unfold fnF; rw [if_neg e]; simp))), fun e2 => ?_, fun e2 => ?_⟩
      · have q := He.mkr_ok (cS.facts (hm (.mkr p.1.1) (by unfold fnF; rw [if_neg e, if_pos e2]; simp)))
        have q2 := He.glo_ok X G (cS.facts (hm (.glo p.1.1) (by unfold fnF; rw [if_neg e, if_pos e2]; simp)))
        unfold fkA
        rw [if_neg e, e2]
        exact ⟨q, q2⟩
      · have q := He.meth_ok (cS.facts (hm (.meth p.1.1 p.1.2) (by unfold fnF; rw [if_neg e, if_neg e2]; simp)))
        unfold fkA
        rw [if_neg e]
        exact q
/-- the tables of the top, from what is looked at -/
theorem keysIn_not {P : Params} : ∀ {l : List DictEntry} {ks : List Str}, l.map He.keyOf = He.keysIn P ks → ∀ {z : Str}, z ∉ ks → l.find? (·.key.isStr z) = none ∧ l.any (·.refKey) = false
  | [], [], _, _, _ => ⟨rfl, rfl⟩
  | [], _ :: _, h, _, _ => by cases h
  | _ :: _, [], h, _, _ => by cases h
  | e :: r, k :: ks, h, z, hz => by
    have h1 : He.keyOf e :: r.map He.keyOf = some (k, PyData.keyHash P k) :: He.keysIn P ks := h
    injection h1 with h2 h3
    obtain ⟨i1, i2⟩ := keysIn_not h3 (z := z) fun q => hz (List.mem_cons_of_mem _ q)
    obtain ⟨eh, ek, ev⟩ := e
    unfold He.keyOf at h2
    cases ek <;> simp only [reduceCtorEq] at h2
    rename_i x t
    injection h2 with h2
    injection h2 with h2 _
    subst h2
    have hne : x ≠ z := fun q => hz (q ▸ List.mem_cons_self)
    refine ⟨?_, ?_⟩
    · rw [List.find?_cons]
      have : (Value.str x t).isStr z = false := by
        rw [PySem.W.isStr_of]
        simpa [Value.isStrOf] using hne
      dsimp only
      rw [this]
      exact i1
    · rw [List.any_cons, i2]
      rfl
theorem tab_ok {sy : Sy} {K : PySem.W.Frag} {w : World} {h : Heap} {mg : Str → Option Value} {fa : List He.Fa} {fn : List He.DefD} (X : K.In h) (G : h.Ns mainGlobals mg) (cS : He.SaysX fa fn (tabsT sy) [] (tabX sy) w h K) (hf : ∀ p ∈ sy.tabs, He.Fa.glo p.1 ∈ fa) : ∀ p ∈ sy.tabs, TabC K w mg p.1 p.2 := fun p hp => by
  have gx := He.glo_ok X G (cS.t.d.facts (hf p hp))
  obtain ⟨i, hi, e⟩ := List.mem_iff_getElem.mp hp
  have ei : (tabsT sy)[i]? = some (tabT p) := by
    unfold tabsT
    rw [List.getElem?_map, List.getElem?_eq_getElem hi, e]
    rfl
  obtain ⟨es, n, D⟩ := cS.t.tab i ei
  have hv : He.valsB K (He.ga K p.1) (p.2.map fun q => (q.1, keyDv q.2)) = true := List.all_eq_true.mp cS.more p hp
  have hk : es.toList.map He.keyOf = He.keysIn w.params (p.2.map (·.1)) := by
    have e1 : (tabsT sy).map (fun t => He.dicW K (t.1 K)) = (tabsT sy).map fun t => some (He.keysIn w.params t.2) := congrArg (fun z : He.AlT => z.2) cS.t
    have e2 : ((tabsT sy).map fun t => He.dicW K (t.1 K))[i]? = ((tabsT sy).map fun t => some (He.keysIn w.params t.2))[i]? := by rw [e1]
    rw [List.getElem?_map, List.getElem?_map, ei] at e2
    have e3 : He.dicW K (He.ga K p.1) = some (He.keysIn w.params (p.2.map (·.1))) := Option.some.inj e2
    have at_ : K.lookup (He.ga K p.1) = some ⟨.type "dict", none, .dict es n, #[]⟩ := D.at_
    unfold He.dicW at e3
    rw [at_] at e3
    dsimp only at e3
    split at e3
    · exact Option.some.inj e3
    · cases e3
  refine ⟨He.ga K p.1, es, n, gx, D, fun q hq => ?_, fun z hz => ?_⟩
  · obtain ⟨u, f1, f2⟩ := He.valsB_ok hv (q := (q.1, keyDv q.2)) (List.mem_map.mpr ⟨q, hq, rfl⟩)
    refine ⟨u, f1, ?_⟩
    obtain ⟨x, k⟩ := q
    cases k <;> exact f2
  · obtain ⟨f1, f2⟩ := keysIn_not hk (z := z) fun q => by
      obtain ⟨r, hr, e⟩ := List.mem_map.mp q
      exact hz r hr e
    have at_ : K.lookup (He.ga K p.1) = some ⟨.type "dict", none, .dict es n, #[]⟩ := D.at_
    unfold PySem.W.nsIn
    rw [at_]
    dsimp only
    rw [f1, f2]
    rfl
theorem tab_fa {sy : Sy} : ∀ p ∈ sy.tabs, He.Fa.glo p.1 ∈ faOf sy := fun p hp => by
  unfold faOf
  exact List.mem_append_right _ (List.mem_append_right _ (List.mem_append_right _ (List.mem_append_right _ (List.mem_append_right _ (List.mem_append_right _ (List.mem_map.mpr ⟨p, hp, rfl⟩))))))
/-- the law's call -/
theorem law_sp {sy : Sy} {K : PySem.W.Frag} {C : Ct} {f : Fk} {H : Hp} {a : Addr} {ns : List Int} {fin : Env1} (h : C f [.sh (.scr ns)] = .ok (.sh (.bl true)) fin) (hS : SqL K H a (ns.map V.int)) : spF (cvOf K) C f [.ref a] H (fun v _ => v = .bl true) fun _ _ _ => False := by
  refine ⟨fun _ => none, fun _ => none, H, [.sh (.scr ns)], [], ⟨⟨some (.ref a), [], [], [], rfl, rfl, ⟨_, rfl, by simp only [RO, R]; exact ⟨trivial, a, rfl, hS⟩⟩, rfl, rfl⟩, List.nodup_nil, fun b hb => (by cases hb), .refl, fun _ _ e => (by cases e), fun _ _ e => (by cases e), fun _ e => absurd rfl e⟩, ?_⟩
  rw [h]
  intro v H' F' L' le hf s
  exact (s.lastV (by simpa using hf.symm)).bl
end MP
/-! MP30: the walk of a law, with the bits of its numbers. -/
namespace MP
open PySem PySem.Spec PyProof.Rows L2
theorem walk_EB {l : PySem.W.OpenLaw} {n k : Nat} {q : Program} {loose : List Str} {XP : (Str → Option Value) → Heap → Prop} {YP : World → Heap → Prop} {d : DefRec} {CX : World → CXT} {x : Str}
    (hn : l.most = some n) (hn2 : n ≤ sizeLine) (hdf : d.params.defaults = []) (hr : Room k callerA)
    (F : ∀ (w : World) (mg : Str → Option Value) (fa : Addr) (h : Heap), YP w h → h.Ns mainGlobals mg → mg d.name = some (.ref fa) →
      ∃ (K : PySem.W.Frag) (fd : FuncData) (sp : Sp), K.In h ∧ (∀ (s : Shared) (u : Value), BindsTo s fd ⟨[u], []⟩ [(x, u)]) ∧
        (∀ (H : Hp) (a : Addr) (ns : List Int), ns.length ≤ n → (∀ z ∈ ns, Builtin.Int.intBits z ≤ 1048576) → SqL K H a (ns.map V.int) → sp [.ref a] H (fun v _ => v = .bl true) fun _ _ _ => False) ∧
        ∀ base : Heap, K.In base → base.Ns mainGlobals mg → FnOk l.prog w K mg base (CX w) k fa fd [x] sp)
    (hCX : ∀ (w : World) (H : Hp) (s : Shared) (e : Value) (s' : Shared), CX w [] H s (fun _ _ _ => False) e s' → False) :
    PySem.W.WalkO q loose XP YP l.row.toRowW d [] (fun f vs => PySem.call f vs) := by
  refine Att.attach_callB hn hdf fun w s₀ s₁ mg mb fa o pm cd doc a vs ns G Y ho hd hcd hmg hobj hints hlen hbits hg => ?_
  obtain ⟨K, fd, sp, KX, hb, hsp, hF⟩ := F w mg fa _ Y G.T.g hmg
  exact law_call KX G.T.g G.T.b G.T.builtins G.T.nolimit hg hobj hints (Nat.le_trans hlen hn2) hr hF hb (fun H hO hS => hsp H a ns hlen hbits hS) fun H e s' => hCX w H s₁ e s'
theorem cx_no {P : Program} {w : World} (H : Hp) (s : Shared) (e : Value) (s' : Shared) (h : L2.CX P w [] H s (fun _ _ _ => False) e s') : False := by
  obtain ⟨_, _, _, _, _, _, _, _, _, _, _, _, z⟩ := h
  exact z
/-- the law's facts -/
theorem law_facts {sy : Sy} {fn : List He.DefD} {Q : Fk → Option Fn} {P : Program} {w : World} {K : PySem.W.Frag} {h : Heap} {mg : Str → Option Value} {f : Addr} {np : Nat} {x : Str} {n : Nat} (X : K.In h) (G : h.Ns mainGlobals mg) (cS : He.SaysD (faOf sy) fn K) (hg : sy.glo.all gOk = true)
    (hn : ∀ p ∈ sy.fns, ∃ fd ps, St (cvOf K) sy K Q p (fkA K p.1) fd ps) (ht : ∀ p ∈ sy.tabs, TabC K w mg p.1 p.2) (hp : (((("" : Str), ("law" : Str)), np, ([] : List D)) : Fk × Nat × List D) ∈ sy.fns) (hl : ∃ fd, St (cvOf K) sy K Q ((("" : Str), ("law" : Str)), np, []) (He.ga K "law") fd [x] ∧ ∀ (s : Shared) (v : Value), BindsTo s fd ⟨[v], []⟩ [(x, v)]) (hfa : mg ("law" : Str) = some (.ref f)) :
    ∃ fd : FuncData, (∀ (s : Shared) (v : Value), BindsTo s fd ⟨[v], []⟩ [(x, v)]) ∧ ∀ base : Heap, K.In base → base.Ns mainGlobals mg → FnOk P w K mg base (L2.CX P w) (2 * n) f fd [x] (spF (cvOf K) (callN Q n) (("" : Str), ("law" : Str))) := by
  obtain ⟨fd, st, b⟩ := hl
  have m : Ms (cvOf K) sy K w mg Q := ms_of X G cS hg ht hn
  have e : f = He.ga K "law" := by
    have hm : He.Fa.glo "law" ∈ faOf sy := List.mem_append_right _ (List.mem_append_right _ (List.mem_append_right _ (List.mem_append_left _ (List.mem_flatMap.mpr ⟨_, hp, by unfold fnF; rw [if_pos rfl]; simp⟩))))
    have q := He.glo_ok X G (cS.facts hm)
    rw [hfa] at q
    injection q with q
    injection q
  subst e
  exact ⟨fd, b, fun base _ _ => fn_ok m n _ hp _ fd [x] st⟩
end MP
/-! PW: the evaluator by weakest preconditions. -/
namespace PL
open PySem PySem.Spec PyProof.Rows L2 MP
variable {C : Ct} {kp : Nat → Bool} {r : Env1}
@[irreducible] def WS (C : Ct) (kp : Nat → Bool) (s : S) (r : Env1) (K : Fl → Prop) : Prop := K (evS C kp s r)
@[irreducible] def WE (C : Ct) (e : E) (r : Env1) (K : Rs T → Prop) : Prop := K (evE C e r)
@[irreducible] def WEs (C : Ct) (e : E) (r : Env1) (K : Rs (List T) → Prop) : Prop := K (evEs C e r)
@[irreducible] def WT (C : Ct) (e : E) (r : Env1) (K : Rs Bool → Prop) : Prop := K (tsE C e r)
@[irreducible] def WI (C : Ct) (e : E) (r : Env1) (K : Rs (List D) → Prop) : Prop := K (evI C e r)
structure WP (q : P) (r : Env1) (K : T → Prop) : Prop where
  h : ∃ t, evP r q = some t ∧ K t
@[irreducible] def WC (C : Ct) (f : Fk) (ts : List T) (K : Cr → Prop) : Prop := K (C f ts)
structure Sm {α : Type} (o : Option α) (K : α → Prop) : Prop where
  h : ∃ t, o = some t ∧ K t
theorem Sm.mk1 {α : Type} {t : α} {K : α → Prop} (k : K t) : Sm (some t) K := ⟨t, rfl, k⟩
theorem Sm.of {α : Type} {o : Option α} {t : α} {K : α → Prop} (h : o = some t) (k : K t) : Sm o K := ⟨t, h, k⟩
structure Br (q : Bool) (A B : Prop) : Prop where
  t : q = true → A
  f : q = false → B
structure Sc (p : Prop) (G : Prop) : Prop where
  c : p
  g : G
def asgOk (kp : Nat → Bool) (i : Nat) (r : Env1) : Option Unit := if kp i then none else if i < r.length then some () else none
theorem asgOk_some {kp : Nat → Bool} {i : Nat} {r : Env1} {u : Unit} (h : asgOk kp i r = some u) : kp i = false ∧ i < r.length := by
  unfold asgOk at h
  cases h1 : kp i with
  | true => rw [h1] at h; cases h
  | false =>
    rw [h1] at h
    by_cases h2 : i < r.length
    · exact ⟨rfl, h2⟩
    · rw [if_neg (by simp), if_neg h2] at h; cases h
/-! pure -/
theorem wp_lit {d : D} {K : T → Prop} (k : K (.sh d)) : WP (.lit d) r K := ⟨_, rfl, k⟩
theorem wp_glo {x : Str} {d : D} {K : T → Prop} (k : K (.sh d)) : WP (.glo x d) r K := ⟨_, rfl, k⟩
theorem wp_var {i : Nat} {K : T → Prop} (k : Sm (slot r i) K) : WP (.var i) r K := ⟨k.h⟩
theorem wp_fld {p : P} {f : Str} {cs : List Str} {K : T → Prop} (k : WP p r fun t => Sm (asF t) fun kf => Sc (kf.1 ∈ cs) <| Sm (kf.2.find? fun q => decide (q.1 = f)) fun x => K x.2) : WP (.fld p f cs) r K := by
  obtain ⟨t, h1, ⟨k1, f1⟩, h2, h3, ⟨_, x⟩, h4, k⟩ := k
  exact ⟨x, by simp only [evP, h1, h2, if_pos h3, h4, Option.map_some], k⟩
theorem wp_o1 {o : Op1} {a : P} {K : T → Prop} (k : WP a r fun s => Sm (ev1 o s) K) : WP (.o1 o a) r K := by
  obtain ⟨s, h1, t, h2, k⟩ := k
  exact ⟨t, by simp only [evP, h1, h2], k⟩
theorem wp_o2 {o : Op2} {a b : P} {K : T → Prop} (k : WP a r fun s => WP b r fun t => Sm (ev2 o s t) K) : WP (.o2 o a b) r K := by
  obtain ⟨s, h1, t, h2, u, h3, k⟩ := k
  exact ⟨u, by simp only [evP, h1, h2, h3], k⟩
theorem wp_o3 {o : Op3} {a b d : P} {K : T → Prop} (k : WP a r fun s => WP b r fun t => WP d r fun u => Sm (ev3 o s t u) K) : WP (.o3 o a b d) r K := by
  obtain ⟨s, h1, t, h2, u, h3, v, h4, k⟩ := k
  exact ⟨v, by simp only [evP, h1, h2, h3, h4], k⟩
theorem asS_eq' {t : T} {i : Str} (h : asS t = some i) : t = .sh (.str i) := by
  unfold asS at h; split at h
  · injection h with h; rw [h]
  · cases h
theorem wp_fnil {K : T → Prop} (k : K (.sh (.str ⟨#[]⟩))) : WP .fnil r K := ⟨_, rfl, k⟩
theorem wp_fcons {a b : P} {K : T → Prop} (k : WP a r fun s => WP b r fun t => Sm (fmtV s) fun x => Sm (asS t) fun y => Sc (x.length + y.length ≤ sizeLine) (K (.sh (.str (x ++ y))))) : WP (.fcons a b) r K := by
  obtain ⟨s, h1, t, h2, x, h3, y, h4, h5, k⟩ := k
  exact ⟨_, by simp only [evP, h1, h2, h3, h4, if_pos h5]; rfl, k⟩
/-! expressions -/
theorem we_p {q : P} {K : Rs T → Prop} (k : WP q r fun t => Sm (asD t) fun d => K (.ok (.sh d) r)) : WE C (.p q) r K := by
  obtain ⟨t, h1, d, h2, k⟩ := k
  have : t = .sh d := by cases t <;> simp only [asD] at h2 <;> (try cases h2) <;> rfl
  subst this
  unfold WE
  simp only [evE, h1]; exact k
theorem we_fz {i : Nat} {K : Rs T → Prop} (k : Sm (slot r i) fun t => Sm (frz t) fun d => K (.ok (.sh d) (r.set i (some (.sh d))))) : WE C (.fz i) r K := by
  obtain ⟨t, h1, d, h2, k⟩ := k
  unfold WE
  simp only [evE, h1, h2]; exact k
theorem we_mv {i : Nat} {K : Rs T → Prop} (k : Sm (slot r i) fun t => K (.ok t (r.set i none))) : WE C (.mv i) r K := by
  obtain ⟨t, h1, k⟩ := k
  unfold WE
  simp only [evE, h1]; exact k
theorem we_bor {i : Nat} {K : Rs T → Prop} (k : Sm (slot r i) fun t => K (.ok t (r.set i none))) : WE C (.bor i) r K := by
  obtain ⟨t, h1, k⟩ := k
  unfold WE
  simp only [evE, h1]; exact k
theorem we_frE {a : E} {K : Rs T → Prop} (k : WE C a r fun x => match x with
    | .ok t r1 => Sm (frz t) fun d => K (.ok (.sh d) r1)
    | x => K x) : WE C (.frE a) r K := by
  unfold WE at *
  simp only [evE]
  cases h : evE C a r with
  | ok t r1 => rw [h] at k; obtain ⟨d, h1, k⟩ := k; simp only [h1]; exact k
  | ex x r1 => rw [h] at k; exact k
  | no => rw [h] at k; exact k
theorem we_o1 {o : Op1} {a : E} {K : Rs T → Prop} (k : WE C a r fun x => match x with
    | .ok t r1 => Sm (frz t) fun d => Sm (ev1 o (.sh d)) fun u => K (.ok u r1)
    | x => K x) : WE C (.o1 o a) r K := by
  unfold WE at *
  simp only [evE]
  cases h : evE C a r with
  | ok t r1 => rw [h] at k; obtain ⟨d, h1, u, h2, k⟩ := k; simp only [h1, h2]; exact k
  | ex x r1 => rw [h] at k; exact k
  | no => rw [h] at k; exact k
theorem we_o2 {o : Op2} {a b : E} {K : Rs T → Prop} (k : WE C a r fun x => match x with
    | .ok s r1 => WE C b r1 fun x => match x with
      | .ok t r2 => Sm (frz s) fun d => Sm (frz t) fun e => Sm (ev2 o (.sh d) (.sh e)) fun u => K (.ok u r2)
      | x => K x
    | x => K x) : WE C (.o2 o a b) r K := by
  unfold WE at *
  simp only [evE]
  cases h : evE C a r with
  | ok t r1 =>
    rw [h] at k
    dsimp only at k ⊢
    cases h2 : evE C b r1 with
    | ok t r2 => rw [h2] at k; obtain ⟨d, h1, e, h2, u, h3, k⟩ := k; simp only [h1, h2, h3]; exact k
    | ex x r1 => rw [h2] at k; exact k
    | no => rw [h2] at k; exact k
  | ex x r1 => rw [h] at k; exact k
  | no => rw [h] at k; exact k
theorem we_o3 {o : Op3} {a b c : E} {K : Rs T → Prop} (k : WE C a r fun x => match x with
    | .ok s r1 => WE C b r1 fun x => match x with
      | .ok t r2 => WE C c r2 fun x => match x with
        | .ok u r3 => Sm (frz s) fun d => Sm (frz t) fun e => Sm (frz u) fun f => Sm (ev3 o (.sh d) (.sh e) (.sh f)) fun u => K (.ok u r3)
        | x => K x
      | x => K x
    | x => K x) : WE C (.o3 o a b c) r K := by
  unfold WE at *
  simp only [evE]
  cases h : evE C a r with
  | ok t r1 =>
    rw [h] at k
    dsimp only at k ⊢
    cases h2 : evE C b r1 with
    | ok t r2 =>
      rw [h2] at k
      dsimp only at k ⊢
      cases h3 : evE C c r2 with
      | ok t r3 => rw [h3] at k; obtain ⟨d, h1, e, h2, f, h4, u, h3, k⟩ := k; simp only [h1, h2, h3, h4]; exact k
      | ex x r1 => rw [h3] at k; exact k
      | no => rw [h3] at k; exact k
    | ex x r1 => rw [h2] at k; exact k
    | no => rw [h2] at k; exact k
  | ex x r1 => rw [h] at k; exact k
  | no => rw [h] at k; exact k
theorem we_k2 {o : Op2} {a : E} {b : P} {K : Rs T → Prop} (k : WE C a r fun x => match x with
    | .ok s r1 => Sm (frz s) fun d => WP b r1 fun t => Sm (ev2 o (.sh d) t) fun u => Sm (asD u) fun e => K (.ok (.sh e) r1)
    | x => K x) : WE C (.k2 o a b) r K := by
  unfold WE at *
  simp only [evE]
  cases h : evE C a r with
  | ok t r1 =>
    rw [h] at k
    dsimp only at k ⊢
    obtain ⟨d, h1, t, h2, u, h3, e, h4, k⟩ := k
    have : u = .sh e := by cases u <;> simp only [asD] at h4 <;> (try cases h4) <;> rfl
    subst this
    simp only [h1, h2, h3]
    exact k
  | ex x r1 => rw [h] at k; exact k
  | no => rw [h] at k; exact k
theorem we_chain {o o' : Op2} {a b d : P} {K : Rs T → Prop} (k : WP a r fun s => WP b r fun t => Sm (ev2 o s t) fun u => Sm (asB u) fun q => Br q (WP d r fun u => Sm (ev2 o' t u) fun v => Sm (asB v) fun z => K (.ok (tB z) r)) (K (.ok (tB false) r))) : WE C (.chain o o' a b d) r K := by
  obtain ⟨s, h1, t, h2, u, h3, q, h4, k1, k2⟩ := k
  have : u = .sh (.bl q) := by
    unfold asB at h4; split at h4
    · injection h4 with h4; rw [h4]
    · cases h4
  subst this
  unfold WE
  simp only [evE, h1, h2, h3]
  cases q with
  | false => exact k2 rfl
  | true =>
    obtain ⟨w, h5, v, h6, z, h7, k⟩ := k1 rfl
    have : v = .sh (.bl z) := by
      unfold asB at h7; split at h7
      · injection h7 with h7; rw [h7]
      · cases h7
    subst this
    simp only [h5, h6]; exact k
theorem we_tup {es : E} {K : Rs T → Prop} (k : WEs C es r fun x => match x with
    | .ok ts r1 => Sc (ts.length ≤ sizeLine) (K (.ok (.tup ts) r1))
    | .ex x r1 => K (.ex x r1)
    | .no => K .no) : WE C (.tup es) r K := by
  unfold WE WEs at *
  simp only [evE]
  cases h : evEs C es r with
  | ok ts r1 => rw [h] at k; obtain ⟨h1, k⟩ := k; simp only [if_pos h1]; exact k
  | ex x r1 => rw [h] at k; exact k
  | no => rw [h] at k; exact k
theorem we_lst {es : E} {K : Rs T → Prop} (k : WEs C es r fun x => match x with
    | .ok ts r1 => Sc (ts.length ≤ sizeLine) (K (.ok (.lst ts) r1))
    | .ex x r1 => K (.ex x r1)
    | .no => K .no) : WE C (.lst es) r K := by
  unfold WE WEs at *
  simp only [evE]
  cases h : evEs C es r with
  | ok ts r1 => rw [h] at k; obtain ⟨h1, k⟩ := k; simp only [if_pos h1]; exact k
  | ex x r1 => rw [h] at k; exact k
  | no => rw [h] at k; exact k
theorem asB_eq' {u : T} {q : Bool} (h : asB u = some q) : u = .sh (.bl q) := by
  unfold asB at h; split at h
  · injection h with h; rw [h]
  · cases h
theorem we_and {a b : E} {K : Rs T → Prop} (k : WE C a r fun x => match x with
    | .ok t r1 => Sm (asB t) fun q => Br q (WE C b r1 K) (K (.ok (tB false) r1))
    | .ex x r1 => K (.ex x r1)
    | .no => K .no) : WE C (.and a b) r K := by
  unfold WE at *
  simp only [evE]
  cases h : evE C a r with
  | ok ts r1 =>
    rw [h] at k; obtain ⟨q, h1, k1, k2⟩ := k
    rw [asB_eq' h1]
    cases q with
    | true => exact k1 rfl
    | false => exact k2 rfl
  | ex x r1 => rw [h] at k; exact k
  | no => rw [h] at k; exact k
theorem we_or {a b : E} {K : Rs T → Prop} (k : WE C a r fun x => match x with
    | .ok t r1 => Sm (asB t) fun q => Br q (K (.ok (tB true) r1)) (WE C b r1 K)
    | .ex x r1 => K (.ex x r1)
    | .no => K .no) : WE C (.or a b) r K := by
  unfold WE at *
  simp only [evE]
  cases h : evE C a r with
  | ok ts r1 =>
    rw [h] at k; obtain ⟨q, h1, k1, k2⟩ := k
    rw [asB_eq' h1]
    cases q with
    | true => exact k1 rfl
    | false => exact k2 rfl
  | ex x r1 => rw [h] at k; exact k
  | no => rw [h] at k; exact k
theorem we_not {a : E} {K : Rs T → Prop} (k : WE C a r fun x => match x with
    | .ok t r1 => Sm (asB t) fun q => K (.ok (tB (!q)) r1)
    | .ex x r1 => K (.ex x r1)
    | .no => K .no) : WE C (.not a) r K := by
  unfold WE at *
  simp only [evE]
  cases h : evE C a r with
  | ok ts r1 => rw [h] at k; obtain ⟨q, h1, k⟩ := k; rw [asB_eq' h1]; exact k
  | ex x r1 => rw [h] at k; exact k
  | no => rw [h] at k; exact k
theorem we_ife {t a b : E} {K : Rs T → Prop} (k : WT C t r fun x => match x with
    | .ok q r1 => Br q (WE C a r1 K) (WE C b r1 K)
    | .ex x r1 => K (.ex x r1)
    | .no => K .no) : WE C (.ife t a b) r K := by
  unfold WE WT at *
  simp only [evE]
  cases h : tsE C t r with
  | ok q r1 =>
    rw [h] at k
    cases q with
    | true => exact k.1 rfl
    | false => exact k.2 rfl
  | ex x r1 => rw [h] at k; exact k
  | no => rw [h] at k; exact k
theorem we_call {f : Fk} {es : E} {df : List D} {K : Rs T → Prop} (k : WEs C es r fun x => match x with
    | .ok ts r1 => WC C f (ts ++ df.map .sh) fun y => match y with
      | .ok t fin => K (.ok t (back es.bors fin r1))
      | .ex x fin => K (.ex x (back es.bors fin r1))
      | .no => K .no
    | .ex x r1 => K (.ex x r1)
    | .no => K .no) : WE C (.call f es df) r K := by
  unfold WE WEs WC at *
  simp only [evE]
  cases h : evEs C es r with
  | ok ts r1 =>
    rw [h] at k
    dsimp only at k ⊢
    cases h2 : C f (ts ++ df.map .sh) with
    | ok t fin => rw [h2] at k; exact k
    | ex t fin => rw [h2] at k; exact k
    | no => rw [h2] at k; exact k
  | ex x r1 => rw [h] at k; exact k
  | no => rw [h] at k; exact k
theorem we_new {c : Str} {es : E} {df : List D} {K : Rs T → Prop} (k : WEs C es r fun x => match x with
    | .ok ts r1 => WC C (c, "__init__") (.obj c [] :: (ts ++ df.map .sh)) fun y => match y with
      | .ok (.sh .non) (some o :: fin) => K (.ok o (back es.bors fin r1))
      | .ex x (_ :: fin) => K (.ex x (back es.bors fin r1))
      | _ => K .no
    | .ex x r1 => K (.ex x r1)
    | .no => K .no) : WE C (.new c es df) r K := by
  unfold WE WEs WC at *
  simp only [evE]
  cases h : evEs C es r with
  | ok ts r1 =>
    rw [h] at k
    dsimp only at k ⊢
    generalize C (c, "__init__") (.obj c [] :: (ts ++ df.map .sh)) = z at k ⊢
    split <;> (split at k) <;> simp_all
  | ex x r1 => rw [h] at k; exact k
  | no => rw [h] at k; exact k
theorem we_meth {m : Str} {ks : List Str} {a es : E} {df : List D} {K : Rs T → Prop} (k : WE C a r fun x => match x with
    | .ok o r1 => Sm (asF o) fun kf => Sc (((kf.2.any fun q => decide (q.1 = m)) || !decide (kf.1 ∈ ks)) = false) <| WEs C es r1 fun x => match x with
      | .ok ts r2 => WC C (kf.1, m) (o :: (ts ++ df.map .sh)) fun y => match y with
        | .ok t fin => K (.ok t (back (a.bor1 :: es.bors) fin r2))
        | .ex x fin => K (.ex x (back (a.bor1 :: es.bors) fin r2))
        | .no => K .no
      | .ex x r2 => K (.ex x r2)
      | .no => K .no
    | .ex x r1 => K (.ex x r1)
    | .no => K .no) : WE C (.meth m ks a es df) r K := by
  unfold WE WEs WC at *
  simp only [evE]
  cases h : evE C a r with
  | ok o r1 =>
    rw [h] at k
    dsimp only at k ⊢
    obtain ⟨⟨c, fs⟩, h1, h2, k⟩ := k
    simp only [h1, h2]
    rw [if_neg (by simp)]
    cases h : evEs C es r1 with
    | ok ts r2 =>
      rw [h] at k
      dsimp only at k ⊢
      cases h2 : C (c, m) (o :: (ts ++ df.map .sh)) with
      | ok t fin => rw [h2] at k; exact k
      | ex t fin => rw [h2] at k; exact k
      | no => rw [h2] at k; exact k
    | ex x r2 => rw [h] at k; exact k
    | no => rw [h] at k; exact k
  | ex x r1 => rw [h] at k; exact k
  | no => rw [h] at k; exact k
structure WLc (C : Ct) (g : Tg) (vs : List Nat) (cond elt : E) (ds : List D) (r : Env1) (acc : List T) (K : List T → Env1 → Prop) : Prop where
  h : ∃ ts r2, lcRun g vs (tsE C cond) (evE C elt) ds r acc = .ok ts r2 ∧ K ts r2
theorem we_lc {g : Tg} {it cond elt : E} {K : Rs T → Prop} (k : WI C it r fun x => match x with
    | .ok ds r1 => Sc (hasAll r1 g.slots = true) <| WLc C g g.slots cond elt ds (wipe1 r1 g.slots) [] fun ts r2 => K (.ok (.lst ts) (unwipe r1 r2 g.slots))
    | .ex x r1 => K (.ex x r1)
    | .no => K .no) : WE C (.lc g it cond elt) r K := by
  unfold WE WI at *
  simp only [evE]
  cases h : evI C it r with
  | ok ds r1 => rw [h] at k; obtain ⟨h1, ts, r2, h2, k⟩ := k; simp only [h1, if_true, h2]; exact k
  | ex x r1 => rw [h] at k; exact k
  | no => rw [h] at k; exact k
/-! lists of expressions -/
theorem wes_nil {K : Rs (List T) → Prop} (k : K (.ok [] r)) : WEs C .nil r K := by unfold WEs; simp only [evEs]; exact k
theorem wes_bor {i : Nat} {b : E} {K : Rs (List T) → Prop} (k : Sm (slot r i) fun _ => WEs C b r fun x => match x with
    | .ok ts r1 => Sm (slot r1 i) fun t => K (.ok (t :: ts) (r1.set i none))
    | x => K x) : WEs C (.cons (.bor i) b) r K := by
  obtain ⟨t0, h0, k⟩ := k
  unfold WEs at *
  simp only [evEs, E.bor1, h0]
  cases h : evEs C b r with
  | ok ts r1 => rw [h] at k; obtain ⟨t, h1, k⟩ := k; simp only [h1]; exact k
  | ex x r1 => rw [h] at k; exact k
  | no => rw [h] at k; exact k
theorem wes_cons {a b : E} {K : Rs (List T) → Prop} (ha : a.bor1 = none) (k : WE C a r fun x => match x with
    | .ok t r1 => WEs C b r1 fun x => match x with
      | .ok ts r2 => K (.ok (t :: ts) r2)
      | x => K x
    | .ex x r1 => K (.ex x r1)
    | .no => K .no) : WEs C (.cons a b) r K := by
  unfold WE WEs at *
  simp only [evEs, ha]
  cases h : evE C a r with
  | ok t r1 =>
    rw [h] at k
    dsimp only at k ⊢
    cases h2 : evEs C b r1 with
    | ok ts r1 => rw [h2] at k; exact k
    | ex x r1 => rw [h2] at k; exact k
    | no => rw [h2] at k; exact k
  | ex x r1 => rw [h] at k; exact k
  | no => rw [h] at k; exact k
/-! tests -/
theorem wt_and {a b : E} {K : Rs Bool → Prop} (k : WT C a r fun x => match x with
    | .ok q r1 => Br q (WT C b r1 K) (K (.ok false r1))
    | x => K x) : WT C (.and a b) r K := by
  unfold WT at *
  simp only [tsE]
  cases h : tsE C a r with
  | ok q r1 =>
    rw [h] at k
    cases q with
    | true => exact k.1 rfl
    | false => exact k.2 rfl
  | ex x r1 => rw [h] at k; exact k
  | no => rw [h] at k; exact k
theorem wt_or {a b : E} {K : Rs Bool → Prop} (k : WT C a r fun x => match x with
    | .ok q r1 => Br q (K (.ok true r1)) (WT C b r1 K)
    | x => K x) : WT C (.or a b) r K := by
  unfold WT at *
  simp only [tsE]
  cases h : tsE C a r with
  | ok q r1 =>
    rw [h] at k
    cases q with
    | true => exact k.1 rfl
    | false => exact k.2 rfl
  | ex x r1 => rw [h] at k; exact k
  | no => rw [h] at k; exact k
theorem wt_not {a : E} {K : Rs Bool → Prop} (k : WT C a r fun x => match x with
    | .ok q r1 => K (.ok (!q) r1)
    | x => K x) : WT C (.not a) r K := by
  unfold WT at *
  simp only [tsE]
  cases h : tsE C a r with
  | ok q r1 => rw [h] at k; exact k
  | ex x r1 => rw [h] at k; exact k
  | no => rw [h] at k; exact k
theorem wt_yes {K : Rs Bool → Prop} (k : K (.ok true r)) : WT C .yes r K := by unfold WT; simp only [tsE]; exact k
theorem wt_p {q : P} {K : Rs Bool → Prop} (k : WP q r fun t => Sm (tru t) fun k => K (.ok k r)) : WT C (.p q) r K := by
  obtain ⟨t, h1, d, h2, k⟩ := k
  unfold WT
  simp only [tsE, h1, h2]; exact k
/-- the others: as expressions -/
def isTst : E → Bool
  | .o1 _ _ => true
  | .o2 _ _ _ => true
  | .k2 _ _ _ => true
  | .chain _ _ _ _ _ => true
  | .call _ _ _ => true
  | .meth _ _ _ _ _ => true
  | .vk _ _ _ => true
  | _ => false
theorem wt_e {e : E} {K : Rs Bool → Prop} (he : isTst e = true) (k : WE C e r fun x => match x with
    | .ok t r1 => Sm (asB t) fun q => K (.ok q r1)
    | .ex x r1 => K (.ex x r1)
    | .no => K .no) : WT C e r K := by
  unfold WE at k
  unfold WT
  have key : tsE C e r = (match evE C e r with
    | .ok (.sh (.bl k)) r1 => .ok k r1
    | .ex x r1 => .ex x r1
    | _ => .no) := by cases e <;> first | (cases he; done) | (simp only [tsE]; done) | (simp only [tsE]; rfl)
  rw [key]
  cases h : evE C e r with
  | ok t r1 => rw [h] at k; obtain ⟨q, h1, k⟩ := k; rw [asB_eq' h1]; exact k
  | ex x r1 => rw [h] at k; exact k
  | no => rw [h] at k; exact k
def asDl : D → Option (List D)
  | .lst ds => some ds
  | _ => none
theorem asDl_eq {d : D} {ds : List D} (h : asDl d = some ds) : d = .lst ds := by
  unfold asDl at h; split at h
  · injection h with h; rw [h]
  · cases h
/-! what is walked -/
theorem wi_iv {a : E} {K : Rs (List D) → Prop} (k : WE C a r fun x => match x with
    | .ok t r1 => Sm (frz t) fun d => Sm (items d) fun ds => K (.ok ds r1)
    | .ex x r1 => K (.ex x r1)
    | .no => K .no) : WI C (.iv a) r K := by
  unfold WE WI at *
  simp only [evI]
  cases h : evE C a r with
  | ok t r1 => rw [h] at k; obtain ⟨d, h1, ds, h2, k⟩ := k; simp only [h1, h2]; exact k
  | ex x r1 => rw [h] at k; exact k
  | no => rw [h] at k; exact k
theorem wi_rng1 {a : E} {K : Rs (List D) → Prop} (k : WE C a r fun x => match x with
    | .ok t r1 => Sm (asI t) fun n => Sc (-(2 ^ 62) ≤ n ∧ n < 2 ^ 62) (K (.ok ((List.range n.toNat).map fun (k : Nat) => .int (0 + (k : Int))) r1))
    | .ex x r1 => K (.ex x r1)
    | .no => K .no) : WI C (.rng1 a) r K := by
  unfold WE WI at *
  simp only [evI]
  cases h : evE C a r with
  | ok t r1 => rw [h] at k; obtain ⟨d, h1, h2, k⟩ := k; simp only [h1, if_pos h2]; exact k
  | ex x r1 => rw [h] at k; exact k
  | no => rw [h] at k; exact k
theorem wi_rng2 {a b : E} {K : Rs (List D) → Prop} (k : WE C a r fun x => match x with
    | .ok s r1 => WE C b r1 fun x => match x with
      | .ok t r2 => Sm (asI s) fun m => Sm (asI t) fun n => Sc ((-(2 ^ 62) ≤ m ∧ m < 2 ^ 62) ∧ -(2 ^ 62) ≤ n ∧ n < 2 ^ 62) (K (.ok ((List.range (n - m).toNat).map fun (k : Nat) => .int (m + (k : Int))) r2))
      | .ex x r1 => K (.ex x r1)
      | .no => K .no
    | .ex x r1 => K (.ex x r1)
    | .no => K .no) : WI C (.rng2 a b) r K := by
  unfold WE WI at *
  simp only [evI]
  cases h : evE C a r with
  | ok t r1 =>
    rw [h] at k
    dsimp only at k ⊢
    cases h3 : evE C b r1 with
    | ok t r2 => rw [h3] at k; obtain ⟨m, h1, n, h2, h4, k⟩ := k; simp only [h1, h2, if_pos h4]; exact k
    | ex x r1 => rw [h3] at k; exact k
    | no => rw [h3] at k; exact k
  | ex x r1 => rw [h] at k; exact k
  | no => rw [h] at k; exact k
def zipped : D → D → Option (List D × List D)
  | .lst xs, .lst ys => some (xs, ys)
  | .tup xs, .tup ys => some (xs, ys)
  | _, _ => none
theorem wi_zip {a b : E} {K : Rs (List D) → Prop} (k : WE C a r fun x => match x with
    | .ok s r1 => WE C b r1 fun x => match x with
      | .ok t r2 => Sm (frz s) fun d => Sm (frz t) fun e => Sm (zipped d e) fun xy => Sc (xy.1.length = xy.2.length) <| K (.ok ((xy.1.zip xy.2).map fun p => .tup [p.1, p.2]) r2)
      | .ex x r1 => K (.ex x r1)
      | .no => K .no
    | .ex x r1 => K (.ex x r1)
    | .no => K .no) : WI C (.zip a b) r K := by
  unfold WE WI at *
  simp only [evI]
  cases h : evE C a r with
  | ok t r1 =>
    rw [h] at k
    dsimp only at k ⊢
    cases h3 : evE C b r1 with
    | ok t r2 =>
      rw [h3] at k
      obtain ⟨d, h1, e, h2, ⟨xs, ys⟩, h5, h4, k⟩ := k
      simp only [h1, h2]
      unfold zipped at h5
      split at h5
      · injection h5 with h5; injection h5 with h5 h6; subst h5 h6
        dsimp only at h4 k ⊢
        rw [if_pos h4]; exact k
      · injection h5 with h5; injection h5 with h5 h6; subst h5 h6
        dsimp only at h4 k ⊢
        rw [if_pos h4]; exact k
      · cases h5
    | ex x r1 => rw [h3] at k; exact k
    | no => rw [h3] at k; exact k
  | ex x r1 => rw [h] at k; exact k
  | no => rw [h] at k; exact k
theorem wi_enum {a : E} {K : Rs (List D) → Prop} (k : WE C a r fun x => match x with
    | .ok t r1 => Sm (frz t) fun d => Sm (asDl d) fun ds => K (.ok ((ds.zipIdx).map fun p => .tup [.int p.2, p.1]) r1)
    | .ex x r1 => K (.ex x r1)
    | .no => K .no) : WI C (.enum a) r K := by
  unfold WE WI at *
  simp only [evI]
  cases h : evE C a r with
  | ok t r1 => rw [h] at k; obtain ⟨d, h2, ds, h5, k⟩ := k; have := asDl_eq h5; subst this; simp only [h2]; exact k
  | ex x r1 => rw [h] at k; exact k
  | no => rw [h] at k; exact k
/-! statements -/
theorem ws_skip {K : Fl → Prop} (k : K (.nx r)) : WS C kp .skip r K := by unfold WS; simp only [evS]; exact k
theorem ws_seq {a b : S} {K : Fl → Prop} (k : WS C kp a r fun x => match x with
    | .nx r1 => WS C kp b r1 K
    | x => K x) : WS C kp (.seq a b) r K := by
  unfold WS at *
  simp only [evS]
  cases h : evS C kp a r <;> (rw [h] at k; exact k)
theorem ws_asg {i : Nat} {e : E} {K : Fl → Prop} (k : WE C e r fun x => match x with
    | .ok t r1 => Sm (asgOk kp i r1) fun _ => K (.nx (r1.set i (some t)))
    | .ex x r1 => K (.ex x r1)
    | .no => K .no) : WS C kp (.asg i e) r K := by
  unfold WE WS at *
  simp only [evS]
  cases h : evE C e r with
  | ok t r1 => rw [h] at k; obtain ⟨_, h0, k⟩ := k; obtain ⟨h1, h2⟩ := asgOk_some h0; simp only [putS, h1, if_pos h2]; exact k
  | ex x r1 => rw [h] at k; exact k
  | no => rw [h] at k; exact k
theorem ws_unp {g : Tg} {e : E} {K : Fl → Prop} (k : WE C e r fun x => match x with
    | .ok t r1 => Sm (frz t) fun d => Sm (bindT kp g d r1) fun r2 => K (.nx r2)
    | .ex x r1 => K (.ex x r1)
    | .no => K .no) : WS C kp (.unp g e) r K := by
  unfold WE WS at *
  simp only [evS]
  cases h : evE C e r with
  | ok t r1 => rw [h] at k; obtain ⟨d, h1, r2, h2, k⟩ := k; simp only [h1, h2]; exact k
  | ex x r1 => rw [h] at k; exact k
  | no => rw [h] at k; exact k
theorem ws_par2 {i j : Nat} {a b : E} {K : Fl → Prop} (k : WE C a r fun x => match x with
    | .ok s r1 => WE C b r1 fun x => match x with
      | .ok t r2 => Sm (asgOk kp i r2) fun _ => Sm (asgOk kp j r2) fun _ => K (.nx ((r2.set i (some s)).set j (some t)))
      | .ex x r1 => K (.ex x r1)
      | .no => K .no
    | .ex x r1 => K (.ex x r1)
    | .no => K .no) : WS C kp (.par2 i j a b) r K := by
  unfold WE WS at *
  simp only [evS]
  cases h : evE C a r with
  | ok s r1 =>
    rw [h] at k
    dsimp only at k ⊢
    cases h3 : evE C b r1 with
    | ok t r2 => rw [h3] at k; obtain ⟨_, h0, _, h9, k⟩ := k; obtain ⟨h1, h4⟩ := asgOk_some h0; obtain ⟨h2, h5⟩ := asgOk_some h9; simp [putS, h1, h2, h4, h5]; exact k
    | ex x r1 => rw [h3] at k; exact k
    | no => rw [h3] at k; exact k
  | ex x r1 => rw [h] at k; exact k
  | no => rw [h] at k; exact k
/-- a[k] = t, of a list or a dict -/
def setIt : T → T → T → Option T
  | .lst ts, .sh (.int n), t => (ixN ts.length n).map fun j => .lst (ts.set j t)
  | .dK ks, q, t => match keyOf q with
    | some k => if ks.length < sizeLine ∧ (ks.map (·.1)).Nodup then some (.dK (putKT ks k t)) else none
    | none => none
  | _, _, _ => none
theorem ws_setI {i : Nat} {p : P} {e : E} {K : Fl → Prop} (k : WE C e r fun x => match x with
    | .ok t r1 => Sm (slot r1 i) fun s => WP p r1 fun q => Sm (setIt s q t) fun u => K (.nx (r1.set i (some u)))
    | .ex x r1 => K (.ex x r1)
    | .no => K .no) : WS C kp (.setI i p e) r K := by
  unfold WE WS at *
  simp only [evS]
  cases h : evE C e r with
  | ok t r1 =>
    rw [h] at k
    obtain ⟨s, h1, q, h2, u, h3, k⟩ := k
    simp only [h1, h2]
    unfold setIt at h3
    split at h3
    · rename_i ts n t
      rw [Option.map_eq_some_iff] at h3
      obtain ⟨j, h4, rfl⟩ := h3
      simp only [h4]; exact k
    · rename_i ks q t
      split at h3
      · rename_i k0 hk
        split at h3
        · rename_i hc
          injection h3 with h3; subst h3
          simp only [hk, if_pos hc]; exact k
        · cases h3
      · cases h3
    · cases h3
  | ex x r1 => rw [h] at k; exact k
  | no => rw [h] at k; exact k
def asLt : T → Option (List T)
  | .lst ts => some ts
  | _ => none
theorem asLt_eq {t : T} {ts : List T} (h : asLt t = some ts) : t = .lst ts := by
  unfold asLt at h; split at h
  · injection h with h; rw [h]
  · cases h
theorem we_dnew {K : Rs T → Prop} (k : K (.ok (.dK []) r)) : WE C .dnew r K := by unfold WE; simp only [evE]; exact k
theorem ws_rse {x : Str} {K : Fl → Prop} (k : K (.ex ⟨x, []⟩ r)) : WS C kp (.rse x) r K := by unfold WS; simp only [evS]; exact k
theorem ws_tryX {b : S} {x : Str} {yes no : List Str} {h : HS} {K : Fl → Prop} (k : WS C kp b r fun y => match y with
    | .ex e r1 => Br (decide (e.cls ∈ yes)) (K (runHS kp h r1)) (Sc (e.cls ∈ no) (K (.ex e r1)))
    | y => K y) : WS C kp (.tryX b x yes no h) r K := by
  unfold WS at *
  simp only [evS]
  cases hb : evS C kp b r with
  | ex e r1 =>
    rw [hb] at k
    dsimp only at k ⊢
    by_cases h1 : e.cls ∈ yes
    · rw [if_pos h1]
      exact k.1 (decide_eq_true h1)
    · rw [if_neg h1]
      obtain ⟨h2, k⟩ := k.2 (decide_eq_false h1)
      rw [if_pos h2]
      exact k
  | nx r1 => rw [hb] at k; exact k
  | rt t r1 => rw [hb] at k; exact k
  | bk r1 => rw [hb] at k; exact k
  | ct r1 => rw [hb] at k; exact k
  | no => rw [hb] at k; exact k
theorem ws_ins {i : Nat} {a e : E} {K : Fl → Prop} (k : Sm (slot r i) fun s => Sm (asLt s) fun _ => WE C a r fun x => match x with
    | .ok s r1 => WE C e r1 fun x => match x with
      | .ok t r2 => Sm (slot r2 i) fun u => Sm (asLt u) fun ts => Sm (asI s) fun n => Sc (ts.length < sizeLine ∧ 0 ≤ n ∧ n < 2 ^ 63) (K (.nx (r2.set i (some (.lst (ts.take n.toNat ++ [t] ++ ts.drop n.toNat))))))
      | .ex x r2 => K (.ex x r2)
      | .no => K .no
    | .ex x r1 => K (.ex x r1)
    | .no => K .no) : WS C kp (.ins i a e) r K := by
  obtain ⟨s, h1, ts, h2, k⟩ := k
  have := asLt_eq h2; subst this
  unfold WE WS at *
  simp only [evS, h1]
  cases h : evE C a r with
  | ok s r1 =>
    rw [h] at k
    dsimp only at k ⊢
    cases h3 : evE C e r1 with
    | ok t r2 =>
      rw [h3] at k
      obtain ⟨u, h4, ts, h5, n, h6, h7, k⟩ := k
      have := asLt_eq h5; subst this
      simp only [h4, h6, if_pos h7]; exact k
    | ex x r2 => rw [h3] at k; exact k
    | no => rw [h3] at k; exact k
  | ex x r1 => rw [h] at k; exact k
  | no => rw [h] at k; exact k
theorem asI_eq' {t : T} {i : Int} (h : asI t = some i) : t = .sh (.int i) := by
  unfold asI at h; split at h
  · injection h with h; rw [h]
  · cases h
theorem we_dlit {kvs : List (Key × D)} {K : Rs T → Prop} (k : Sc (kvs ≠ [] ∧ kvs.length ≤ 15 ∧ (kvs.map (·.1)).Nodup) (K (.ok (.dK (kvs.map fun p => (p.1, .sh p.2))) r))) : WE C (.dlit kvs) r K := by
  unfold WE
  simp only [evE]
  rw [if_pos k.1]
  exact k.2
theorem we_sortIt {a : P} {K : Rs T → Prop} (k : WP a r fun t => Sm (asK t) fun ks => Sm (allK ks) fun ds => Sm (intsK ds) fun es => K (.ok (.lst ((sortE es).map pairT)) r)) : WE C (.sortIt a) r K := by
  obtain ⟨t, h1, ks, h2, ds, h3, es, h4, k⟩ := k
  unfold WE
  simp only [evE, h1, h2, h3, h4]; exact k
theorem we_n1 {o : Op1} {q : P} {K : Rs T → Prop} (k : WP q r fun t => Sm (ev1 o t) fun u => K (.ok u r)) : WE C (.n1 o q) r K := by
  obtain ⟨t, h1, u, h2, k⟩ := k
  unfold WE
  simp only [evE, h1, h2]; exact k
theorem asD_eq' {t : T} {d : D} (h : asD t = some d) : t = .sh d := by cases t <;> simp only [asD] at h <;> (try cases h) <;> rfl
theorem we_vk {o : Op2} {i : Nat} {b : E} {K : Rs T → Prop} (k : Sm (slot r i) fun _ => WE C b r fun x => match x with
    | .ok t r1 => Sm (slot r1 i) fun s => Sm (frz t) fun e => Sm (ev2 o s (.sh e)) fun u => Sm (asD u) fun d => K (.ok (.sh d) r1)
    | .ex x r1 => K (.ex x r1)
    | .no => K .no) : WE C (.vk o i b) r K := by
  obtain ⟨t0, h0, k⟩ := k
  unfold WE at *
  simp only [evE, h0]
  cases h : evE C b r with
  | ok t r1 =>
    rw [h] at k
    obtain ⟨s, h1, e, h2, u, h3, d, h4, k⟩ := k
    have := asD_eq' h4; subst this
    simp only [h1, h2, h3]; exact k
  | ex x r1 => rw [h] at k; exact k
  | no => rw [h] at k; exact k
def asOD : D → Option (Str × List (Str × D))
  | .obj c fs => some (c, fs)
  | _ => none
theorem asOD_eq {d : D} {k : Str} {fs : List (Str × D)} (h : asOD d = some (k, fs)) : d = .obj k fs := by
  unfold asOD at h; split at h
  · injection h with h; injection h with h1 h2; rw [h1, h2]
  · cases h
theorem we_lenO {ks : List Str} {a : E} {K : Rs T → Prop} (k : WE C a r fun x => match x with
    | .ok t r1 => Sm (frz t) fun d => Sm (asOD d) fun kf => Sc (kf.1 ∈ ks) <| WC C (kf.1, "__len__") [.sh (.obj kf.1 kf.2)] fun y => match y with
      | .ok u _ => Sm (asI u) fun n => Sc (0 ≤ n ∧ n < 2 ^ 62) (K (.ok (.sh (.int n)) r1))
      | _ => K .no
    | .ex x r1 => K (.ex x r1)
    | .no => K .no) : WE C (.lenO ks a) r K := by
  unfold WE WC at *
  simp only [evE]
  cases h : evE C a r with
  | ok t r1 =>
    rw [h] at k
    obtain ⟨d, h1, ⟨c0, fs⟩, h2, h3, k⟩ := k
    have := asOD_eq h2; subst this
    simp only [h1]
    rw [if_pos h3]
    dsimp only at k
    cases hC : C (c0, "__len__") [.sh (.obj c0 fs)] with
    | ok u fin =>
      rw [hC] at k
      obtain ⟨n, h4, h5, k⟩ := k
      have := asI_eq' h4; subst this
      dsimp only
      rw [if_pos h5]
      exact k
    | ex x fin => rw [hC] at k; exact k
    | no => rw [hC] at k; exact k
  | ex x r1 => rw [h] at k; exact k
  | no => rw [h] at k; exact k
theorem we_callP {f : Fk} {i n : Nat} {K : Rs T → Prop} (k : Sm (slot r i) fun t => Sm (asLt t) fun xs => Sc (xs.length = n) <| WC C f xs fun y => match y with
    | .ok t fin => Sm (allT fin) fun ts => K (.ok t (r.set i (some (.lst ts))))
    | .ex x fin => Sm (allT fin) fun ts => K (.ex x (r.set i (some (.lst ts))))
    | .no => K .no) : WE C (.callP f i n) r K := by
  obtain ⟨t, h1, xs, h2, h3, k⟩ := k
  have := asLt_eq h2; subst this
  unfold WE WC at *
  simp only [evE, h1]
  rw [if_pos h3]
  cases hC : C f xs with
  | ok u fin =>
    rw [hC] at k
    obtain ⟨ts, h4, k⟩ := k
    simp only [h4]; exact k
  | ex u fin =>
    rw [hC] at k
    obtain ⟨ts, h4, k⟩ := k
    simp only [h4]; exact k
  | no => rw [hC] at k; exact k
def asKt : T → Option (List (Key × T))
  | .dK ks => some ks
  | _ => none
theorem asKt_eq {t : T} {ts : List (Key × T)} (h : asKt t = some ts) : t = .dK ts := by
  unfold asKt at h; split at h
  · injection h with h; rw [h]
  · cases h
theorem setIt_K {ks : List (Key × T)} {q t u : T} (h : setIt (.dK ks) q t = some u) : ∃ k, keyOf q = some k ∧ (ks.length < sizeLine ∧ (ks.map (·.1)).Nodup) ∧ u = .dK (putKT ks k t) := by
  unfold setIt at h
  dsimp only at h
  split at h
  · rename_i k0 hk
    split at h
    · rename_i hc
      injection h with h
      exact ⟨k0, hk, hc, h.symm⟩
    · cases h
  · cases h
theorem ws_setE {i : Nat} {p e : E} {K : Fl → Prop} (k : WE C e r fun x => match x with
    | .ok t r1 => Sm (slot r1 i) fun s => Sm (asKt s) fun _ => WE C p r1 fun y => match y with
      | .ok q r2 => Sm (slot r2 i) fun s => Sm (asKt s) fun _ => Sm (setIt s q t) fun u => K (.nx (r2.set i (some u)))
      | .ex x r2 => K (.ex x r2)
      | .no => K .no
    | .ex x r1 => K (.ex x r1)
    | .no => K .no) : WS C kp (.setE i p e) r K := by
  unfold WE WS at *
  simp only [evS]
  cases h : evE C e r with
  | ok t r1 =>
    rw [h] at k
    obtain ⟨s, h1, ks, h2, k⟩ := k
    have := asKt_eq h2; subst this
    simp only [h1]
    cases h3 : evE C p r1 with
    | ok q r2 =>
      rw [h3] at k
      obtain ⟨s, h4, ks, h5, u, h6, k⟩ := k
      have := asKt_eq h5; subst this
      obtain ⟨k0, g1, g2, g3⟩ := setIt_K h6
      subst g3
      simp only [h4, g1, if_pos g2]; exact k
    | ex x r2 => rw [h3] at k; exact k
    | no => rw [h3] at k; exact k
  | ex x r1 => rw [h] at k; exact k
  | no => rw [h] at k; exact k
theorem ws_setP {i j : Nat} {p : P} {e : E} {K : Fl → Prop} (k : WE C e r fun x => match x with
    | .ok t r1 => Sm (slot r1 i) fun s => Sm (asLt s) fun xs => WP p r1 fun q => Sm (xs[j]?) fun y => Sm (asKt y) fun _ => Sm (setIt y q t) fun u => K (.nx (r1.set i (some (.lst (xs.set j u)))))
    | .ex x r1 => K (.ex x r1)
    | .no => K .no) : WS C kp (.setP i j p e) r K := by
  unfold WE WS at *
  simp only [evS]
  cases h : evE C e r with
  | ok t r1 =>
    rw [h] at k
    obtain ⟨s, h1, xs, h2, q, h3, y, h4, ks, h5, u, h6, k⟩ := k
    have := asLt_eq h2; subst this
    have := asKt_eq h5; subst this
    obtain ⟨k0, g1, g2, g3⟩ := setIt_K h6
    subst g3
    simp only [h1, h3, h4, g1, if_pos g2]; exact k
  | ex x r1 => rw [h] at k; exact k
  | no => rw [h] at k; exact k
theorem ws_app {i : Nat} {e : E} {K : Fl → Prop} (k : Sm (slot r i) fun s => Sm (asLt s) fun _ => WE C e r fun x => match x with
    | .ok t r1 => Sm (slot r1 i) fun s => Sm (asLt s) fun ts => Sc (ts.length < sizeLine) (K (.nx (r1.set i (some (.lst (ts ++ [t]))))))
    | .ex x r1 => K (.ex x r1)
    | .no => K .no) : WS C kp (.app i e) r K := by
  obtain ⟨s, h1, ts, h2, k⟩ := k
  have := asLt_eq h2; subst this
  unfold WE WS at *
  simp only [evS, h1]
  cases h : evE C e r with
  | ok t r1 =>
    rw [h] at k
    obtain ⟨s, h1, ts, h2, h3, k⟩ := k
    have := asLt_eq h2; subst this
    simp only [h1, if_pos h3]; exact k
  | ex x r1 => rw [h] at k; exact k
  | no => rw [h] at k; exact k
theorem ws_ext {i : Nat} {e : E} {K : Fl → Prop} (k : Sm (slot r i) fun s => Sm (asLt s) fun _ => WE C e r fun x => match x with
    | .ok t r1 => Sm (slot r1 i) fun s => Sm (asLt s) fun ts => Sm (frz t) fun d => Sm (asDl d) fun ds => Sc (ts.length + ds.length ≤ sizeLine) (K (.nx (r1.set i (some (.lst (ts ++ ds.map .sh))))))
    | .ex x r1 => K (.ex x r1)
    | .no => K .no) : WS C kp (.ext i e) r K := by
  obtain ⟨s, h1, ts, h2, k⟩ := k
  have := asLt_eq h2; subst this
  unfold WE WS at *
  simp only [evS, h1]
  cases h : evE C e r with
  | ok t r1 =>
    rw [h] at k
    obtain ⟨s, h1, ts, h2, d, h4, ds, h5, h3, k⟩ := k
    have := asDl_eq h5; subst this
    have := asLt_eq h2; subst this
    simp only [h1, h4, if_pos h3]; exact k
  | ex x r1 => rw [h] at k; exact k
  | no => rw [h] at k; exact k
theorem ws_aug {i : Nat} {o : Op2} {e : E} {K : Fl → Prop} (k : Sm (slot r i) fun s => Sm (asI s) fun a => WE C e r fun x => match x with
    | .ok t r1 => Sm (asI t) fun b => Sm (augV o a b) fun z => Sm (asgOk kp i r1) fun _ => K (.nx (r1.set i (some (tI z))))
    | .ex x r1 => K (.ex x r1)
    | .no => K .no) : WS C kp (.aug i o e) r K := by
  obtain ⟨s, h1, ts, h2, k⟩ := k
  have := asI_eq' h2; subst this
  unfold WE WS at *
  simp only [evS, h1]
  cases h : evE C e r with
  | ok t r1 =>
    rw [h] at k
    obtain ⟨b, h1, z, h2, _, h0, k⟩ := k
    obtain ⟨h3, h4⟩ := asgOk_some h0
    simp only [h1, h2, putS, h3, if_pos h4]; exact k
  | ex x r1 => rw [h] at k; exact k
  | no => rw [h] at k; exact k
theorem ws_ite {c : E} {a b : S} {K : Fl → Prop} (k : WT C c r fun x => match x with
    | .ok q r1 => Br q (WS C kp a r1 K) (WS C kp b r1 K)
    | .ex x r1 => K (.ex x r1)
    | .no => K .no) : WS C kp (.ite c a b) r K := by
  unfold WT WS at *
  simp only [evS]
  cases h : tsE C c r with
  | ok q r1 =>
    rw [h] at k
    cases q with
    | true => exact k.1 rfl
    | false => exact k.2 rfl
  | ex x r1 => rw [h] at k; exact k
  | no => rw [h] at k; exact k
theorem ws_ret {e : E} {K : Fl → Prop} (k : WE C e r fun x => match x with
    | .ok t r1 => K (.rt t r1)
    | .ex x r1 => K (.ex x r1)
    | .no => K .no) : WS C kp (.ret e) r K := by
  unfold WE WS at *
  simp only [evS]
  cases h : evE C e r <;> (rw [h] at k; exact k)
theorem ws_retN {K : Fl → Prop} (k : K (.rt (.sh .non) r)) : WS C kp .retN r K := by unfold WS; simp only [evS]; exact k
theorem ws_ex {e : E} {K : Fl → Prop} (k : WE C e r fun x => match x with
    | .ok t r1 => K (.nx r1)
    | .ex x r1 => K (.ex x r1)
    | .no => K .no) : WS C kp (.ex e) r K := by
  unfold WE WS at *
  simp only [evS]
  cases h : evE C e r <;> (rw [h] at k; exact k)
theorem ws_brk {K : Fl → Prop} (k : K (.bk r)) : WS C kp .brk r K := by unfold WS; simp only [evS]; exact k
theorem ws_cnt {K : Fl → Prop} (k : K (.ct r)) : WS C kp .cnt r K := by unfold WS; simp only [evS]; exact k
def asOb : T → Option (Str × List (Str × T))
  | .obj c fs => some (c, fs)
  | _ => none
theorem asOb_eq {t : T} {c : Str} {fs : List (Str × T)} (h : asOb t = some (c, fs)) : t = .obj c fs := by
  unfold asOb at h; split at h
  · injection h with h; injection h with h1 h2; rw [h1, h2]
  · cases h
theorem ws_setF {i : Nat} {f : Str} {ks : List Str} {e : E} {K : Fl → Prop} (k : WE C e r fun x => match x with
    | .ok t r1 => Sm (slot r1 i) fun s => Sm (asOb s) fun cf => Sc (cf.2.length < 1000 ∧ cf.1 ∈ ks) <| K (.nx (r1.set i (some (.obj cf.1 (putT f t cf.2)))))
    | .ex x r1 => K (.ex x r1)
    | .no => K .no) : WS C kp (.setF i f ks e) r K := by
  unfold WE WS at *
  simp only [evS]
  cases h : evE C e r with
  | ok t r1 => rw [h] at k; obtain ⟨s, h1, ⟨c, fs⟩, h5, h2, k⟩ := k; have := asOb_eq h5; subst this; simp only [h1, if_pos h2]; exact k
  | ex x r1 => rw [h] at k; exact k
  | no => rw [h] at k; exact k
@[irreducible] def WFor (C : Ct) (kp : Nat → Bool) (g : Tg) (b : S) (ds : List D) (r : Env1) (K : Fl → Prop) : Prop := K (forRun kp g (evS C kp b) ds r)
theorem ws_for {g : Tg} {it : E} {b : S} {K : Fl → Prop} (k : WI C it r fun x => match x with
    | .ok ds r1 => WFor C kp g b ds r1 K
    | .ex x r1 => K (.ex x r1)
    | .no => K .no) : WS C kp (.for g it b) r K := by
  unfold WI at k
  unfold WS
  simp only [evS]
  cases h : evI C it r <;> (rw [h] at k; first | exact k | (dsimp only at k; unfold WFor at k; exact k))
/-- a for loop by an invariant: I ds r before the turn of the head of ds -/
theorem for_inv {g : Tg} {b : S} {K : Fl → Prop} (I : List D → Env1 → Prop) : ∀ {ds : List D} {r : Env1}, I ds r →
    (∀ r, I [] r → K (.nx r)) →
    (∀ d ds r, I (d :: ds) r → Sm (bindT kp g d r) fun r1 => WS C kp b r1 fun x => match x with
      | .nx r2 => I ds r2
      | .ct r2 => I ds r2
      | .bk r2 => K (.nx r2)
      | x => K x) → WFor C kp g b ds r K
  | [], r, h0, h1, _ => by unfold WFor; exact h1 r h0
  | d :: ds, r, h0, h1, h2 => by
    obtain ⟨r1, e1, k⟩ := h2 d ds r h0
    unfold WFor
    simp only [forRun, e1]
    unfold WS at k
    cases h : evS C kp b r1 with
    | nx r2 => rw [h] at k; have z := for_inv I k h1 h2; unfold WFor at z; exact z
    | ct r2 => rw [h] at k; have z := for_inv I k h1 h2; unfold WFor at z; exact z
    | bk r2 => rw [h] at k; exact k
    | rt t r2 => rw [h] at k; exact k
    | ex x r2 => rw [h] at k; exact k
    | no => rw [h] at k; exact k
/-- a comprehension by an invariant -/
theorem lc_inv {g : Tg} {vs : List Nat} {cond elt : E} (I : List D → List T → Env1 → Prop) : ∀ {ds : List D} {r : Env1} {acc : List T}, I ds acc r →
    (∀ d ds acc r, I (d :: ds) acc r → Sm (bindT (fun _ => false) g d r) fun r1 => WT C cond r1 fun x => match x with
      | .ok q r2 => (q = true → WE C elt r2 fun x => match x with
          | .ok t r3 => acc.length < sizeLine ∧ I ds (acc ++ [t]) (wipe1 r3 vs)
          | _ => False) ∧ (q = false → I ds acc (wipe1 r2 vs))
      | _ => False) → ∃ ts r2, lcRun g vs (tsE C cond) (evE C elt) ds r acc = .ok ts r2 ∧ I [] ts r2
  | [], r, acc, h0, _ => ⟨acc, r, rfl, h0⟩
  | d :: ds, r, acc, h0, h2 => by
    obtain ⟨r1, e1, k⟩ := h2 d ds acc r h0
    simp only [lcRun, e1]
    unfold WT at k
    cases h : tsE C cond r1 with
    | ok q r2 =>
      rw [h] at k
      cases q with
      | false => exact lc_inv I (k.2 rfl) h2
      | true =>
        have k := k.1 rfl
        unfold WE at k
        dsimp only
        cases h3 : evE C elt r2 with
        | ok t r3 =>
          rw [h3] at k
          simp only [if_pos k.1]
          exact lc_inv I k.2 h2
        | ex x r3 => rw [h3] at k; exact k.elim
        | no => rw [h3] at k; exact k.elim
    | ex x r1 => rw [h] at k; exact k.elim
    | no => rw [h] at k; exact k.elim
theorem WLc.inv {g : Tg} {vs : List Nat} {cond elt : E} {ds : List D} {r : Env1} {K : List T → Env1 → Prop} (I : List D → List T → Env1 → Prop) (h0 : I ds [] r)
    (h : ∀ d ds acc r, I (d :: ds) acc r → Sm (bindT (fun _ => false) g d r) fun r1 => WT C cond r1 fun x => match x with
      | .ok q r2 => (q = true → WE C elt r2 fun x => match x with
          | .ok t r3 => acc.length < sizeLine ∧ I ds (acc ++ [t]) (wipe1 r3 vs)
          | _ => False) ∧ (q = false → I ds acc (wipe1 r2 vs))
      | _ => False) (k : ∀ ts r2, I [] ts r2 → K ts r2) : WLc C g vs cond elt ds r [] K := by
  obtain ⟨ts, r2, e, i⟩ := lc_inv (C := C) (g := g) (vs := vs) (cond := cond) (elt := elt) I h0 h
  exact ⟨ts, r2, e, k ts r2 i⟩
/-- a comprehension whose turns leave the slots as they are -/
theorem WLc.flt {i : Nat} {cond elt : E} {ds : List D} {r : Env1} {K : List T → Env1 → Prop} (f : D → T) (p : D → Bool) (hi : r[i]? = some none) (hl : ds.length < sizeLine)
    (h : ∀ d ∈ ds, WT C cond (r.set i (some (.sh d))) fun x => match x with
      | .ok q r2 => q = p d ∧ r2 = r.set i (some (.sh d)) ∧ (q = true → WE C elt r2 fun x => x = .ok (f d) r2)
      | _ => False) (k : K ((ds.filter p).map f) r) : WLc C (.var i) [i] cond elt ds r [] K := by
  have hlen : i < r.length := by
    rcases Nat.lt_or_ge i r.length with q | q
    · exact q
    · rw [List.getElem?_eq_none q] at hi; cases hi
  have wp : ∀ x : Option T, (r.set i x).set i none = r := fun x => by
    rw [List.set_set]
    exact set_self hi
  refine WLc.inv (fun rest acc r' => r' = r ∧ (∀ d ∈ rest, d ∈ ds) ∧ acc ++ (rest.filter p).map f = (ds.filter p).map f ∧ acc.length + rest.length ≤ ds.length) ⟨rfl, fun d h => h, by simp, by simp⟩ ?_ ?_
  · rintro d rest acc r' ⟨h0, hd, ha, hle⟩
    rw [h0]
    refine .of (t := r.set i (some (.sh d))) (by simp only [bindT]; rw [if_neg (by simp), if_pos hlen]) ?_
    have z := h d (hd d List.mem_cons_self)
    unfold WT at z ⊢
    cases e : tsE C cond (r.set i (some (.sh d))) with
    | ok q r2 =>
      rw [e] at z
      obtain ⟨hq, rfl, z⟩ := z
      dsimp only
      refine ⟨fun h1 => ?_, fun h1 => ?_⟩
      · have z := z h1
        unfold WE at z ⊢
        rw [z]
        dsimp only
        rw [List.length_cons] at hle
        refine ⟨by omega, ?_, fun d h => hd d (List.mem_cons_of_mem _ h), ?_, by simp; omega⟩
        · simp only [wipe1]; exact wp _
        · rw [← ha, List.filter_cons, if_pos (by rw [← hq, h1])]; simp
      · rw [List.length_cons] at hle
        refine ⟨?_, fun d h => hd d (List.mem_cons_of_mem _ h), ?_, by omega⟩
        · simp only [wipe1]; exact wp _
        · rw [← ha, List.filter_cons, if_neg (by rw [← hq, h1]; simp)]
    | ex x r1 => rw [e] at z; exact z.elim
    | no => rw [e] at z; exact z.elim
  · rintro ts r2 ⟨h0, _, ha, _⟩
    rw [h0]
    have : ts = (ds.filter p).map f := by simpa using ha
    rw [this]; exact k
theorem WLc.map {i : Nat} {elt : E} {ds : List D} {r : Env1} {K : List T → Env1 → Prop} (f : D → T) (hi : r[i]? = some none) (hl : ds.length < sizeLine)
    (h : ∀ d ∈ ds, WE C elt (r.set i (some (.sh d))) fun x => x = .ok (f d) (r.set i (some (.sh d)))) (k : K (ds.map f) r) : WLc C (.var i) [i] .yes elt ds r [] K := by
  refine WLc.flt f (fun _ => true) hi hl (fun d hd => wt_yes ⟨rfl, rfl, fun _ => h d hd⟩) ?_
  rw [List.filter_eq_self.mpr (fun _ _ => rfl)]; exact k
/-- .. of frozen values -/
theorem WLc.mapD {i : Nat} {elt : E} {ds : List D} {r : Env1} {K : List T → Env1 → Prop} (f : D → D) (hi : r[i]? = some none) (hl : ds.length < sizeLine)
    (h : ∀ d ∈ ds, WE C elt (r.set i (some (.sh d))) fun x => x = .ok (.sh (f d)) (r.set i (some (.sh d)))) (k : K ((ds.map f).map .sh) r) : WLc C (.var i) [i] .yes elt ds r [] K :=
  WLc.map (fun d => .sh (f d)) hi hl h (by rw [List.map_map] at k; exact k)
theorem WLc.fltD {i : Nat} {cond elt : E} {ds : List D} {r : Env1} {K : List T → Env1 → Prop} (f : D → D) (p : D → Bool) (hi : r[i]? = some none) (hl : ds.length < sizeLine)
    (h : ∀ d ∈ ds, WT C cond (r.set i (some (.sh d))) fun x => match x with
      | .ok q r2 => q = p d ∧ r2 = r.set i (some (.sh d)) ∧ (q = true → WE C elt r2 fun x => x = .ok (.sh (f d)) r2)
      | _ => False) (k : K (((ds.filter p).map f).map .sh) r) : WLc C (.var i) [i] cond elt ds r [] K :=
  WLc.flt (fun d => .sh (f d)) p hi hl h (by rw [List.map_map] at k; exact k)
/-- any target; the turns leave the slots as they are -/
theorem WLc.mapG {g : Tg} {vs : List Nat} {elt : E} {ds : List D} {r : Env1} {K : List T → Env1 → Prop} (f : D → D) (rb : D → Env1) (hl : ds.length < sizeLine)
    (h : ∀ d ∈ ds, bindT (fun _ => false) g d r = some (rb d) ∧ WE C elt (rb d) fun x => ∃ r3, x = .ok (.sh (f d)) r3 ∧ wipe1 r3 vs = r) (k : K ((ds.map f).map .sh) r) : WLc C g vs .yes elt ds r [] K := by
  refine WLc.inv (fun rest acc r' => r' = r ∧ (∀ d ∈ rest, d ∈ ds) ∧ acc ++ (rest.map f).map .sh = (ds.map f).map .sh ∧ acc.length + rest.length ≤ ds.length) ⟨rfl, fun d h => h, by simp, by simp⟩ ?_ ?_
  · rintro d rest acc r' ⟨h0, hd, ha, hle⟩
    rw [h0]
    obtain ⟨e1, z⟩ := h d (hd d List.mem_cons_self)
    refine .of e1 (wt_yes ⟨fun _ => ?_, fun q => by cases q⟩)
    unfold WE at z ⊢
    obtain ⟨r3, e2, e3⟩ := z
    rw [e2]
    dsimp only
    rw [List.length_cons] at hle
    exact ⟨by omega, e3, fun d h => hd d (List.mem_cons_of_mem _ h), by rw [← ha]; simp, by simp; omega⟩
  · rintro ts r2 ⟨h0, _, ha, _⟩
    rw [h0]
    have : ts = (ds.map f).map .sh := by simpa using ha
    rw [this]; exact k
/-- the turns may change the slots: J of the slots, P of what each turn puts in -/
theorem WLc.mapS {g : Tg} {vs : List Nat} {elt : E} {ds : List D} {r : Env1} {K : List T → Env1 → Prop} (J : Env1 → Prop) (P : D → T → Prop) (hl : ds.length < sizeLine) (h0 : J r)
    (h : ∀ d ∈ ds, ∀ r, J r → Sm (bindT (fun _ => false) g d r) fun r1 => WE C elt r1 fun x => match x with
      | .ok t r3 => P d t ∧ J (wipe1 r3 vs)
      | _ => False) (k : ∀ ts r', ts.length = ds.length → (∀ t ∈ ts, ∃ d ∈ ds, P d t) → J r' → K ts r') : WLc C g vs .yes elt ds r [] K := by
  refine WLc.inv (fun rest acc r' => J r' ∧ (∀ d ∈ rest, d ∈ ds) ∧ (∀ t ∈ acc, ∃ d ∈ ds, P d t) ∧ acc.length + rest.length = ds.length) ⟨h0, fun d h => h, by simp, by simp⟩ ?_ ?_
  · rintro d rest acc r' ⟨hj, hd, ha, hle⟩
    obtain ⟨r1, e1, z⟩ := h d (hd d List.mem_cons_self) r' hj
    refine .of e1 (wt_yes ⟨fun _ => ?_, fun q => by cases q⟩)
    unfold WE at z ⊢
    cases e : evE C elt r1 with
    | ok t0 r3 =>
      rw [e] at z
      dsimp only at z ⊢
      rw [List.length_cons] at hle
      refine ⟨by omega, z.2, fun d h => hd d (List.mem_cons_of_mem _ h), fun t h => ?_, by simp; omega⟩
      rcases List.mem_append.mp h with h | h
      · exact ha t h
      · have : t = t0 := by simpa using h
        subst this
        exact ⟨d, hd d List.mem_cons_self, z.1⟩
    | ex x r3 => rw [e] at z; exact z.elim
    | no => rw [e] at z; exact z.elim
  · rintro ts r2 ⟨hj, _, ha, hl⟩
    exact k ts r2 (by simpa using hl) ha hj
/-- .. that leave them, frozen values -/
theorem shs_of {ts : List T} {P : D → Prop} (h : ∀ t ∈ ts, ∃ e, t = .sh e ∧ P e) : ∃ es : List D, ts = es.map .sh ∧ ∀ e ∈ es, P e := by
  induction ts with
  | nil => exact ⟨[], rfl, by simp⟩
  | cons t ts ih =>
    obtain ⟨es, rfl, h2⟩ := ih fun t ht => h t (List.mem_cons_of_mem _ ht)
    obtain ⟨e, rfl, he⟩ := h t List.mem_cons_self
    exact ⟨e :: es, rfl, by simp; exact ⟨he, h2⟩⟩
theorem WLc.mapP {g : Tg} {vs : List Nat} {elt : E} {ds : List D} {r : Env1} {K : List T → Env1 → Prop} (P : D → Prop) (hl : ds.length < sizeLine)
    (h : ∀ d ∈ ds, Sm (bindT (fun _ => false) g d r) fun r1 => WE C elt r1 fun x => match x with
      | .ok t r3 => (∃ e, t = .sh e ∧ P e) ∧ wipe1 r3 vs = r
      | _ => False) (k : ∀ es : List D, es.length = ds.length → (∀ e ∈ es, P e) → K (es.map .sh) r) : WLc C g vs .yes elt ds r [] K := by
  refine WLc.mapS (fun r' => r' = r) (fun _ t => ∃ e, t = .sh e ∧ P e) hl rfl (fun d hd r' e => by rw [e]; exact h d hd) ?_
  intro ts r' h1 h2 h3
  obtain ⟨es, rfl, h4⟩ := shs_of (P := P) fun t ht => (h2 t ht).elim fun _ h => h.2
  rw [h3]
  exact k es (by simpa using h1) h4
/-! functions -/
theorem wc_fn0 {Q : Fk → Option Fn} {f : Fk} {n : Nat} {F : Fn} {ts : List T} {K : Cr → Prop} (hQ : Q f = some F) (h1 : ts.length = F.np ∧ F.keep.length = F.np ∧ F.np ≤ F.ns)
    (k : WS (callN Q n) F.kp F.body (ts.map some ++ List.replicate (F.ns - F.np) none) fun x => match x with
      | .nx r => K (.ok (.sh .non) (finOf F.keep r))
      | .rt t r => K (.ok t (finOf F.keep r))
      | .ex x r => K (.ex x (finOf F.keep r))
      | _ => False) : WC (callN Q (n + 1)) f ts K := by
  unfold WC WS at *
  simp only [callN, hQ, runF, if_pos h1]
  cases h : evS (callN Q n) F.kp F.body (ts.map some ++ List.replicate (F.ns - F.np) none) <;> (rw [h] at k; first | exact k | exact k.elim)
def kpOf (ks : List Bool) (i : Nat) : Bool := ks.getD i false
theorem wc_fn {Q : Fk → Option Fn} {f : Fk} {n np ns : Nat} {keep : List Bool} {b : S} {ts : List T} {K : Cr → Prop} (hQ : Q f = some ⟨np, ns, keep, b⟩) (h1 : ts.length = np ∧ keep.length = np ∧ np ≤ ns)
    (k : WS (callN Q n) (kpOf keep) b (ts.map some ++ List.replicate (ns - np) none) fun x => match x with
      | .nx r => K (.ok (.sh .non) (finOf keep r))
      | .rt t r => K (.ok t (finOf keep r))
      | .ex x r => K (.ex x (finOf keep r))
      | _ => False) : WC (callN Q (n + 1)) f ts K := wc_fn0 hQ h1 k
theorem ws_mid {a b : S} {K : Fl → Prop} (I : Env1 → Prop) (h : WS C kp a r fun x => match x with
    | .nx r1 => I r1
    | _ => False) (k : ∀ r1, I r1 → WS C kp b r1 K) : WS C kp (.seq a b) r K := by
  unfold WS at *
  simp only [evS]
  cases e : evS C kp a r <;> (rw [e] at h; first | exact k _ h | exact h.elim)
theorem free_shs {ds : List D} : Ts.free (ds.map .sh) = true := by induction ds <;> simp_all [Ts.free, T.free]
theorem toD_shs {ds : List D} : Ts.toD (ds.map .sh) = ds := by
  induction ds with
  | nil => rfl
  | cons d ds ih => simp only [List.map_cons, Ts.toD, T.toD, ih]
theorem frz_shs {ds : List D} : frz (.lst (ds.map .sh)) = some (.lst ds) := by simp only [frz, T.free, free_shs, if_true, T.toD, toD_shs]
theorem frz_shu {ds : List D} : frz (.tup (ds.map .sh)) = some (.tup ds) := by simp only [frz, T.free, free_shs, if_true, T.toD, toD_shs]
theorem allD_shs {ds : List D} : allD (ds.map .sh) = some ds := by
  induction ds with
  | nil => rfl
  | cons a l ih => simp only [List.map_cons, allD, asD, ih]
theorem map_tI {ns : List Int} : ns.map tI = (ns.map D.int).map T.sh := by rw [List.map_map]; rfl
/-! steps found by instances -/
class Step (G : Prop) (G' : outParam Prop) : Prop where
  h : G' → G
instance i_wp_lit {d : D} {K : T → Prop} : Step (WP (.lit d) r K) (K (.sh d)) := ⟨wp_lit⟩
instance i_wp_glo {x : Str} {d : D} {K : T → Prop} : Step (WP (.glo x d) r K) (K (.sh d)) := ⟨wp_glo⟩
instance i_wp_var {i : Nat} {K : T → Prop} : Step (WP (.var i) r K) (Sm (slot r i) K) := ⟨wp_var⟩
instance i_wp_fld {p : P} {f : Str} {cs : List Str} {K : T → Prop} : Step (WP (.fld p f cs) r K) (WP p r fun t => Sm (asF t) fun kf => Sc (kf.1 ∈ cs) <| Sm (kf.2.find? fun q => decide (q.1 = f)) fun x => K x.2) := ⟨wp_fld⟩
instance i_wp_o1 {o : Op1} {a : P} {K : T → Prop} : Step (WP (.o1 o a) r K) (WP a r fun s => Sm (ev1 o s) K) := ⟨wp_o1⟩
instance i_wp_o2 {o : Op2} {a b : P} {K : T → Prop} : Step (WP (.o2 o a b) r K) (WP a r fun s => WP b r fun t => Sm (ev2 o s t) K) := ⟨wp_o2⟩
instance i_wp_o3 {o : Op3} {a b d : P} {K : T → Prop} : Step (WP (.o3 o a b d) r K) (WP a r fun s => WP b r fun t => WP d r fun u => Sm (ev3 o s t u) K) := ⟨wp_o3⟩
instance i_wp_fnil {K : T → Prop} : Step (WP .fnil r K) (K (.sh (.str ⟨#[]⟩))) := ⟨wp_fnil⟩
instance i_wp_fcons {a b : P} {K : T → Prop} : Step (WP (.fcons a b) r K) (WP a r fun s => WP b r fun t => Sm (fmtV s) fun x => Sm (asS t) fun y => Sc (x.length + y.length ≤ sizeLine) (K (.sh (.str (x ++ y))))) := ⟨wp_fcons⟩
instance i_we_p {q : P} {K : Rs T → Prop} : Step (WE C (.p q) r K) (WP q r fun t => Sm (asD t) fun d => K (.ok (.sh d) r)) := ⟨we_p⟩
instance i_we_fz {i : Nat} {K : Rs T → Prop} : Step (WE C (.fz i) r K) (Sm (slot r i) fun t => Sm (frz t) fun d => K (.ok (.sh d) (r.set i (some (.sh d))))) := ⟨we_fz⟩
instance i_we_mv {i : Nat} {K : Rs T → Prop} : Step (WE C (.mv i) r K) (Sm (slot r i) fun t => K (.ok t (r.set i none))) := ⟨we_mv⟩
instance i_we_bor {i : Nat} {K : Rs T → Prop} : Step (WE C (.bor i) r K) (Sm (slot r i) fun t => K (.ok t (r.set i none))) := ⟨we_bor⟩
instance i_we_frE {a : E} {K : Rs T → Prop} : Step (WE C (.frE a) r K) (WE C a r fun x => match x with
    | .ok t r1 => Sm (frz t) fun d => K (.ok (.sh d) r1)
    | x => K x) := ⟨we_frE⟩
instance i_we_o1 {o : Op1} {a : E} {K : Rs T → Prop} : Step (WE C (.o1 o a) r K) (WE C a r fun x => match x with
    | .ok t r1 => Sm (frz t) fun d => Sm (ev1 o (.sh d)) fun u => K (.ok u r1)
    | x => K x) := ⟨we_o1⟩
instance i_we_o2 {o : Op2} {a b : E} {K : Rs T → Prop} : Step (WE C (.o2 o a b) r K) (WE C a r fun x => match x with
    | .ok s r1 => WE C b r1 fun x => match x with
      | .ok t r2 => Sm (frz s) fun d => Sm (frz t) fun e => Sm (ev2 o (.sh d) (.sh e)) fun u => K (.ok u r2)
      | x => K x
    | x => K x) := ⟨we_o2⟩
instance i_we_o3 {o : Op3} {a b c : E} {K : Rs T → Prop} : Step (WE C (.o3 o a b c) r K) (WE C a r fun x => match x with
    | .ok s r1 => WE C b r1 fun x => match x with
      | .ok t r2 => WE C c r2 fun x => match x with
        | .ok u r3 => Sm (frz s) fun d => Sm (frz t) fun e => Sm (frz u) fun f => Sm (ev3 o (.sh d) (.sh e) (.sh f)) fun u => K (.ok u r3)
        | x => K x
      | x => K x
    | x => K x) := ⟨we_o3⟩
instance i_we_k2 {o : Op2} {a : E} {b : P} {K : Rs T → Prop} : Step (WE C (.k2 o a b) r K) (WE C a r fun x => match x with
    | .ok s r1 => Sm (frz s) fun d => WP b r1 fun t => Sm (ev2 o (.sh d) t) fun u => Sm (asD u) fun e => K (.ok (.sh e) r1)
    | x => K x) := ⟨we_k2⟩
instance i_we_chain {o o' : Op2} {a b d : P} {K : Rs T → Prop} : Step (WE C (.chain o o' a b d) r K) (WP a r fun s => WP b r fun t => Sm (ev2 o s t) fun u => Sm (asB u) fun q => Br q (WP d r fun u => Sm (ev2 o' t u) fun v => Sm (asB v) fun z => K (.ok (tB z) r)) (K (.ok (tB false) r))) := ⟨we_chain⟩
instance i_we_tup {es : E} {K : Rs T → Prop} : Step (WE C (.tup es) r K) (WEs C es r fun x => match x with
    | .ok ts r1 => Sc (ts.length ≤ sizeLine) (K (.ok (.tup ts) r1))
    | .ex x r1 => K (.ex x r1)
    | .no => K .no) := ⟨we_tup⟩
instance i_we_lst {es : E} {K : Rs T → Prop} : Step (WE C (.lst es) r K) (WEs C es r fun x => match x with
    | .ok ts r1 => Sc (ts.length ≤ sizeLine) (K (.ok (.lst ts) r1))
    | .ex x r1 => K (.ex x r1)
    | .no => K .no) := ⟨we_lst⟩
instance i_we_and {a b : E} {K : Rs T → Prop} : Step (WE C (.and a b) r K) (WE C a r fun x => match x with
    | .ok t r1 => Sm (asB t) fun q => Br q (WE C b r1 K) (K (.ok (tB false) r1))
    | .ex x r1 => K (.ex x r1)
    | .no => K .no) := ⟨we_and⟩
instance i_we_or {a b : E} {K : Rs T → Prop} : Step (WE C (.or a b) r K) (WE C a r fun x => match x with
    | .ok t r1 => Sm (asB t) fun q => Br q (K (.ok (tB true) r1)) (WE C b r1 K)
    | .ex x r1 => K (.ex x r1)
    | .no => K .no) := ⟨we_or⟩
instance i_we_not {a : E} {K : Rs T → Prop} : Step (WE C (.not a) r K) (WE C a r fun x => match x with
    | .ok t r1 => Sm (asB t) fun q => K (.ok (tB (!q)) r1)
    | .ex x r1 => K (.ex x r1)
    | .no => K .no) := ⟨we_not⟩
instance i_we_ife {t a b : E} {K : Rs T → Prop} : Step (WE C (.ife t a b) r K) (WT C t r fun x => match x with
    | .ok q r1 => Br q (WE C a r1 K) (WE C b r1 K)
    | .ex x r1 => K (.ex x r1)
    | .no => K .no) := ⟨we_ife⟩
instance i_we_call {f : Fk} {es : E} {df : List D} {K : Rs T → Prop} : Step (WE C (.call f es df) r K) (WEs C es r fun x => match x with
    | .ok ts r1 => WC C f (ts ++ df.map .sh) fun y => match y with
      | .ok t fin => K (.ok t (back es.bors fin r1))
      | .ex x fin => K (.ex x (back es.bors fin r1))
      | .no => K .no
    | .ex x r1 => K (.ex x r1)
    | .no => K .no) := ⟨we_call⟩
instance i_we_new {c : Str} {es : E} {df : List D} {K : Rs T → Prop} : Step (WE C (.new c es df) r K) (WEs C es r fun x => match x with
    | .ok ts r1 => WC C (c, "__init__") (.obj c [] :: (ts ++ df.map .sh)) fun y => match y with
      | .ok (.sh .non) (some o :: fin) => K (.ok o (back es.bors fin r1))
      | .ex x (_ :: fin) => K (.ex x (back es.bors fin r1))
      | _ => K .no
    | .ex x r1 => K (.ex x r1)
    | .no => K .no) := ⟨we_new⟩
instance i_we_meth {m : Str} {ks : List Str} {a es : E} {df : List D} {K : Rs T → Prop} : Step (WE C (.meth m ks a es df) r K) (WE C a r fun x => match x with
    | .ok o r1 => Sm (asF o) fun kf => Sc (((kf.2.any fun q => decide (q.1 = m)) || !decide (kf.1 ∈ ks)) = false) <| WEs C es r1 fun x => match x with
      | .ok ts r2 => WC C (kf.1, m) (o :: (ts ++ df.map .sh)) fun y => match y with
        | .ok t fin => K (.ok t (back (a.bor1 :: es.bors) fin r2))
        | .ex x fin => K (.ex x (back (a.bor1 :: es.bors) fin r2))
        | .no => K .no
      | .ex x r2 => K (.ex x r2)
      | .no => K .no
    | .ex x r1 => K (.ex x r1)
    | .no => K .no) := ⟨we_meth⟩
instance i_we_lc {g : Tg} {it cond elt : E} {K : Rs T → Prop} : Step (WE C (.lc g it cond elt) r K) (WI C it r fun x => match x with
    | .ok ds r1 => Sc (hasAll r1 g.slots = true) <| WLc C g g.slots cond elt ds (wipe1 r1 g.slots) [] fun ts r2 => K (.ok (.lst ts) (unwipe r1 r2 g.slots))
    | .ex x r1 => K (.ex x r1)
    | .no => K .no) := ⟨we_lc⟩
instance i_wes_nil {K : Rs (List T) → Prop} : Step (WEs C .nil r K) (K (.ok [] r)) := ⟨wes_nil⟩
instance i_wes_bor {i : Nat} {b : E} {K : Rs (List T) → Prop} : Step (WEs C (.cons (.bor i) b) r K) (Sm (slot r i) fun _ => WEs C b r fun x => match x with
    | .ok ts r1 => Sm (slot r1 i) fun t => K (.ok (t :: ts) (r1.set i none))
    | x => K x) := ⟨wes_bor⟩
instance i_wt_and {a b : E} {K : Rs Bool → Prop} : Step (WT C (.and a b) r K) (WT C a r fun x => match x with
    | .ok q r1 => Br q (WT C b r1 K) (K (.ok false r1))
    | x => K x) := ⟨wt_and⟩
instance i_wt_or {a b : E} {K : Rs Bool → Prop} : Step (WT C (.or a b) r K) (WT C a r fun x => match x with
    | .ok q r1 => Br q (K (.ok true r1)) (WT C b r1 K)
    | x => K x) := ⟨wt_or⟩
instance i_wt_not {a : E} {K : Rs Bool → Prop} : Step (WT C (.not a) r K) (WT C a r fun x => match x with
    | .ok q r1 => K (.ok (!q) r1)
    | x => K x) := ⟨wt_not⟩
instance i_wt_yes {K : Rs Bool → Prop} : Step (WT C .yes r K) (K (.ok true r)) := ⟨wt_yes⟩
instance i_wt_p {q : P} {K : Rs Bool → Prop} : Step (WT C (.p q) r K) (WP q r fun t => Sm (tru t) fun k => K (.ok k r)) := ⟨wt_p⟩
instance i_wi_iv {a : E} {K : Rs (List D) → Prop} : Step (WI C (.iv a) r K) (WE C a r fun x => match x with
    | .ok t r1 => Sm (frz t) fun d => Sm (items d) fun ds => K (.ok ds r1)
    | .ex x r1 => K (.ex x r1)
    | .no => K .no) := ⟨wi_iv⟩
instance i_wi_rng1 {a : E} {K : Rs (List D) → Prop} : Step (WI C (.rng1 a) r K) (WE C a r fun x => match x with
    | .ok t r1 => Sm (asI t) fun n => Sc (-(2 ^ 62) ≤ n ∧ n < 2 ^ 62) (K (.ok ((List.range n.toNat).map fun (k : Nat) => .int (0 + (k : Int))) r1))
    | .ex x r1 => K (.ex x r1)
    | .no => K .no) := ⟨wi_rng1⟩
instance i_wi_rng2 {a b : E} {K : Rs (List D) → Prop} : Step (WI C (.rng2 a b) r K) (WE C a r fun x => match x with
    | .ok s r1 => WE C b r1 fun x => match x with
      | .ok t r2 => Sm (asI s) fun m => Sm (asI t) fun n => Sc ((-(2 ^ 62) ≤ m ∧ m < 2 ^ 62) ∧ -(2 ^ 62) ≤ n ∧ n < 2 ^ 62) (K (.ok ((List.range (n - m).toNat).map fun (k : Nat) => .int (m + (k : Int))) r2))
      | .ex x r1 => K (.ex x r1)
      | .no => K .no
    | .ex x r1 => K (.ex x r1)
    | .no => K .no) := ⟨wi_rng2⟩
instance i_wi_zip {a b : E} {K : Rs (List D) → Prop} : Step (WI C (.zip a b) r K) (WE C a r fun x => match x with
    | .ok s r1 => WE C b r1 fun x => match x with
      | .ok t r2 => Sm (frz s) fun d => Sm (frz t) fun e => Sm (zipped d e) fun xy => Sc (xy.1.length = xy.2.length) <| K (.ok ((xy.1.zip xy.2).map fun p => .tup [p.1, p.2]) r2)
      | .ex x r1 => K (.ex x r1)
      | .no => K .no
    | .ex x r1 => K (.ex x r1)
    | .no => K .no) := ⟨wi_zip⟩
instance i_wi_enum {a : E} {K : Rs (List D) → Prop} : Step (WI C (.enum a) r K) (WE C a r fun x => match x with
    | .ok t r1 => Sm (frz t) fun d => Sm (asDl d) fun ds => K (.ok ((ds.zipIdx).map fun p => .tup [.int p.2, p.1]) r1)
    | .ex x r1 => K (.ex x r1)
    | .no => K .no) := ⟨wi_enum⟩
instance i_ws_skip {K : Fl → Prop} : Step (WS C kp .skip r K) (K (.nx r)) := ⟨ws_skip⟩
instance i_ws_seq {a b : S} {K : Fl → Prop} : Step (WS C kp (.seq a b) r K) (WS C kp a r fun x => match x with
    | .nx r1 => WS C kp b r1 K
    | x => K x) := ⟨ws_seq⟩
instance i_ws_asg {i : Nat} {e : E} {K : Fl → Prop} : Step (WS C kp (.asg i e) r K) (WE C e r fun x => match x with
    | .ok t r1 => Sm (asgOk kp i r1) fun _ => K (.nx (r1.set i (some t)))
    | .ex x r1 => K (.ex x r1)
    | .no => K .no) := ⟨ws_asg⟩
instance i_ws_unp {g : Tg} {e : E} {K : Fl → Prop} : Step (WS C kp (.unp g e) r K) (WE C e r fun x => match x with
    | .ok t r1 => Sm (frz t) fun d => Sm (bindT kp g d r1) fun r2 => K (.nx r2)
    | .ex x r1 => K (.ex x r1)
    | .no => K .no) := ⟨ws_unp⟩
instance i_ws_par2 {i j : Nat} {a b : E} {K : Fl → Prop} : Step (WS C kp (.par2 i j a b) r K) (WE C a r fun x => match x with
    | .ok s r1 => WE C b r1 fun x => match x with
      | .ok t r2 => Sm (asgOk kp i r2) fun _ => Sm (asgOk kp j r2) fun _ => K (.nx ((r2.set i (some s)).set j (some t)))
      | .ex x r1 => K (.ex x r1)
      | .no => K .no
    | .ex x r1 => K (.ex x r1)
    | .no => K .no) := ⟨ws_par2⟩
instance i_ws_setI {i : Nat} {p : P} {e : E} {K : Fl → Prop} : Step (WS C kp (.setI i p e) r K) (WE C e r fun x => match x with
    | .ok t r1 => Sm (slot r1 i) fun s => WP p r1 fun q => Sm (setIt s q t) fun u => K (.nx (r1.set i (some u)))
    | .ex x r1 => K (.ex x r1)
    | .no => K .no) := ⟨ws_setI⟩
instance i_we_dnew {K : Rs T → Prop} : Step (WE C .dnew r K) (K (.ok (.dK []) r)) := ⟨we_dnew⟩
instance i_ws_rse {x : Str} {K : Fl → Prop} : Step (WS C kp (.rse x) r K) (K (.ex ⟨x, []⟩ r)) := ⟨ws_rse⟩
instance i_ws_tryX {b : S} {x : Str} {yes no : List Str} {h : HS} {K : Fl → Prop} : Step (WS C kp (.tryX b x yes no h) r K) (WS C kp b r fun y => match y with
    | .ex e r1 => Br (decide (e.cls ∈ yes)) (K (runHS kp h r1)) (Sc (e.cls ∈ no) (K (.ex e r1)))
    | y => K y) := ⟨ws_tryX⟩
instance i_ws_ins {i : Nat} {a e : E} {K : Fl → Prop} : Step (WS C kp (.ins i a e) r K) (Sm (slot r i) fun s => Sm (asLt s) fun _ => WE C a r fun x => match x with
    | .ok s r1 => WE C e r1 fun x => match x with
      | .ok t r2 => Sm (slot r2 i) fun u => Sm (asLt u) fun ts => Sm (asI s) fun n => Sc (ts.length < sizeLine ∧ 0 ≤ n ∧ n < 2 ^ 63) (K (.nx (r2.set i (some (.lst (ts.take n.toNat ++ [t] ++ ts.drop n.toNat))))))
      | .ex x r2 => K (.ex x r2)
      | .no => K .no
    | .ex x r1 => K (.ex x r1)
    | .no => K .no) := ⟨ws_ins⟩
instance i_we_dlit {kvs : List (Key × D)} {K : Rs T → Prop} : Step (WE C (.dlit kvs) r K) (Sc (kvs ≠ [] ∧ kvs.length ≤ 15 ∧ (kvs.map (·.1)).Nodup) (K (.ok (.dK (kvs.map fun p => (p.1, .sh p.2))) r))) := ⟨we_dlit⟩
instance i_we_sortIt {a : P} {K : Rs T → Prop} : Step (WE C (.sortIt a) r K) (WP a r fun t => Sm (asK t) fun ks => Sm (allK ks) fun ds => Sm (intsK ds) fun es => K (.ok (.lst ((sortE es).map pairT)) r)) := ⟨we_sortIt⟩
instance i_we_n1 {o : Op1} {q : P} {K : Rs T → Prop} : Step (WE C (.n1 o q) r K) (WP q r fun t => Sm (ev1 o t) fun u => K (.ok u r)) := ⟨we_n1⟩
instance i_we_vk {o : Op2} {i : Nat} {b : E} {K : Rs T → Prop} : Step (WE C (.vk o i b) r K) (Sm (slot r i) fun _ => WE C b r fun x => match x with
    | .ok t r1 => Sm (slot r1 i) fun s => Sm (frz t) fun e => Sm (ev2 o s (.sh e)) fun u => Sm (asD u) fun d => K (.ok (.sh d) r1)
    | .ex x r1 => K (.ex x r1)
    | .no => K .no) := ⟨we_vk⟩
instance i_we_lenO {ks : List Str} {a : E} {K : Rs T → Prop} : Step (WE C (.lenO ks a) r K) (WE C a r fun x => match x with
    | .ok t r1 => Sm (frz t) fun d => Sm (asOD d) fun kf => Sc (kf.1 ∈ ks) <| WC C (kf.1, "__len__") [.sh (.obj kf.1 kf.2)] fun y => match y with
      | .ok u _ => Sm (asI u) fun n => Sc (0 ≤ n ∧ n < 2 ^ 62) (K (.ok (.sh (.int n)) r1))
      | _ => K .no
    | .ex x r1 => K (.ex x r1)
    | .no => K .no) := ⟨we_lenO⟩
instance i_we_callP {f : Fk} {i n : Nat} {K : Rs T → Prop} : Step (WE C (.callP f i n) r K) (Sm (slot r i) fun t => Sm (asLt t) fun xs => Sc (xs.length = n) <| WC C f xs fun y => match y with
    | .ok t fin => Sm (allT fin) fun ts => K (.ok t (r.set i (some (.lst ts))))
    | .ex x fin => Sm (allT fin) fun ts => K (.ex x (r.set i (some (.lst ts))))
    | .no => K .no) := ⟨we_callP⟩
instance i_ws_setE {i : Nat} {p e : E} {K : Fl → Prop} : Step (WS C kp (.setE i p e) r K) (WE C e r fun x => match x with
    | .ok t r1 => Sm (slot r1 i) fun s => Sm (asKt s) fun _ => WE C p r1 fun y => match y with
      | .ok q r2 => Sm (slot r2 i) fun s => Sm (asKt s) fun _ => Sm (setIt s q t) fun u => K (.nx (r2.set i (some u)))
      | .ex x r2 => K (.ex x r2)
      | .no => K .no
    | .ex x r1 => K (.ex x r1)
    | .no => K .no) := ⟨ws_setE⟩
instance i_ws_setP {i j : Nat} {p : P} {e : E} {K : Fl → Prop} : Step (WS C kp (.setP i j p e) r K) (WE C e r fun x => match x with
    | .ok t r1 => Sm (slot r1 i) fun s => Sm (asLt s) fun xs => WP p r1 fun q => Sm (xs[j]?) fun y => Sm (asKt y) fun _ => Sm (setIt y q t) fun u => K (.nx (r1.set i (some (.lst (xs.set j u)))))
    | .ex x r1 => K (.ex x r1)
    | .no => K .no) := ⟨ws_setP⟩
instance i_ws_app {i : Nat} {e : E} {K : Fl → Prop} : Step (WS C kp (.app i e) r K) (Sm (slot r i) fun s => Sm (asLt s) fun _ => WE C e r fun x => match x with
    | .ok t r1 => Sm (slot r1 i) fun s => Sm (asLt s) fun ts => Sc (ts.length < sizeLine) (K (.nx (r1.set i (some (.lst (ts ++ [t]))))))
    | .ex x r1 => K (.ex x r1)
    | .no => K .no) := ⟨ws_app⟩
instance i_ws_ext {i : Nat} {e : E} {K : Fl → Prop} : Step (WS C kp (.ext i e) r K) (Sm (slot r i) fun s => Sm (asLt s) fun _ => WE C e r fun x => match x with
    | .ok t r1 => Sm (slot r1 i) fun s => Sm (asLt s) fun ts => Sm (frz t) fun d => Sm (asDl d) fun ds => Sc (ts.length + ds.length ≤ sizeLine) (K (.nx (r1.set i (some (.lst (ts ++ ds.map .sh))))))
    | .ex x r1 => K (.ex x r1)
    | .no => K .no) := ⟨ws_ext⟩
instance i_ws_aug {i : Nat} {o : Op2} {e : E} {K : Fl → Prop} : Step (WS C kp (.aug i o e) r K) (Sm (slot r i) fun s => Sm (asI s) fun a => WE C e r fun x => match x with
    | .ok t r1 => Sm (asI t) fun b => Sm (augV o a b) fun z => Sm (asgOk kp i r1) fun _ => K (.nx (r1.set i (some (tI z))))
    | .ex x r1 => K (.ex x r1)
    | .no => K .no) := ⟨ws_aug⟩
instance i_ws_ite {c : E} {a b : S} {K : Fl → Prop} : Step (WS C kp (.ite c a b) r K) (WT C c r fun x => match x with
    | .ok q r1 => Br q (WS C kp a r1 K) (WS C kp b r1 K)
    | .ex x r1 => K (.ex x r1)
    | .no => K .no) := ⟨ws_ite⟩
instance i_ws_ret {e : E} {K : Fl → Prop} : Step (WS C kp (.ret e) r K) (WE C e r fun x => match x with
    | .ok t r1 => K (.rt t r1)
    | .ex x r1 => K (.ex x r1)
    | .no => K .no) := ⟨ws_ret⟩
instance i_ws_retN {K : Fl → Prop} : Step (WS C kp .retN r K) (K (.rt (.sh .non) r)) := ⟨ws_retN⟩
instance i_ws_ex {e : E} {K : Fl → Prop} : Step (WS C kp (.ex e) r K) (WE C e r fun x => match x with
    | .ok t r1 => K (.nx r1)
    | .ex x r1 => K (.ex x r1)
    | .no => K .no) := ⟨ws_ex⟩
instance i_ws_brk {K : Fl → Prop} : Step (WS C kp .brk r K) (K (.bk r)) := ⟨ws_brk⟩
instance i_ws_cnt {K : Fl → Prop} : Step (WS C kp .cnt r K) (K (.ct r)) := ⟨ws_cnt⟩
instance i_ws_setF {i : Nat} {f : Str} {ks : List Str} {e : E} {K : Fl → Prop} : Step (WS C kp (.setF i f ks e) r K) (WE C e r fun x => match x with
    | .ok t r1 => Sm (slot r1 i) fun s => Sm (asOb s) fun cf => Sc (cf.2.length < 1000 ∧ cf.1 ∈ ks) <| K (.nx (r1.set i (some (.obj cf.1 (putT f t cf.2)))))
    | .ex x r1 => K (.ex x r1)
    | .no => K .no) := ⟨ws_setF⟩
instance i_ws_for {g : Tg} {it : E} {b : S} {K : Fl → Prop} : Step (WS C kp (.for g it b) r K) (WI C it r fun x => match x with
    | .ok ds r1 => WFor C kp g b ds r1 K
    | .ex x r1 => K (.ex x r1)
    | .no => K .no) := ⟨ws_for⟩
instance i_wt_o1_e {o : Op1} {a : E} {K : Rs Bool → Prop} : Step (WT C (.o1 o a) r K) (WE C (.o1 o a) r fun x => match x with
    | .ok t r1 => Sm (asB t) fun q => K (.ok q r1)
    | .ex x r1 => K (.ex x r1)
    | .no => K .no) := ⟨wt_e rfl⟩
instance i_wt_o2_e {o : Op2} {a b : E} {K : Rs Bool → Prop} : Step (WT C (.o2 o a b) r K) (WE C (.o2 o a b) r fun x => match x with
    | .ok t r1 => Sm (asB t) fun q => K (.ok q r1)
    | .ex x r1 => K (.ex x r1)
    | .no => K .no) := ⟨wt_e rfl⟩
instance i_wt_k2_e {o : Op2} {a : E} {b : P} {K : Rs Bool → Prop} : Step (WT C (.k2 o a b) r K) (WE C (.k2 o a b) r fun x => match x with
    | .ok t r1 => Sm (asB t) fun q => K (.ok q r1)
    | .ex x r1 => K (.ex x r1)
    | .no => K .no) := ⟨wt_e rfl⟩
instance i_wt_chain_e {o o' : Op2} {a b d : P} {K : Rs Bool → Prop} : Step (WT C (.chain o o' a b d) r K) (WE C (.chain o o' a b d) r fun x => match x with
    | .ok t r1 => Sm (asB t) fun q => K (.ok q r1)
    | .ex x r1 => K (.ex x r1)
    | .no => K .no) := ⟨wt_e rfl⟩
instance i_wt_call_e {f : Fk} {es : E} {df : List D} {K : Rs Bool → Prop} : Step (WT C (.call f es df) r K) (WE C (.call f es df) r fun x => match x with
    | .ok t r1 => Sm (asB t) fun q => K (.ok q r1)
    | .ex x r1 => K (.ex x r1)
    | .no => K .no) := ⟨wt_e rfl⟩
instance i_wt_meth_e {m : Str} {ks : List Str} {a es : E} {df : List D} {K : Rs Bool → Prop} : Step (WT C (.meth m ks a es df) r K) (WE C (.meth m ks a es df) r fun x => match x with
    | .ok t r1 => Sm (asB t) fun q => K (.ok q r1)
    | .ex x r1 => K (.ex x r1)
    | .no => K .no) := ⟨wt_e rfl⟩
instance i_wt_vk_e {o : Op2} {i : Nat} {b : E} {K : Rs Bool → Prop} : Step (WT C (.vk o i b) r K) (WE C (.vk o i b) r fun x => match x with
    | .ok t r1 => Sm (asB t) fun q => K (.ok q r1)
    | .ex x r1 => K (.ex x r1)
    | .no => K .no) := ⟨wt_e rfl⟩
instance i_wes_p {q : P} {z : E} {K : Rs (List T) → Prop} : Step (WEs C (.cons (.p q) z) r K) (WE C (.p q) r fun x => match x with
    | .ok t r1 => WEs C z r1 fun x => match x with
      | .ok ts r2 => K (.ok (t :: ts) r2)
      | x => K x
    | .ex x r1 => K (.ex x r1)
    | .no => K .no) := ⟨wes_cons rfl⟩
instance i_wes_fz {i : Nat} {z : E} {K : Rs (List T) → Prop} : Step (WEs C (.cons (.fz i) z) r K) (WE C (.fz i) r fun x => match x with
    | .ok t r1 => WEs C z r1 fun x => match x with
      | .ok ts r2 => K (.ok (t :: ts) r2)
      | x => K x
    | .ex x r1 => K (.ex x r1)
    | .no => K .no) := ⟨wes_cons rfl⟩
instance i_wes_mv {i : Nat} {z : E} {K : Rs (List T) → Prop} : Step (WEs C (.cons (.mv i) z) r K) (WE C (.mv i) r fun x => match x with
    | .ok t r1 => WEs C z r1 fun x => match x with
      | .ok ts r2 => K (.ok (t :: ts) r2)
      | x => K x
    | .ex x r1 => K (.ex x r1)
    | .no => K .no) := ⟨wes_cons rfl⟩
instance i_wes_frE {a : E} {z : E} {K : Rs (List T) → Prop} : Step (WEs C (.cons (.frE a) z) r K) (WE C (.frE a) r fun x => match x with
    | .ok t r1 => WEs C z r1 fun x => match x with
      | .ok ts r2 => K (.ok (t :: ts) r2)
      | x => K x
    | .ex x r1 => K (.ex x r1)
    | .no => K .no) := ⟨wes_cons rfl⟩
instance i_wes_o1 {o : Op1} {a : E} {z : E} {K : Rs (List T) → Prop} : Step (WEs C (.cons (.o1 o a) z) r K) (WE C (.o1 o a) r fun x => match x with
    | .ok t r1 => WEs C z r1 fun x => match x with
      | .ok ts r2 => K (.ok (t :: ts) r2)
      | x => K x
    | .ex x r1 => K (.ex x r1)
    | .no => K .no) := ⟨wes_cons rfl⟩
instance i_wes_o2 {o : Op2} {a b : E} {z : E} {K : Rs (List T) → Prop} : Step (WEs C (.cons (.o2 o a b) z) r K) (WE C (.o2 o a b) r fun x => match x with
    | .ok t r1 => WEs C z r1 fun x => match x with
      | .ok ts r2 => K (.ok (t :: ts) r2)
      | x => K x
    | .ex x r1 => K (.ex x r1)
    | .no => K .no) := ⟨wes_cons rfl⟩
instance i_wes_o3 {o : Op3} {a b d : E} {z : E} {K : Rs (List T) → Prop} : Step (WEs C (.cons (.o3 o a b d) z) r K) (WE C (.o3 o a b d) r fun x => match x with
    | .ok t r1 => WEs C z r1 fun x => match x with
      | .ok ts r2 => K (.ok (t :: ts) r2)
      | x => K x
    | .ex x r1 => K (.ex x r1)
    | .no => K .no) := ⟨wes_cons rfl⟩
instance i_wes_k2 {o : Op2} {a : E} {b : P} {z : E} {K : Rs (List T) → Prop} : Step (WEs C (.cons (.k2 o a b) z) r K) (WE C (.k2 o a b) r fun x => match x with
    | .ok t r1 => WEs C z r1 fun x => match x with
      | .ok ts r2 => K (.ok (t :: ts) r2)
      | x => K x
    | .ex x r1 => K (.ex x r1)
    | .no => K .no) := ⟨wes_cons rfl⟩
instance i_wes_chain {o o' : Op2} {a b d : P} {z : E} {K : Rs (List T) → Prop} : Step (WEs C (.cons (.chain o o' a b d) z) r K) (WE C (.chain o o' a b d) r fun x => match x with
    | .ok t r1 => WEs C z r1 fun x => match x with
      | .ok ts r2 => K (.ok (t :: ts) r2)
      | x => K x
    | .ex x r1 => K (.ex x r1)
    | .no => K .no) := ⟨wes_cons rfl⟩
instance i_wes_tup {a : E} {z : E} {K : Rs (List T) → Prop} : Step (WEs C (.cons (.tup a) z) r K) (WE C (.tup a) r fun x => match x with
    | .ok t r1 => WEs C z r1 fun x => match x with
      | .ok ts r2 => K (.ok (t :: ts) r2)
      | x => K x
    | .ex x r1 => K (.ex x r1)
    | .no => K .no) := ⟨wes_cons rfl⟩
instance i_wes_lst {a : E} {z : E} {K : Rs (List T) → Prop} : Step (WEs C (.cons (.lst a) z) r K) (WE C (.lst a) r fun x => match x with
    | .ok t r1 => WEs C z r1 fun x => match x with
      | .ok ts r2 => K (.ok (t :: ts) r2)
      | x => K x
    | .ex x r1 => K (.ex x r1)
    | .no => K .no) := ⟨wes_cons rfl⟩
instance i_wes_and {a b : E} {z : E} {K : Rs (List T) → Prop} : Step (WEs C (.cons (.and a b) z) r K) (WE C (.and a b) r fun x => match x with
    | .ok t r1 => WEs C z r1 fun x => match x with
      | .ok ts r2 => K (.ok (t :: ts) r2)
      | x => K x
    | .ex x r1 => K (.ex x r1)
    | .no => K .no) := ⟨wes_cons rfl⟩
instance i_wes_or {a b : E} {z : E} {K : Rs (List T) → Prop} : Step (WEs C (.cons (.or a b) z) r K) (WE C (.or a b) r fun x => match x with
    | .ok t r1 => WEs C z r1 fun x => match x with
      | .ok ts r2 => K (.ok (t :: ts) r2)
      | x => K x
    | .ex x r1 => K (.ex x r1)
    | .no => K .no) := ⟨wes_cons rfl⟩
instance i_wes_not {a : E} {z : E} {K : Rs (List T) → Prop} : Step (WEs C (.cons (.not a) z) r K) (WE C (.not a) r fun x => match x with
    | .ok t r1 => WEs C z r1 fun x => match x with
      | .ok ts r2 => K (.ok (t :: ts) r2)
      | x => K x
    | .ex x r1 => K (.ex x r1)
    | .no => K .no) := ⟨wes_cons rfl⟩
instance i_wes_ife {t a b : E} {z : E} {K : Rs (List T) → Prop} : Step (WEs C (.cons (.ife t a b) z) r K) (WE C (.ife t a b) r fun x => match x with
    | .ok t r1 => WEs C z r1 fun x => match x with
      | .ok ts r2 => K (.ok (t :: ts) r2)
      | x => K x
    | .ex x r1 => K (.ex x r1)
    | .no => K .no) := ⟨wes_cons rfl⟩
instance i_wes_call {f : Fk} {es : E} {df : List D} {z : E} {K : Rs (List T) → Prop} : Step (WEs C (.cons (.call f es df) z) r K) (WE C (.call f es df) r fun x => match x with
    | .ok t r1 => WEs C z r1 fun x => match x with
      | .ok ts r2 => K (.ok (t :: ts) r2)
      | x => K x
    | .ex x r1 => K (.ex x r1)
    | .no => K .no) := ⟨wes_cons rfl⟩
instance i_wes_new {f : Str} {es : E} {df : List D} {z : E} {K : Rs (List T) → Prop} : Step (WEs C (.cons (.new f es df) z) r K) (WE C (.new f es df) r fun x => match x with
    | .ok t r1 => WEs C z r1 fun x => match x with
      | .ok ts r2 => K (.ok (t :: ts) r2)
      | x => K x
    | .ex x r1 => K (.ex x r1)
    | .no => K .no) := ⟨wes_cons rfl⟩
instance i_wes_meth {m : Str} {ks : List Str} {a es : E} {df : List D} {z : E} {K : Rs (List T) → Prop} : Step (WEs C (.cons (.meth m ks a es df) z) r K) (WE C (.meth m ks a es df) r fun x => match x with
    | .ok t r1 => WEs C z r1 fun x => match x with
      | .ok ts r2 => K (.ok (t :: ts) r2)
      | x => K x
    | .ex x r1 => K (.ex x r1)
    | .no => K .no) := ⟨wes_cons rfl⟩
instance i_wes_lc {g : Tg} {it cond elt : E} {z : E} {K : Rs (List T) → Prop} : Step (WEs C (.cons (.lc g it cond elt) z) r K) (WE C (.lc g it cond elt) r fun x => match x with
    | .ok t r1 => WEs C z r1 fun x => match x with
      | .ok ts r2 => K (.ok (t :: ts) r2)
      | x => K x
    | .ex x r1 => K (.ex x r1)
    | .no => K .no) := ⟨wes_cons rfl⟩
instance i_wes_n1 {o : Op1} {q : P} {z : E} {K : Rs (List T) → Prop} : Step (WEs C (.cons (.n1 o q) z) r K) (WE C (.n1 o q) r fun x => match x with
    | .ok t r1 => WEs C z r1 fun x => match x with
      | .ok ts r2 => K (.ok (t :: ts) r2)
      | x => K x
    | .ex x r1 => K (.ex x r1)
    | .no => K .no) := ⟨wes_cons rfl⟩
instance i_wes_lenO {ks : List Str} {a : E} {z : E} {K : Rs (List T) → Prop} : Step (WEs C (.cons (.lenO ks a) z) r K) (WE C (.lenO ks a) r fun x => match x with
    | .ok t r1 => WEs C z r1 fun x => match x with
      | .ok ts r2 => K (.ok (t :: ts) r2)
      | x => K x
    | .ex x r1 => K (.ex x r1)
    | .no => K .no) := ⟨wes_cons rfl⟩
instance i_wes_dlit {kvs : List (Key × D)} {z : E} {K : Rs (List T) → Prop} : Step (WEs C (.cons (.dlit kvs) z) r K) (WE C (.dlit kvs) r fun x => match x with
    | .ok t r1 => WEs C z r1 fun x => match x with
      | .ok ts r2 => K (.ok (t :: ts) r2)
      | x => K x
    | .ex x r1 => K (.ex x r1)
    | .no => K .no) := ⟨wes_cons rfl⟩
instance i_wes_dnew  {z : E} {K : Rs (List T) → Prop} : Step (WEs C (.cons (.dnew) z) r K) (WE C (.dnew) r fun x => match x with
    | .ok t r1 => WEs C z r1 fun x => match x with
      | .ok ts r2 => K (.ok (t :: ts) r2)
      | x => K x
    | .ex x r1 => K (.ex x r1)
    | .no => K .no) := ⟨wes_cons rfl⟩
instance i_wes_sortIt {a : P} {z : E} {K : Rs (List T) → Prop} : Step (WEs C (.cons (.sortIt a) z) r K) (WE C (.sortIt a) r fun x => match x with
    | .ok t r1 => WEs C z r1 fun x => match x with
      | .ok ts r2 => K (.ok (t :: ts) r2)
      | x => K x
    | .ex x r1 => K (.ex x r1)
    | .no => K .no) := ⟨wes_cons rfl⟩
instance i_fmtI {i : Int} {K : Str → Prop} : Step (Sm (fmtV (.sh (.int i))) K) (Sc (i.natAbs.log2 < 1920) (K (Str.ofString (toString i)))) := ⟨fun k => .of (by show (if i.natAbs.log2 < 1920 then some (Str.ofString (toString i)) else none) = _; rw [if_pos k.1]) k.2⟩
instance i_fmtS {x : Str} {K : Str → Prop} : Step (Sm (fmtV (.sh (.str x))) K) (Sc (x.length ≤ sizeLine) (K x)) := ⟨fun k => .of (by show (if x.length ≤ sizeLine then some x else none) = _; rw [if_pos k.1]) k.2⟩
instance i_frz_shs {ds : List D} {K : D → Prop} : Step (Sm (frz (.lst (ds.map .sh))) K) (K (.lst ds)) := ⟨fun k => .of frz_shs k⟩
instance i_frz_shu {ds : List D} {K : D → Prop} : Step (Sm (frz (.tup (ds.map .sh))) K) (K (.tup ds)) := ⟨fun k => .of frz_shu k⟩
instance i_frz_I {ds : List Int} {K : D → Prop} : Step (Sm (frz (.lst (ds.map tI))) K) (K (.lst (ds.map .int))) := ⟨fun k => .of (by rw [map_tI]; exact frz_shs) k⟩
instance i_listL {ds : List D} {K : T → Prop} : Step (Sm (ev1 .listL (.sh (.lst ds))) K) (K (.lst (ds.map .sh))) := ⟨fun k => .of (by show (allD (ds.map .sh)).map _ = _; rw [allD_shs]; rfl) k⟩
instance i_listLU {ds : List D} {K : T → Prop} : Step (Sm (ev1 .listL (.sh (.tup ds))) K) (K (.lst (ds.map .sh))) := ⟨fun k => .of (by show (allD (ds.map .sh)).map _ = _; rw [allD_shs]; rfl) k⟩
instance i_tupL {ds : List D} {K : T → Prop} : Step (Sm (ev1 .tupL (.sh (.lst ds))) K) (K (.tup (ds.map .sh))) := ⟨fun k => .of (by show (allD (ds.map .sh)).map _ = _; rw [allD_shs]; rfl) k⟩
instance i_allD_shs {ds : List D} {K : List D → Prop} : Step (Sm (allD (ds.map .sh)) K) (K ds) := ⟨fun k => .of allD_shs k⟩
end PL
/-! PB: the bag of a law: drawn numbers. -/
namespace PL
open PySem PySem.Spec PyProof.Rows L2 MP
theorem l_map0 {α β : Type} {f : α → β} : List.map f [] = [] := rfl
theorem l_map1 {α β : Type} {f : α → β} {a : α} {l : List α} : List.map f (a :: l) = f a :: List.map f l := rfl
theorem l_set0 {α : Type} {a b : α} {l : List α} : List.set (a :: l) 0 b = b :: l := rfl
theorem l_set1 {α : Type} {a b : α} {l : List α} {n : Nat} : List.set (a :: l) (n + 1) b = a :: List.set l n b := rfl
theorem l_app0 {α : Type} {l : List α} : [] ++ l = l := rfl
theorem l_app1 {α : Type} {a : α} {l m : List α} : (a :: l) ++ m = a :: (l ++ m) := rfl
theorem l_rep0 {α : Type} {a : α} : List.replicate 0 a = [] := rfl
theorem l_rep1 {α : Type} {a : α} {n : Nat} : List.replicate (n + 1) a = a :: List.replicate n a := rfl
theorem l_get0 {α : Type} {a : α} {l : List α} : (a :: l)[0]? = some a := rfl
theorem l_get1 {α : Type} {a : α} {l : List α} {n : Nat} : (a :: l)[n + 1]? = l[n]? := rfl
theorem l_len0 {α : Type} : List.length ([] : List α) = 0 := rfl
theorem l_len1 {α : Type} {a : α} {l : List α} : List.length (a :: l) = l.length + 1 := rfl
instance i_mul {i j : Int} {K : T → Prop} : Step (Sm (ev2 .mul (.sh (.int i)) (.sh (.int j))) K) (Sc (i.natAbs.log2 + j.natAbs.log2 < 1000000) (K (.sh (.int (i * j))))) :=
  ⟨fun k => .of (by show (ariI .mul i j).map tI = _; simp only [ariI, if_pos k.1]; rfl) k.2⟩
instance i_fdiv {i j : Int} {K : T → Prop} : Step (Sm (ev2 .fdiv (.sh (.int i)) (.sh (.int j))) K) (Sc (0 < j ∧ j.natAbs.log2 < 9000) (K (.sh (.int (i / j))))) :=
  ⟨fun k => .of (by show (ariI .fdiv i j).map tI = _; simp only [ariI, if_pos k.1]; rfl) k.2⟩
instance i_mod {i j : Int} {K : T → Prop} : Step (Sm (ev2 .mod (.sh (.int i)) (.sh (.int j))) K) (Sc (0 < j) (K (.sh (.int (i % j))))) :=
  ⟨fun k => .of (by show (ariI .mod i j).map tI = _; simp only [ariI, if_pos k.1]; rfl) k.2⟩
instance i_pow {i j : Int} {K : T → Prop} : Step (Sm (ev2 .pow (.sh (.int i)) (.sh (.int j))) K) (Sc (0 ≤ j ∧ j ≤ 1000000 ∧ i.natAbs < 2 ^ 64) (K (.sh (.int (i ^ j.toNat))))) :=
  ⟨fun k => .of (by show (ariI .pow i j).map tI = _; simp only [ariI, if_pos k.1]; rfl) k.2⟩
instance i_lenD {ds : List D} {K : T → Prop} : Step (Sm (ev1 .len (.sh (.lst ds))) K) (K (.sh (.int ds.length))) :=
  ⟨fun k => .of (by show some (MP.tI (ds.map T.sh).length) = _; rw [List.length_map]; rfl) k⟩
instance i_lenU {ds : List D} {K : T → Prop} : Step (Sm (ev1 .len (.sh (.tup ds))) K) (K (.sh (.int ds.length))) :=
  ⟨fun k => .of (by show some (MP.tI (ds.map T.sh).length) = _; rw [List.length_map]; rfl) k⟩
instance i_lenT {ts : List T} {K : T → Prop} : Step (Sm (ev1 .len (.lst ts)) K) (K (.sh (.int ts.length))) := ⟨fun k => .of rfl k⟩
instance i_len {x : Str} {K : T → Prop} : Step (Sm (ev1 .len (.sh (.str x))) K) (Sc (x.length ≤ sizeLine) (K (.sh (.int x.length)))) :=
  ⟨fun k => .of (by show (if x.length ≤ sizeLine then some (MP.tI x.length) else none) = _; rw [if_pos k.1]; rfl) k.2⟩
theorem log_lt {i : Int} {k : Nat} (h0 : 0 ≤ i) (h : i < 2 ^ k) (hk : 0 < k) : i.natAbs.log2 < k := by
  by_cases e : i.natAbs = 0
  · rw [e]; simpa using hk
  · rw [Nat.log2_lt e]
    have : (i.natAbs : Int) < 2 ^ k := by omega
    exact_mod_cast this
theorem log_ok {i j : Int} (h1 : 0 ≤ i) (h2 : i < 2 ^ 200) (h3 : 0 ≤ j) (h4 : j < 2 ^ 200) : i.natAbs.log2 + j.natAbs.log2 < 1000000 := by
  have := log_lt h1 h2 (by omega)
  have := log_lt h3 h4 (by omega)
  omega
theorem log_s {i : Int} (h1 : 0 ≤ i) (h2 : i < 2 ^ 200) : i.natAbs.log2 < 1920 := by
  have := log_lt h1 h2 (by omega)
  omega
instance i_strI {i : Int} {K : T → Prop} : Step (Sm (ev1 .strI (.sh (.int i))) K) (Sc (i.natAbs.log2 < 1920) (K (.sh (.str (Str.ofString (toString i)))))) :=
  ⟨fun k => .of (by show (if i.natAbs.log2 < 1920 then some (MP.tS (Str.ofString (toString i))) else none) = _; rw [if_pos k.1]; rfl) k.2⟩
theorem inL_str {α : Type} {x : Str} {g : α → Str} {l : List α} : inL (.str x) (l.map fun a => .str (g a)) = some (decide (x ∈ l.map g)) := by
  induction l with
  | nil => rfl
  | cons a l ih =>
    simp only [List.map_cons, inL, ih, flatEq, Option.some.injEq]
    by_cases e : g a = x
    · simp [e]
    · have : ¬ x = g a := fun q => e q.symm
      simp [e, this]
theorem inL_int {α : Type} {x : Int} {g : α → Int} {l : List α} : inL (.int x) (l.map fun a => .int (g a)) = some (decide (x ∈ l.map g)) := by
  induction l with
  | nil => rfl
  | cons a l ih =>
    simp only [List.map_cons, inL, ih, flatEq, Option.some.injEq]
    by_cases e : g a = x
    · simp [e]
    · have : ¬ x = g a := fun q => e q.symm
      simp [e, this]
theorem inT_L {d : D} {ds : List D} (h : d.flat = true) : inT (.sh d) (.sh (.lst ds)) = inL d ds := by
  have e : asL (.sh (.lst ds)) = some (ds.map .sh) := rfl
  have e2 : asS (.sh (.lst ds)) = none := rfl
  have e3 : asD (.sh d) = some d := rfl
  unfold inT
  simp only [e, e2, e3, allD_shs, if_pos h]
  cases asS (.sh d) <;> rfl
instance i_inS {α : Type} {x : Str} {g : α → Str} {l : List α} {K : T → Prop} : Step (Sm (ev2 .inn (.sh (.str x)) (.sh (.lst (l.map fun a => .str (g a))))) K) (K (.sh (.bl (decide (x ∈ l.map g))))) :=
  ⟨fun k => .of (by show (inT _ _).map MP.tB = _; rw [inT_L rfl, inL_str]; rfl) k⟩
instance i_inI {α : Type} {x : Int} {g : α → Int} {l : List α} {K : T → Prop} : Step (Sm (ev2 .inn (.sh (.int x)) (.sh (.lst (l.map fun a => .int (g a))))) K) (K (.sh (.bl (decide (x ∈ l.map g))))) :=
  ⟨fun k => .of (by show (inT _ _).map MP.tB = _; rw [inT_L rfl, inL_int]; rfl) k⟩
instance i_ninS {α : Type} {x : Str} {g : α → Str} {l : List α} {K : T → Prop} : Step (Sm (ev2 .nin (.sh (.str x)) (.sh (.lst (l.map fun a => .str (g a))))) K) (K (.sh (.bl (!decide (x ∈ l.map g))))) :=
  ⟨fun k => .of (by show (inT _ _).map _ = _; rw [inT_L rfl, inL_str]; rfl) k⟩
def dI : D → Int
  | .int i => i
  | _ => 0
def dS : D → Str
  | .str i => i
  | _ => ⟨#[]⟩
local macro_rules | `(tactic| infer_instance) => `(tactic| (first
  | refine Step.h ?_
  | refine Sm.mk1 ?_
  | (refine Br.mk (fun h => ?_) (fun h => ?_) <;> first | contradiction | replace h := of_decide_eq_true h | replace h := of_decide_eq_false h | skip)
  | refine Sc.mk (by first | decide | rfl | omega | exact log_ok (by omega) (by omega) (by omega) (by omega) | exact log_s (by omega) (by omega) | exact And.intro (by omega) (by omega)) ?_
  | fail); try dsimp only [l_map0, l_map1, l_set0, l_set1, l_app0, l_app1, l_rep0, l_rep1, finOf, back, E.bors, E.bor1, Int.reduceToNat, Nat.reduceSub, Nat.reduceAdd, l_len0, l_len1, l_get0, l_get1, asI, asB, asD, T.toD, Ts.toD, wipe1, unwipe, slot, tI, MP.tB, tS, Tg.slots])
def f__law_bag : Fn := ⟨1, 3, [true],
  (.seq (.asg 1 (.p (.o2 .add (.o2 .mul (.o1 .len (.o2 .sliceT (.var 0) (.lit (.int 63)))) (.lit (.int 7919))) (.lit (.int 101)))))
  (.seq (.for (.var 2) (.iv (.frE (.o2 .sliceT (.p (.var 0)) (.p (.lit (.int 63))))))
  (.seq (.asg 1 (.p (.o2 .mod (.o2 .add (.o2 .add (.o2 .mul (.var 1) (.lit (.int 48271))) (.o2 .mod (.var 2) (.lit (.int 2147483629)))) (.lit (.int 13))) (.lit (.int 2147483647)))))
  .skip))
  (.seq (.ret (.lst (.cons (.o1 .listL (.o2 .sliceT (.p (.var 0)) (.p (.lit (.int 63))))) (.cons (.p (.lit (.int 0))) (.cons (.p (.lit (.int 0))) (.cons (.p (.var 1)) (.cons (.p (.lit (.int 0))) .nil)))))))
  .skip)))⟩
def f__law_pull : Fn := ⟨2, 5, [true, true],
  (.seq (.setI 0 (.lit (.int 4)) (.p (.o2 .add (.o2 .idx (.var 0) (.lit (.int 4))) (.lit (.int 1)))))
  (.seq (.ite (.and (.p (.o2 .eq (.o2 .idx (.var 0) (.lit (.int 2))) (.lit (.int 0)))) (.p (.o2 .lt (.o2 .idx (.var 0) (.lit (.int 1))) (.o1 .len (.o2 .idx (.var 0) (.lit (.int 0)))))))
  (.seq (.asg 3 (.p (.o2 .idx (.o2 .idx (.var 0) (.lit (.int 0))) (.o2 .idx (.var 0) (.lit (.int 1))))))
  (.seq (.setI 0 (.lit (.int 1)) (.p (.o2 .add (.o2 .idx (.var 0) (.lit (.int 1))) (.lit (.int 1)))))
  (.seq (.ite (.p (.o2 .ge (.var 3) (.o2 .pow (.lit (.int 10)) (.lit (.int 18)))))
  (.seq (.setI 0 (.lit (.int 2)) (.p (.var 3)))
  .skip)
  (.seq (.setI 0 (.lit (.int 3)) (.p (.o2 .mod (.o2 .add (.o2 .add (.o2 .mul (.o2 .idx (.var 0) (.lit (.int 3))) (.lit (.int 40503))) (.o2 .mul (.o2 .mod (.var 3) (.lit (.int 2147483563))) (.lit (.int 69621)))) (.lit (.int 7))) (.lit (.int 2147483587)))))
  .skip))
  .skip)))
  .skip)
  (.seq (.ite (.p (.o2 .gt (.o2 .idx (.var 0) (.lit (.int 2))) (.lit (.int 0))))
  (.seq (.asg 4 (.p (.o2 .mod (.o2 .idx (.var 0) (.lit (.int 2))) (.var 1))))
  (.seq (.setI 0 (.lit (.int 2)) (.p (.o2 .fdiv (.o2 .idx (.var 0) (.lit (.int 2))) (.var 1))))
  (.seq (.ret (.p (.var 4)))
  .skip)))
  .skip)
  (.seq (.asg 2 (.p (.o2 .idx (.var 0) (.lit (.int 3)))))
  (.seq (.setI 0 (.lit (.int 3)) (.p (.o2 .mod (.o2 .add (.o2 .add (.o2 .add (.o2 .mul (.o2 .mod (.o2 .mul (.var 2) (.var 2)) (.lit (.int 2147483629))) (.lit (.int 16807))) (.o2 .mul (.var 2) (.lit (.int 48271)))) (.lit (.int 40692))) (.o2 .idx (.var 0) (.lit (.int 4)))) (.lit (.int 2147483587)))))
  (.seq (.ret (.p (.o2 .mod (.o2 .add (.o2 .fdiv (.o2 .idx (.var 0) (.lit (.int 3))) (.lit (.int 61))) (.o2 .mul (.o2 .mod (.o2 .idx (.var 0) (.lit (.int 3))) (.lit (.int 4093))) (.lit (.int 29)))) (.var 1))))
  .skip))))))⟩
def f__law_one_of : Fn := ⟨2, 2, [true, true],
  (.seq (.ret (.o2 .idx (.p (.var 1)) (.call ("", "_law_pull") (.cons (.bor 0) (.cons (.frE (.p (.o1 .len (.var 1)))) .nil)) [])))
  .skip)⟩
def bagT (ns : List Int) (a b s n : Int) : T := .lst [.lst (ns.map tI), .sh (.int a), .sh (.int b), .sh (.int s), .sh (.int n)]
structure BagOk (ns : List Int) (a b s n : Int) : Prop where
  a0 : 0 ≤ a
  b0 : 0 ≤ b
  s0 : 0 ≤ s
  s1 : s < 2147483647
def Bag (t : T) : Prop := ∃ ns a b s n, t = bagT ns a b s n ∧ BagOk ns a b s n
theorem pull_ok {Q : Fk → Option Fn} (hQ : Q ("", "_law_pull") = some f__law_pull) (n : Nat) {b : T} {m : Int} {K : Cr → Prop} (hb : Bag b) (m0 : 0 < m) (m1 : m < 2 ^ 200) 
    (k : ∀ (k : Int) (b' : T), 0 ≤ k → k < m → Bag b' → K (.ok (.sh (.int k)) [some b', some (.sh (.int m))])) : WC (callN Q (n + 1)) ("", "_law_pull") [b, .sh (.int m)] K := by
  obtain ⟨ns, a, g, s, c, rfl, ok⟩ := hb
  have lm : m.natAbs.log2 < 9000 := by have := log_lt (k := 200) (by omega) m1 (by omega); omega
  clear m1
  refine wc_fn hQ ⟨rfl, rfl, by decide⟩ ?_
  dsimp only [l_map0, l_map1, l_set0, l_set1, l_app0, l_app1, l_rep0, l_rep1, finOf, back, E.bors, E.bor1, Int.reduceToNat, Nat.reduceSub, Nat.reduceAdd, l_len0, l_len1, asI, asB, asD, T.toD, Ts.toD, wipe1, unwipe, slot, tI, MP.tB, tS]
  simp only [bagT]
  obtain ⟨a0, b0, s0, s1⟩ := ok
  have key : ∀ {i : Int} {K : T → Prop}, 0 ≤ i → decide (i < ((ns.map tI).length : Int)) = true → (∀ x : Int, K (.sh (.int x))) → Sm (ev2 .idx (.lst (ns.map tI)) (.sh (.int i))) K := fun {i K} h0 h1 h2 => by
    have h1 := of_decide_eq_true h1
    have h3 : i.toNat < (ns.map tI).length := by omega
    refine .of (t := (ns.map tI)[i.toNat]) ?_ ?_
    · show atI (ns.map tI) i = _
      unfold atI ixN
      rw [if_pos h0, if_pos h1]
      exact List.getElem?_eq_getElem h3
    · rw [List.getElem_map]; exact h2 _
  have fin : ∀ {x a b s c : Int}, 0 ≤ x → x < m → 0 ≤ a → 0 ≤ b → 0 ≤ s → s < 2147483647 → K (.ok (.sh (.int x)) [some (T.lst [T.lst (List.map tI ns), .sh (.int a), .sh (.int b), .sh (.int s), .sh (.int c)]), some (.sh (.int m))]) :=
    fun {x a b s c} h1 h2 h3 h4 h5 h6 => k _ _ h1 h2 ⟨ns, a, b, s, c, rfl, ⟨h3, h4, h5, h6⟩⟩
  repeat' ((fail_if_success refine ws_mid (a := .ite _ _ _) (fun _ => True) ?_ ?_); first | infer_instance | fail)
  refine ws_mid (fun r => ∃ a g s x, r = [some (T.lst [T.lst (List.map tI ns), .sh (.int a), .sh (.int g), .sh (.int s), .sh (.int (c + 1))]), some (.sh (.int m)), none, x, none] ∧ BagOk ns a g s (c + 1)) ?_ ?_
  · repeat' (first | infer_instance | fail)
    · refine key a0 (decide_eq_true (by assumption)) (fun x => ?_)
      dsimp only
      repeat' (first | infer_instance | fail)
      · exact ⟨_, _, _, _, rfl, by omega, by have : (10 : Int) ^ Int.toNat 18 = 1000000000000000000 := by decide
                                             omega, s0, s1⟩
      · exact ⟨_, _, _, _, rfl, by omega, b0, by omega, by omega⟩
    · exact ⟨_, _, _, _, rfl, a0, b0, s0, s1⟩
    · exact ⟨_, _, _, _, rfl, a0, b0, s0, s1⟩
  · rintro _ ⟨a, g, s, x, rfl, ⟨a0, b0, s0, s1⟩⟩
    repeat' (first | infer_instance | fail)
    · refine fin (Int.emod_nonneg _ (by omega)) (Int.emod_lt_of_pos _ m0) a0 (Int.ediv_nonneg b0 (by omega)) s0 s1
    · refine fin (Int.emod_nonneg _ (by omega)) (Int.emod_lt_of_pos _ m0) a0 b0 (by omega) (by omega)
theorem of_mem {ds : List D} {k : Int} {K : T → Prop} (h0 : 0 ≤ k) (h1 : k < ds.length) (h : ∀ d ∈ ds, K (.sh d)) : Sm (ev2 .idx (.sh (.lst ds)) (.sh (.int k))) K := by
  have h3 : k.toNat < ds.length := by omega
  refine .of (t := .sh ds[k.toNat]) ?_ (h _ (List.getElem_mem h3))
  show atI (ds.map T.sh) k = _
  unfold atI ixN
  rw [if_pos h0, if_pos (by simpa using h1)]
  simp [h3]
theorem one_of_ok {Q : Fk → Option Fn} (hP : Q ("", "_law_pull") = some f__law_pull) (hQ : Q ("", "_law_one_of") = some f__law_one_of) (n : Nat) {b : T} {ds : List D} {K : Cr → Prop} (hb : Bag b) (m0 : ds ≠ []) (m1 : ds.length < 2 ^ 64)
    (k : ∀ (d : D) (b' : T), d ∈ ds → Bag b' → K (.ok (.sh d) [some b', some (.sh (.lst ds))])) : WC (callN Q (n + 2)) ("", "_law_one_of") [b, .sh (.lst ds)] K := by
  have l0 : 0 < ds.length := List.length_pos_iff.mpr m0
  refine wc_fn hQ ⟨rfl, rfl, by decide⟩ ?_
  dsimp only [l_map0, l_map1, l_set0, l_set1, l_app0, l_app1, l_rep0, l_rep1, finOf, back, E.bors, E.bor1, Int.reduceToNat, Nat.reduceSub, Nat.reduceAdd, l_len0, l_len1, l_get0, l_get1, asI, asB, asD, T.toD, Ts.toD, wipe1, unwipe, slot, tI, MP.tB, tS, Tg.slots]
  repeat' (first | infer_instance | fail)
  refine pull_ok hP n hb (by omega) (by omega) fun x b' h1 h2 hb' => ?_
  dsimp only [l_map0, l_map1, l_set0, l_set1, l_app0, l_app1, l_rep0, l_rep1, finOf, back, E.bors, E.bor1, Int.reduceToNat, Nat.reduceSub, Nat.reduceAdd, l_len0, l_len1, l_get0, l_get1, asI, asB, asD, T.toD, Ts.toD, wipe1, unwipe, slot, tI, MP.tB, tS, Tg.slots]
  repeat' (first | infer_instance | fail)
  refine of_mem h1 h2 fun d hd => ?_
  exact k d b' hd hb'
theorem bag_ok {Q : Fk → Option Fn} (hQ : Q ("", "_law_bag") = some f__law_bag) (n : Nat) {ns : List Int} {K : Cr → Prop} (hn : ns.length ≤ 63)
    (k : ∀ (b : T), Bag b → K (.ok b [some (.sh (.scr ns))])) : WC (callN Q (n + 1)) ("", "_law_bag") [.sh (.scr ns)] K := by
  have cut : cutT ns none (some 63) = ns := by
    unfold cutT HT.sIx
    simp only [show ¬ ((63 : Int) < 0) from by omega, if_false]
    simp only [Nat.min_def]
    split
    · simp; exact List.take_of_length_le hn
    · simp
  refine wc_fn hQ ⟨rfl, rfl, by decide⟩ ?_
  dsimp only [l_map0, l_map1, l_set0, l_set1, l_app0, l_app1, l_rep0, l_rep1, finOf, back, E.bors, E.bor1, Int.reduceToNat, Nat.reduceSub, Nat.reduceAdd, l_len0, l_len1, l_get0, l_get1, asI, asB, asD, T.toD, Ts.toD, wipe1, unwipe, slot, tI, MP.tB, tS, Tg.slots]
  repeat' (first | infer_instance | fail)
  rw [cut, List.length_map]
  repeat' (first | infer_instance | fail)
  rw [cut]
  repeat' (first | infer_instance | fail)
  refine for_inv (fun ds r => (∀ d ∈ ds, ∃ i, d = .int i) ∧ ∃ s x, r = [some (.sh (.scr ns)), some (.sh (.int s)), x] ∧ 0 ≤ s ∧ s < 2147483647) ⟨by simp, _, _, rfl, by omega, by omega⟩ ?_ ?_
  · rintro _ ⟨_, s, x, rfl, s0, s1⟩
    repeat' (first | infer_instance | fail)
    exact k _ ⟨ns, 0, 0, s, 0, by rw [bagT, map_tI, cut], ⟨by omega, by omega, s0, s1⟩⟩
  · rintro d ds _ ⟨hd, s, x, rfl, s0, s1⟩
    obtain ⟨i, rfl⟩ := hd d (by simp)
    repeat' (first | infer_instance | fail)
    exact ⟨fun d h => hd d (by simp [h]), _, _, rfl, by omega, by omega⟩
end PL
/-! PS: told and made names. -/
namespace PL
open PySem PySem.Spec PyProof.Rows L2 MP
local macro_rules | `(tactic| infer_instance) => `(tactic| (first
  | refine Step.h ?_
  | refine Sm.mk1 ?_
  | (refine Br.mk (fun h => ?_) (fun h => ?_) <;> first | contradiction | replace h := of_decide_eq_true h | replace h := of_decide_eq_false h | skip)
  | refine Sc.mk (by first | decide | rfl | omega | exact log_ok (by omega) (by omega) (by omega) (by omega) | exact log_s (by omega) (by omega) | exact And.intro (by omega) (by omega)) ?_
  | fail); try dsimp only [l_map0, l_map1, l_set0, l_set1, l_app0, l_app1, l_rep0, l_rep1, finOf, back, E.bors, E.bor1, Int.reduceToNat, Nat.reduceSub, Nat.reduceAdd, l_len0, l_len1, l_get0, l_get1, asI, asB, asD, T.toD, Ts.toD, wipe1, unwipe, slot, tI, MP.tB, tS, Tg.slots])
def f_is_told : Fn := ⟨1, 2, [true],
  (.seq (.ret (.and (.chain .le .le (.lit (.int 1)) (.o1 .len (.var 0)) (.glo "LONGEST" (.int 6))) (.and (.o1 .allL (.lc (.var 1) (.iv (.p (.var 0))) .yes (.p (.o2 .inn (.var 1) (.glo "LETTERS" (.str "abcdefghijklmnopqrstuvwxyz")))))) (.p (.o2 .ne (.var 0) (.glo "NIL" (.str "nil")))))))
  .skip)⟩
def f_is_made : Fn := ⟨1, 2, [true],
  (.seq (.ret (.and (.p (.o2 .eq (.o2 .sliceT (.var 0) (.lit (.int 1))) (.lit (.str "v")))) (.and (.chain .le .le (.lit (.int 2)) (.o1 .len (.var 0)) (.lit (.int 3))) (.and (.o1 .allL (.lc (.var 1) (.iv (.frE (.o2 .sliceF (.p (.var 0)) (.p (.lit (.int 1)))))) .yes (.p (.o2 .inn (.var 1) (.glo "FIGURES" (.str "0123456789")))))) (.p (.o2 .ne (.o2 .idx (.var 0) (.lit (.int 1))) (.lit (.str "0"))))))))
  .skip)⟩
def f_is_name : Fn := ⟨1, 1, [true],
  (.seq (.ret (.or (.call ("", "is_told") (.cons (.p (.var 0)) .nil) []) (.call ("", "is_made") (.cons (.p (.var 0)) .nil) [])))
  .skip)⟩
def f_is_term : Fn := ⟨1, 1, [true],
  (.seq (.ret (.or (.p (.o2 .eq (.var 0) (.glo "NIL" (.str "nil")))) (.call ("", "is_name") (.cons (.p (.var 0)) .nil) [])))
  .skip)⟩
def f__law_same : Fn := ⟨2, 4, [true, true],
  (.seq (.ite (.p (.o1 (.isinst ["list", "tuple"]) (.var 1)))
  (.seq (.ite (.or (.p (.o2 .ne (.o1 (.isinst ["list"]) (.var 0)) (.o1 (.isinst ["list"]) (.var 1)))) (.p (.o2 .ne (.o1 (.isinst ["tuple"]) (.var 0)) (.o1 (.isinst ["tuple"]) (.var 1)))))
  (.seq (.ret (.p (.lit (.bl false))))
  .skip)
  .skip)
  (.seq (.ret (.and (.p (.o2 .eq (.o1 .len (.var 0)) (.o1 .len (.var 1)))) (.o1 .allL (.lc (.cons (.var 2) (.cons (.var 3) .nil)) (.zip (.p (.var 0)) (.p (.var 1))) .yes (.call ("", "_law_same") (.cons (.p (.var 2)) (.cons (.p (.var 3)) .nil)) [])))))
  .skip))
  .skip)
  (.seq (.ite (.or (.p (.o1 .isN (.var 1))) (.p (.o1 .isN (.var 0))))
  (.seq (.ret (.and (.p (.o1 .isN (.var 0))) (.p (.o1 .isN (.var 1)))))
  .skip)
  .skip)
  (.seq (.ite (.or (.p (.o2 .ne (.o1 (.isinst ["bool"]) (.var 1)) (.o1 (.isinst ["bool"]) (.var 0)))) (.p (.o2 .ne (.o1 (.isinst ["int"]) (.var 1)) (.o1 (.isinst ["int"]) (.var 0)))))
  (.seq (.ret (.p (.lit (.bl false))))
  .skip)
  .skip)
  (.seq (.ret (.and (.p (.o2 .eq (.o1 (.isinst ["str"]) (.var 1)) (.o1 (.isinst ["str"]) (.var 0)))) (.p (.o2 .eq (.var 0) (.var 1)))))
  .skip))))⟩
def f__law_names : Fn := ⟨2, 11, [true, true],
  (.seq (.asg 2 (.frE (.lst (.cons (.p (.lit (.str "free"))) (.cons (.p (.lit (.str "cell"))) (.cons (.p (.lit (.str "call"))) (.cons (.p (.lit (.str "if"))) (.cons (.p (.lit (.str "end"))) (.cons (.p (.lit (.str "out"))) (.cons (.p (.lit (.str "off"))) (.cons (.p (.lit (.str "none"))) (.cons (.p (.lit (.str "hold"))) (.cons (.p (.lit (.str "given"))) (.cons (.p (.lit (.str "claim"))) (.cons (.p (.lit (.str "body"))) .nil)))))))))))))))
  (.seq (.asg 3 (.p (.lit (.str "abcdefghijklmnopqrstuvwxyz"))))
  (.seq (.unp (.cons (.var 7) (.cons (.var 8) .nil)) (.tup (.cons (.call ("", "_law_pull") (.cons (.bor 0) (.cons (.p (.lit (.int 26))) .nil)) []) (.cons (.call ("", "_law_pull") (.cons (.bor 0) (.cons (.p (.lit (.int 4))) .nil)) []) .nil))))
  (.seq (.ite (.p (.o2 .eq (.var 8) (.lit (.int 0))))
  (.seq (.asg 6 (.frE (.call ("", "_law_one_of") (.cons (.bor 0) (.cons (.frE (.lst (.cons (.p (.lit (.int 1))) (.cons (.p (.lit (.int 5))) (.cons (.p (.lit (.int 7))) (.cons (.p (.lit (.int 11))) .nil)))))) .nil)) [])))
  (.seq (.ret (.lc (.var 10) (.rng1 (.p (.var 1))) .yes (.p (.o2 .idx (.var 2) (.o2 .mod (.o2 .add (.var 7) (.o2 .mul (.var 6) (.var 10))) (.lit (.int 12)))))))
  .skip))
  .skip)
  (.seq (.ite (.and (.p (.o2 .eq (.var 8) (.lit (.int 1)))) (.and (.p (.o2 .eq (.o2 .mod (.var 7) (.lit (.int 2))) (.lit (.int 0)))) (.p (.o2 .lt (.var 1) (.lit (.int 7))))))
  (.seq (.asg 9 (.frE (.o2 .join (.p (.lit (.str ""))) (.lc (.var 10) (.rng1 (.p (.lit (.int 6)))) .yes (.p (.o2 .idx (.var 3) (.o2 .mod (.o2 .add (.var 7) (.var 10)) (.lit (.int 26)))))))))
  (.seq (.ret (.lc (.var 10) (.rng1 (.p (.var 1))) .yes (.o2 .sliceT (.p (.var 9)) (.p (.o2 .add (.var 10) (.lit (.int 1)))))))
  .skip))
  .skip)
  (.seq (.asg 4 (.frE (.call ("", "_law_one_of") (.cons (.bor 0) (.cons (.frE (.lst (.cons (.p (.lit (.str ""))) (.cons (.p (.lit (.str "q"))) (.cons (.p (.lit (.str "ab"))) (.cons (.p (.lit (.str "pear"))) (.cons (.p (.lit (.str "zzzzz"))) .nil))))))) .nil)) [])))
  (.seq (.asg 5 (.frE (.call ("", "_law_pull") (.cons (.bor 0) (.cons (.p (.o2 .add (.o1 .len (.var 4)) (.lit (.int 1)))) .nil)) [])))
  (.seq (.asg 6 (.frE (.call ("", "_law_one_of") (.cons (.bor 0) (.cons (.frE (.lst (.cons (.p (.lit (.int 1))) (.cons (.p (.lit (.int 3))) (.cons (.p (.lit (.int 5))) (.cons (.p (.lit (.int 7))) (.cons (.p (.lit (.int 9))) (.cons (.p (.lit (.int 11))) .nil)))))))) .nil)) [])))
  (.seq (.ret (.lc (.var 10) (.rng1 (.p (.var 1))) .yes (.o2 .add (.o2 .add (.o2 .sliceT (.p (.var 4)) (.p (.var 5))) (.p (.o2 .idx (.var 3) (.o2 .mod (.o2 .add (.var 7) (.o2 .mul (.var 6) (.var 10))) (.lit (.int 26)))))) (.o2 .sliceF (.p (.var 4)) (.p (.var 5))))))
  .skip)))))))))⟩
def f__law_is_told : Fn := ⟨1, 3, [true],
  (.seq (.asg 1 (.p (.lit (.str "abcdefghijklmnopqrstuvwxyz"))))
  (.seq (.ret (.and (.chain .le .le (.lit (.int 1)) (.o1 .len (.var 0)) (.lit (.int 6))) (.and (.o1 .allL (.lc (.var 2) (.iv (.p (.var 0))) .yes (.p (.o2 .inn (.var 2) (.var 1))))) (.p (.o2 .ne (.var 0) (.lit (.str "nil")))))))
  .skip))⟩
def f__law_is_made : Fn := ⟨1, 2, [true],
  (.seq (.ret (.and (.p (.o2 .eq (.o2 .sliceT (.var 0) (.lit (.int 1))) (.lit (.str "v")))) (.o2 .inn (.o2 .sliceF (.p (.var 0)) (.p (.lit (.int 1)))) (.lc (.var 1) (.rng2 (.p (.lit (.int 1))) (.p (.lit (.int 100)))) .yes (.p (.o1 .strI (.var 1)))))))
  .skip)⟩
def f__law_is_term : Fn := ⟨1, 1, [true],
  (.seq (.ret (.or (.p (.o2 .eq (.var 0) (.lit (.str "nil")))) (.or (.call ("", "_law_is_told") (.cons (.p (.var 0)) .nil) []) (.call ("", "_law_is_made") (.cons (.p (.var 0)) .nil) []))))
  .skip)⟩
abbrev CR : Str → List Nat := fun x => x.cps.toList
def LET : List Nat := CR "abcdefghijklmnopqrstuvwxyz"
def FIG : List Nat := CR "0123456789"
def told (x : Str) : Bool := decide (1 ≤ x.length) && decide (x.length ≤ 6) && (CR x).all (fun k => decide (k ∈ LET)) && !decide (x = ("nil" : Str))
def chD (k : Nat) : D := .str ⟨#[k]⟩
def chN : D → Nat
  | .str x => x.cps.toList.headD 0
  | _ => 0
instance i_itemsS {x : Str} {K : List D → Prop} : Step (Sm (items (.str x)) K) (K ((CR x).map chD)) := ⟨fun k => .of rfl k⟩
instance i_slS {z : Str} {i j : Option Int} {K : T → Prop} : Step (Sm (sliceOf (.sh (.str z)) i j) K) (Sc (z.length ≤ sizeLine) (K (.sh (.str (cutS z i j))))) :=
  ⟨fun k => .of (by show (if z.length ≤ sizeLine then some (MP.tS (cutS z i j)) else none) = _; rw [if_pos k.1]; rfl) k.2⟩
instance i_slT {a : T} {i : Int} {K : T → Prop} : Step (Sm (ev2 .sliceT a (.sh (.int i))) K) (Sm (sliceOf a none (some i)) K) := ⟨fun k => .of (t := k.h.choose) (by exact k.h.choose_spec.1) k.h.choose_spec.2⟩
instance i_slF {a : T} {i : Int} {K : T → Prop} : Step (Sm (ev2 .sliceF a (.sh (.int i))) K) (Sm (sliceOf a (some i) none) K) := ⟨fun k => .of (t := k.h.choose) (by exact k.h.choose_spec.1) k.h.choose_spec.2⟩
theorem allB_map {α : Type} {l : List α} {p : α → Bool} : MP.allB ((l.map fun d => D.bl (p d)).map .sh) = some (l.map p) := by
  induction l with
  | nil => rfl
  | cons a l ih => simp only [List.map_cons, MP.allB, asB, ih]
instance i_allL {α : Type} {l : List α} {p : α → Bool} {K : T → Prop} : Step (Sm (ev1 .allL (.sh (.lst (l.map fun d => .bl (p d))))) K) (K (.sh (.bl (l.all p)))) :=
  ⟨fun k => .of (by show (MP.allB ((l.map fun d => D.bl (p d)).map .sh)).map _ = _; rw [allB_map]; simp [MP.tB, List.all_map, Function.comp_def]) k⟩
instance i_anyL {α : Type} {l : List α} {p : α → Bool} {K : T → Prop} : Step (Sm (ev1 .anyL (.sh (.lst (l.map fun d => .bl (p d))))) K) (K (.sh (.bl (l.any p)))) :=
  ⟨fun k => .of (by show (MP.allB ((l.map fun d => D.bl (p d)).map .sh)).map _ = _; rw [allB_map]; simp [MP.tB, List.any_map, Function.comp_def]) k⟩
theorem len_str {z : Str} : (CR z).length = z.length := Array.length_toList
/-- all([sign in S for sign in x]) -/
theorem told_ok {Q : Fk → Option Fn} (hQ : Q ("", "is_told") = some f_is_told) (n : Nat) {x : Str} {K : Cr → Prop} (hx : x.length < sizeLine)
    (k : K (.ok (.sh (.bl (told x))) [some (.sh (.str x))])) : WC (callN Q (n + 1)) ("", "is_told") [.sh (.str x)] K := by
  have k' : ∀ b, b = told x → K (.ok (.sh (.bl b)) [some (.sh (.str x))]) := fun b e => e ▸ k
  refine wc_fn hQ ⟨rfl, rfl, by decide⟩ ?_
  dsimp only [l_map0, l_map1, l_set0, l_set1, l_app0, l_app1, l_rep0, l_rep1, finOf, back, E.bors, E.bor1, Int.reduceToNat, Nat.reduceSub, Nat.reduceAdd, l_len0, l_len1, l_get0, l_get1, asI, asB, asD, T.toD, Ts.toD, wipe1, unwipe, slot, tI, MP.tB, tS, Tg.slots]
  repeat' (first | infer_instance | fail)
  · rename_i h1 h2
    refine WLc.mapD (fun d => .bl (decide (chN d ∈ LET))) rfl (by rw [List.length_map, len_str]; exact hx) (fun d hd => ?_) ?_
    · obtain ⟨a, _, rfl⟩ := List.mem_map.mp hd
      repeat' (first | infer_instance | fail)
      rfl
    · dsimp only [l_map0, l_map1, l_set0, l_set1, l_app0, l_app1, l_rep0, l_rep1, finOf, back, E.bors, E.bor1, Int.reduceToNat, Nat.reduceSub, Nat.reduceAdd, l_len0, l_len1, l_get0, l_get1, asI, asB, asD, T.toD, Ts.toD, wipe1, unwipe, slot, tI, MP.tB, tS, Tg.slots]
      repeat' (first | infer_instance | fail)
      · rename_i h3
        refine k' _ ?_
        rw [List.all_map] at h3
        have h3 : (CR x).all (fun k => decide (k ∈ LET)) = true := h3
        simp only [told, h3]; simp; omega
      · rename_i h3
        refine k' _ ?_
        rw [List.all_map] at h3
        have h3 : (CR x).all (fun k => decide (k ∈ LET)) = false := h3
        simp only [told, h3]; simp
  · refine k' _ ?_
    simp only [told]; simp; omega
  · refine k' _ ?_
    simp only [told]; simp; omega
theorem ltold_ok {Q : Fk → Option Fn} (hQ : Q ("", "_law_is_told") = some f__law_is_told) (n : Nat) {x : Str} {K : Cr → Prop} (hx : x.length < sizeLine)
    (k : K (.ok (.sh (.bl (told x))) [some (.sh (.str x))])) : WC (callN Q (n + 1)) ("", "_law_is_told") [.sh (.str x)] K := by
  have k' : ∀ b, b = told x → K (.ok (.sh (.bl b)) [some (.sh (.str x))]) := fun b e => e ▸ k
  refine wc_fn hQ ⟨rfl, rfl, by decide⟩ ?_
  dsimp only [l_map0, l_map1, l_set0, l_set1, l_app0, l_app1, l_rep0, l_rep1, finOf, back, E.bors, E.bor1, Int.reduceToNat, Nat.reduceSub, Nat.reduceAdd, l_len0, l_len1, l_get0, l_get1, asI, asB, asD, T.toD, Ts.toD, wipe1, unwipe, slot, tI, MP.tB, tS, Tg.slots]
  repeat' (first | infer_instance | fail)
  · rename_i h1 h2
    refine WLc.mapD (fun d => .bl (decide (chN d ∈ LET))) rfl (by rw [List.length_map, len_str]; exact hx) (fun d hd => ?_) ?_
    · obtain ⟨a, _, rfl⟩ := List.mem_map.mp hd
      repeat' (first | infer_instance | fail)
      rfl
    · dsimp only [l_map0, l_map1, l_set0, l_set1, l_app0, l_app1, l_rep0, l_rep1, finOf, back, E.bors, E.bor1, Int.reduceToNat, Nat.reduceSub, Nat.reduceAdd, l_len0, l_len1, l_get0, l_get1, asI, asB, asD, T.toD, Ts.toD, wipe1, unwipe, slot, tI, MP.tB, tS, Tg.slots]
      repeat' (first | infer_instance | fail)
      · rename_i h3
        refine k' _ ?_
        rw [List.all_map] at h3
        have h3 : (CR x).all (fun k => decide (k ∈ LET)) = true := h3
        simp only [told, h3]; simp; omega
      · rename_i h3
        refine k' _ ?_
        rw [List.all_map] at h3
        have h3 : (CR x).all (fun k => decide (k ∈ LET)) = false := h3
        simp only [told, h3]; simp
  · refine k' _ ?_
    simp only [told]; simp; omega
  · refine k' _ ?_
    simp only [told]; simp; omega
def tl (x : Str) (lo : Nat) : Str := cutS x (some lo) none
def made (x : Str) : Bool := decide (cutS x none (some 1) = ("v" : Str)) && decide (2 ≤ x.length) && decide (x.length ≤ 3) && (CR (cutS x (some 1) none)).all (fun k => decide (k ∈ FIG)) && !decide ((CR x)[1]? = some 48)
theorem made_ok {Q : Fk → Option Fn} (hQ : Q ("", "is_made") = some f_is_made) (n : Nat) {x : Str} {K : Cr → Prop} (hx : x.length < sizeLine)
    (k : K (.ok (.sh (.bl (made x))) [some (.sh (.str x))])) : WC (callN Q (n + 1)) ("", "is_made") [.sh (.str x)] K := by
  have k' : ∀ b, b = made x → K (.ok (.sh (.bl b)) [some (.sh (.str x))]) := fun b e => e ▸ k
  have l1 := cutS_length x (some 1) none
  refine wc_fn hQ ⟨rfl, rfl, by decide⟩ ?_
  dsimp only [l_map0, l_map1, l_set0, l_set1, l_app0, l_app1, l_rep0, l_rep1, finOf, back, E.bors, E.bor1, Int.reduceToNat, Nat.reduceSub, Nat.reduceAdd, l_len0, l_len1, l_get0, l_get1, asI, asB, asD, T.toD, Ts.toD, wipe1, unwipe, slot, tI, MP.tB, tS, Tg.slots]
  repeat' (first | infer_instance | fail)
  · refine WLc.mapD (fun d => .bl (decide (chN d ∈ FIG))) rfl (by rw [List.length_map, len_str]; omega) (fun d hd => ?_) ?_
    · obtain ⟨a, _, rfl⟩ := List.mem_map.mp hd
      repeat' (first | infer_instance | fail)
      rfl
    · rename_i h0 h1 h2
      dsimp only [l_map0, l_map1, l_set0, l_set1, l_app0, l_app1, l_rep0, l_rep1, finOf, back, E.bors, E.bor1, Int.reduceToNat, Nat.reduceSub, Nat.reduceAdd, l_len0, l_len1, l_get0, l_get1, asI, asB, asD, T.toD, Ts.toD, wipe1, unwipe, slot, tI, MP.tB, tS, Tg.slots]
      repeat' (first | infer_instance | fail)
      · rename_i h3
        rw [List.all_map] at h3
        have h3 : (CR (cutS x (some 1) none)).all (fun k => decide (k ∈ FIG)) = true := h3
        have hl : 1 < (CR x).length := by rw [len_str]; omega
        refine .of (t := .sh (.str ⟨#[(CR x)[1]]⟩)) ?_ ?_
        · show (if x.length ≤ sizeLine then (atI (CR x) 1).map fun k => MP.tS ⟨#[k]⟩ else none) = _
          rw [if_pos (by omega)]
          unfold atI ixN
          rw [if_pos (by omega), if_pos (by omega)]
          show ((CR x)[1]?).map _ = _
          rw [List.getElem?_eq_getElem hl]; rfl
        · repeat' (first | infer_instance | fail)
          refine k' _ ?_
          have e : (⟨#[(CR x)[1]]⟩ = Str.ofString "0") = ((CR x)[1] = 48) := by
            have : Str.ofString "0" = ⟨#[48]⟩ := by decide +kernel
            rw [this]
            simp
          simp only [made, h0, h3, e, List.getElem?_eq_getElem hl]
          simp; intro _; omega
      · rename_i h3
        rw [List.all_map] at h3
        have h3 : (CR (cutS x (some 1) none)).all (fun k => decide (k ∈ FIG)) = false := h3
        refine k' _ ?_
        simp only [made, h3]; simp
  · refine k' _ ?_
    simp only [made]; simp; omega
  · refine k' _ ?_
    simp only [made]; simp; omega
  · rename_i h
    refine k' _ ?_
    simp only [made]; simp [h]
def lmade (x : Str) : Bool := decide (cutS x none (some 1) = ("v" : Str)) && decide (cutS x (some 1) none ∈ (List.range 99).map fun (k : Nat) => Str.ofString (toString ((1 : Int) + (k : Int))))
theorem lmade_ok0 {Q : Fk → Option Fn} (hQ : Q ("", "_law_is_made") = some f__law_is_made) (n : Nat) {x : Str} {K : Cr → Prop} (hx : x.length < sizeLine)
    (k : K (.ok (.sh (.bl (lmade x))) [some (.sh (.str x))])) : WC (callN Q (n + 1)) ("", "_law_is_made") [.sh (.str x)] K := by
  have k' : ∀ b, b = lmade x → K (.ok (.sh (.bl b)) [some (.sh (.str x))]) := fun b e => e ▸ k
  have l1 := cutS_length x (some 1) none
  refine wc_fn hQ ⟨rfl, rfl, by decide⟩ ?_
  dsimp only [l_map0, l_map1, l_set0, l_set1, l_app0, l_app1, l_rep0, l_rep1, finOf, back, E.bors, E.bor1, Int.reduceToNat, Nat.reduceSub, Nat.reduceAdd, l_len0, l_len1, l_get0, l_get1, asI, asB, asD, T.toD, Ts.toD, wipe1, unwipe, slot, tI, MP.tB, tS, Tg.slots]
  repeat' (first | infer_instance | fail)
  · refine WLc.mapD (fun d => .str (Str.ofString (toString (dI d)))) rfl (by rw [List.length_map, List.length_range]; decide) (fun d hd => ?_) ?_
    · obtain ⟨a, h, rfl⟩ := List.mem_map.mp hd
      have h : a < 99 := by simpa using h
      repeat' (first | infer_instance | fail)
      rfl
    · rename_i h0
      dsimp only [l_map0, l_map1, l_set0, l_set1, l_app0, l_app1, l_rep0, l_rep1, finOf, back, E.bors, E.bor1, Int.reduceToNat, Nat.reduceSub, Nat.reduceAdd, l_len0, l_len1, l_get0, l_get1, asI, asB, asD, T.toD, Ts.toD, wipe1, unwipe, slot, tI, MP.tB, tS, Tg.slots]
      repeat' (first | infer_instance | fail)
      refine k' _ ?_
      simp only [lmade, h0]
      simp [Function.comp_def, dI]
  · rename_i h
    refine k' _ ?_
    simp only [lmade]; simp [h]
theorem name_ok {Q : Fk → Option Fn} (h1 : Q ("", "is_told") = some f_is_told) (h2 : Q ("", "is_made") = some f_is_made) (hQ : Q ("", "is_name") = some f_is_name) (n : Nat) {x : Str} {K : Cr → Prop} (hx : x.length < sizeLine)
    (k : K (.ok (.sh (.bl (told x || made x))) [some (.sh (.str x))])) : WC (callN Q (n + 2)) ("", "is_name") [.sh (.str x)] K := by
  have k' : ∀ b, b = (told x || made x) → K (.ok (.sh (.bl b)) [some (.sh (.str x))]) := fun b e => e ▸ k
  refine wc_fn hQ ⟨rfl, rfl, by decide⟩ ?_
  dsimp only [l_map0, l_map1, l_set0, l_set1, l_app0, l_app1, l_rep0, l_rep1, finOf, back, E.bors, E.bor1, Int.reduceToNat, Nat.reduceSub, Nat.reduceAdd, l_len0, l_len1, l_get0, l_get1, asI, asB, asD, T.toD, Ts.toD, wipe1, unwipe, slot, tI, MP.tB, tS, Tg.slots]
  repeat' (first | infer_instance | fail)
  refine told_ok h1 n hx ?_
  dsimp only [l_map0, l_map1, l_set0, l_set1, l_app0, l_app1, l_rep0, l_rep1, finOf, back, E.bors, E.bor1, Int.reduceToNat, Nat.reduceSub, Nat.reduceAdd, l_len0, l_len1, l_get0, l_get1, asI, asB, asD, T.toD, Ts.toD, wipe1, unwipe, slot, tI, MP.tB, tS, Tg.slots]
  repeat' (first | infer_instance | fail)
  · rename_i h
    exact k' _ (by rw [h]; rfl)
  · rename_i h
    refine made_ok h2 n hx ?_
    dsimp only [l_map0, l_map1, l_set0, l_set1, l_app0, l_app1, l_rep0, l_rep1, finOf, back, E.bors, E.bor1, Int.reduceToNat, Nat.reduceSub, Nat.reduceAdd, l_len0, l_len1, l_get0, l_get1, asI, asB, asD, T.toD, Ts.toD, wipe1, unwipe, slot, tI, MP.tB, tS, Tg.slots]
    exact k' _ (by rw [h]; rfl)
theorem term_ok {Q : Fk → Option Fn} (h1 : Q ("", "is_told") = some f_is_told) (h2 : Q ("", "is_made") = some f_is_made) (h3 : Q ("", "is_name") = some f_is_name) (hQ : Q ("", "is_term") = some f_is_term) (n : Nat) {x : Str} {K : Cr → Prop} (hx : x.length < sizeLine)
    (k : K (.ok (.sh (.bl (decide (x = "nil") || (told x || made x)))) [some (.sh (.str x))])) : WC (callN Q (n + 3)) ("", "is_term") [.sh (.str x)] K := by
  have k' : ∀ b, b = (decide (x = "nil") || (told x || made x)) → K (.ok (.sh (.bl b)) [some (.sh (.str x))]) := fun b e => e ▸ k
  refine wc_fn hQ ⟨rfl, rfl, by decide⟩ ?_
  dsimp only [l_map0, l_map1, l_set0, l_set1, l_app0, l_app1, l_rep0, l_rep1, finOf, back, E.bors, E.bor1, Int.reduceToNat, Nat.reduceSub, Nat.reduceAdd, l_len0, l_len1, l_get0, l_get1, asI, asB, asD, T.toD, Ts.toD, wipe1, unwipe, slot, tI, MP.tB, tS, Tg.slots]
  repeat' (first | infer_instance | fail)
  · rename_i h
    exact k' _ (by simp [h])
  · rename_i h
    refine name_ok h1 h2 h3 n hx ?_
    dsimp only [l_map0, l_map1, l_set0, l_set1, l_app0, l_app1, l_rep0, l_rep1, finOf, back, E.bors, E.bor1, Int.reduceToNat, Nat.reduceSub, Nat.reduceAdd, l_len0, l_len1, l_get0, l_get1, asI, asB, asD, T.toD, Ts.toD, wipe1, unwipe, slot, tI, MP.tB, tS, Tg.slots]
    exact k' _ (by simp [h])
theorem lterm_ok {Q : Fk → Option Fn} (h1 : Q ("", "_law_is_told") = some f__law_is_told) (h2 : Q ("", "_law_is_made") = some f__law_is_made) (hQ : Q ("", "_law_is_term") = some f__law_is_term) (n : Nat) {x : Str} {K : Cr → Prop} (hx : x.length < sizeLine)
    (k : K (.ok (.sh (.bl (decide (x = "nil") || (told x || lmade x)))) [some (.sh (.str x))])) : WC (callN Q (n + 2)) ("", "_law_is_term") [.sh (.str x)] K := by
  have k' : ∀ b, b = (decide (x = "nil") || (told x || lmade x)) → K (.ok (.sh (.bl b)) [some (.sh (.str x))]) := fun b e => e ▸ k
  refine wc_fn hQ ⟨rfl, rfl, by decide⟩ ?_
  dsimp only [l_map0, l_map1, l_set0, l_set1, l_app0, l_app1, l_rep0, l_rep1, finOf, back, E.bors, E.bor1, Int.reduceToNat, Nat.reduceSub, Nat.reduceAdd, l_len0, l_len1, l_get0, l_get1, asI, asB, asD, T.toD, Ts.toD, wipe1, unwipe, slot, tI, MP.tB, tS, Tg.slots]
  repeat' (first | infer_instance | fail)
  · rename_i h
    exact k' _ (by simp [h])
  · refine ltold_ok h1 n hx ?_
    dsimp only [l_map0, l_map1, l_set0, l_set1, l_app0, l_app1, l_rep0, l_rep1, finOf, back, E.bors, E.bor1, Int.reduceToNat, Nat.reduceSub, Nat.reduceAdd, l_len0, l_len1, l_get0, l_get1, asI, asB, asD, T.toD, Ts.toD, wipe1, unwipe, slot, tI, MP.tB, tS, Tg.slots]
    repeat' (first | infer_instance | fail)
    · rename_i h
      exact k' _ (by simp [h])
    · rename_i h0 h
      refine lmade_ok0 h2 n hx ?_
      dsimp only [l_map0, l_map1, l_set0, l_set1, l_app0, l_app1, l_rep0, l_rep1, finOf, back, E.bors, E.bor1, Int.reduceToNat, Nat.reduceSub, Nat.reduceAdd, l_len0, l_len1, l_get0, l_get1, asI, asB, asD, T.toD, Ts.toD, wipe1, unwipe, slot, tI, MP.tB, tS, Tg.slots]
      exact k' _ (by simp [h, h0])
theorem Str.ext' {x y : Str} (h : CR x = CR y) : x = y := by
  cases x; cases y
  simp only [CR] at h
  rw [Array.toList_inj.mp h]
theorem Str.iff' {x y : Str} : x = y ↔ CR x = CR y := ⟨fun h => by rw [h], Str.ext'⟩
theorem cutS_to {z : Str} {k : Nat} : CR (cutS z none (some (k : Int))) = (CR z).take k := by
  unfold cutS HT.sIx
  simp only [show ¬ ((k : Int) < 0) from by omega, if_false, CR, Int.toNat_natCast, List.drop_zero, Nat.sub_zero]
  rw [← len_str, List.take_eq_take_iff]
  simp [CR]
theorem cutS_from {z : Str} {k : Nat} : CR (cutS z (some (k : Int)) none) = (CR z).drop k := by
  unfold cutS HT.sIx
  simp only [show ¬ ((k : Int) < 0) from by omega, if_false, CR, Int.toNat_natCast]
  rw [← len_str]
  rcases Nat.le_total k (CR z).length with h | h
  · rw [Nat.min_eq_left h, List.take_of_length_le (by simp)]
  · rw [Nat.min_eq_right h]
    simp [CR] at h ⊢
    omega
def digits (k : Nat) : List Nat := if k < 10 then [48 + k] else [48 + k / 10, 48 + k % 10]
theorem str_dig : ∀ k : Fin 99, CR (Str.ofString (toString ((1 : Int) + ((k.val : Nat) : Int)))) = digits (k.val + 1) := by decide +kernel
theorem FIG_eq : FIG = [48, 49, 50, 51, 52, 53, 54, 55, 56, 57] := by decide +kernel
theorem lmade_eq (x : Str) : lmade x = made x := by
  have v : CR ("v" : Str) = [118] := by decide +kernel
  have e1 : (cutS x none (some 1) = ("v" : Str)) = ((CR x).take 1 = [118]) := by rw [Str.iff', v, ← cutS_to]; rfl
  have e2 : CR (cutS x (some 1) none) = (CR x).drop 1 := cutS_from (k := 1)
  have e3 : (cutS x (some 1) none ∈ (List.range 99).map fun (k : Nat) => Str.ofString (toString ((1 : Int) + (k : Int)))) ↔ ∃ k, k < 99 ∧ (CR x).drop 1 = digits (k + 1) := by
    rw [List.mem_map]
    constructor
    · rintro ⟨k, hk, e⟩
      have hk : k < 99 := by simpa using hk
      refine ⟨k, hk, ?_⟩
      rw [← e2, ← e]; exact str_dig ⟨k, hk⟩
    · rintro ⟨k, hk, e⟩
      refine ⟨k, by simpa using hk, ?_⟩
      apply Str.ext'
      rw [e2, e]; exact str_dig ⟨k, hk⟩
  have len : x.length = (CR x).length := len_str.symm
  unfold lmade made
  rw [Bool.eq_iff_iff]
  simp only [Bool.and_eq_true, decide_eq_true_eq, e1, e2, e3, len, FIG_eq, List.all_eq_true, Bool.not_eq_true', decide_eq_false_iff_not]
  generalize CR x = l
  rcases l with _ | ⟨a, _ | ⟨b, _ | ⟨c, _ | ⟨d, l⟩⟩⟩⟩
  · simp
  · simp only [List.drop, digits]; simp; intro _ k _; split <;> simp
  · simp only [List.take, List.drop, digits]
    constructor
    · rintro ⟨h, k, hk, e⟩
      split at e
      · injection e with e _
        subst e
        have h : a = 118 := by simpa using h
        simp [h]; omega
      · simp at e
    · rintro ⟨⟨⟨⟨h, _⟩, _⟩, h2⟩, h3⟩
      refine ⟨h, b - 49, ?_, ?_⟩
      · have := h2 b (by simp); simp at this; omega
      · have := h2 b (by simp); simp at this h3
        rw [if_pos (by omega)]
        congr 1; omega
  · simp only [List.take, List.drop, digits]
    constructor
    · rintro ⟨h, k, hk, e⟩
      split at e
      · simp at e
      · injection e with e e'
        injection e' with e' _
        subst e e'
        have h : a = 118 := by simpa using h
        simp [h]; omega
    · rintro ⟨⟨⟨⟨h, _⟩, _⟩, h2⟩, h3⟩
      have hb := h2 b (by simp); have hc := h2 c (by simp); simp at hb hc h3
      refine ⟨h, (b - 48) * 10 + (c - 48) - 1, by omega, ?_⟩
      rw [if_neg (by omega)]
      congr 1
      · omega
      · congr 1; omega
  · simp only [List.drop, digits]; simp
    intro _ k _; split <;> simp
end PL
/-! PE: the law's own equality. -/
namespace PL
open PySem PySem.Spec PyProof.Rows L2 MP
theorem io0 : isOf "NoneType" ["list", "tuple"] = false := rfl
theorem io1 : isOf "NoneType" ["list"] = false := rfl
theorem io2 : isOf "NoneType" ["tuple"] = false := rfl
theorem io3 : isOf "NoneType" ["bool"] = false := rfl
theorem io4 : isOf "NoneType" ["int"] = false := rfl
theorem io5 : isOf "NoneType" ["str"] = false := rfl
theorem io6 : isOf "bool" ["list", "tuple"] = false := rfl
theorem io7 : isOf "bool" ["list"] = false := rfl
theorem io8 : isOf "bool" ["tuple"] = false := rfl
theorem io9 : isOf "bool" ["bool"] = true := rfl
theorem io10 : isOf "bool" ["int"] = true := rfl
theorem io11 : isOf "bool" ["str"] = false := rfl
theorem io12 : isOf "int" ["list", "tuple"] = false := rfl
theorem io13 : isOf "int" ["list"] = false := rfl
theorem io14 : isOf "int" ["tuple"] = false := rfl
theorem io15 : isOf "int" ["bool"] = false := rfl
theorem io16 : isOf "int" ["int"] = true := rfl
theorem io17 : isOf "int" ["str"] = false := rfl
theorem io18 : isOf "str" ["list", "tuple"] = false := rfl
theorem io19 : isOf "str" ["list"] = false := rfl
theorem io20 : isOf "str" ["tuple"] = false := rfl
theorem io21 : isOf "str" ["bool"] = false := rfl
theorem io22 : isOf "str" ["int"] = false := rfl
theorem io23 : isOf "str" ["str"] = true := rfl
theorem io24 : isOf "tuple" ["list", "tuple"] = true := rfl
theorem io25 : isOf "tuple" ["list"] = false := rfl
theorem io26 : isOf "tuple" ["tuple"] = true := rfl
theorem io27 : isOf "tuple" ["bool"] = false := rfl
theorem io28 : isOf "tuple" ["int"] = false := rfl
theorem io29 : isOf "tuple" ["str"] = false := rfl
theorem io30 : isOf "list" ["list", "tuple"] = true := rfl
theorem io31 : isOf "list" ["list"] = true := rfl
theorem io32 : isOf "list" ["tuple"] = false := rfl
theorem io33 : isOf "list" ["bool"] = false := rfl
theorem io34 : isOf "list" ["int"] = false := rfl
theorem io35 : isOf "list" ["str"] = false := rfl
local macro_rules | `(tactic| infer_instance) => `(tactic| (first
  | refine Step.h ?_
  | refine Sm.mk1 ?_
  | (refine Br.mk (fun h => ?_) (fun h => ?_) <;> first | contradiction | replace h := of_decide_eq_true h | replace h := of_decide_eq_false h | skip)
  | refine Sc.mk (by first | decide | rfl | omega | exact log_ok (by omega) (by omega) (by omega) (by omega) | exact log_s (by omega) (by omega) | exact And.intro (by omega) (by omega)) ?_
  | fail); try dsimp only [l_map0, l_map1, l_set0, l_set1, l_app0, l_app1, l_rep0, l_rep1, finOf, back, E.bors, E.bor1, Int.reduceToNat, Nat.reduceSub, Nat.reduceAdd, l_len0, l_len1, l_get0, l_get1, asI, asB, asD, T.toD, Ts.toD, wipe1, unwipe, slot, tI, MP.tB, tS, Tg.slots, io0, io1, io2, io3, io4, io5, io6, io7, io8, io9, io10, io11, io12, io13, io14, io15, io16, io17, io18, io19, io20, io21, io22, io23, io24, io25, io26, io27, io28, io29, io30, io31, io32, io33, io34, io35])
inductive Pl : Nat → D → Prop
  | non {n} : Pl n .non
  | bl {n} (b : Bool) : Pl n (.bl b)
  | int {n} (i : Int) : Pl n (.int i)
  | str {n} (x : Str) : Pl n (.str x)
  | lst {n} (ds : List D) : ds.length < sizeLine → (∀ d ∈ ds, Pl n d) → Pl (n + 1) (.lst ds)
  | tup {n} (ds : List D) : ds.length < sizeLine → (∀ d ∈ ds, Pl n d) → Pl (n + 1) (.tup ds)
theorem Pl.up {n : Nat} {d : D} (h : Pl n d) : Pl (n + 1) d := by
  induction h with
  | non => exact .non
  | bl b => exact .bl b
  | int b => exact .int b
  | str b => exact .str b
  | lst ds h1 h2 ih => exact .lst ds h1 ih
  | tup ds h1 h2 ih => exact .tup ds h1 ih
noncomputable def eqD (a b : D) : Bool := @decide (a = b) (Classical.propDecidable _)
theorem eqD_iff {a b : D} : eqD a b = true ↔ a = b := by unfold eqD; exact @decide_eq_true_iff _ (Classical.propDecidable _)
def pr1 : D → D
  | .tup [a, _] => a
  | _ => .non
def pr2 : D → D
  | .tup [_, a] => a
  | _ => .non
theorem eq_zip : ∀ {xs ys : List D}, xs.length = ys.length → (((xs.zip ys).map fun p => D.tup [p.1, p.2]).all fun d => eqD (pr1 d) (pr2 d)) = eqD (.lst xs) (.lst ys)
  | [], [], _ => by
    have : eqD (.lst []) (.lst []) = true := eqD_iff.mpr rfl
    rw [this]; rfl
  | x :: xs, y :: ys, h => by
    have ih := eq_zip (xs := xs) (ys := ys) (by simpa using h)
    rw [List.zip_cons_cons, List.map_cons, List.all_cons, ih, Bool.eq_iff_iff, Bool.and_eq_true, eqD_iff, eqD_iff, eqD_iff]
    simp [pr1, pr2]
theorem eq_tup {xs ys : List D} : eqD (.tup xs) (.tup ys) = eqD (.lst xs) (.lst ys) := by
  rw [Bool.eq_iff_iff, eqD_iff, eqD_iff]; simp
theorem zip_mem {xs ys : List D} {d : D} (h : d ∈ (xs.zip ys).map fun p => D.tup [p.1, p.2]) : ∃ a b, d = .tup [a, b] ∧ a ∈ xs ∧ b ∈ ys := by
  obtain ⟨⟨a, b⟩, h1, rfl⟩ := List.mem_map.mp h
  exact ⟨a, b, rfl, (List.of_mem_zip h1).1, (List.of_mem_zip h1).2⟩
theorem same_ok {Q : Fk → Option Fn} (hQ : Q ("", "_law_same") = some f__law_same) (n : Nat) : ∀ (m : Nat) {a b : D} {K : Cr → Prop}, Pl m a → Pl m b →
    K (.ok (.sh (.bl (eqD a b))) [some (.sh a), some (.sh b)]) → WC (callN Q (n + m + 1)) ("", "_law_same") [.sh a, .sh b] K
  | m, a, b, K, ha, hb, k => by
    have k' : ∀ q : Bool, (q = true ↔ a = b) → K (.ok (.sh (.bl q)) [some (.sh a), some (.sh b)]) := fun q h => by
      have : q = eqD a b := by rw [Bool.eq_iff_iff, h, eqD_iff]
      rw [this]; exact k
    clear k
    refine wc_fn hQ ⟨rfl, rfl, by decide⟩ ?_
    dsimp only [l_map0, l_map1, l_set0, l_set1, l_app0, l_app1, l_rep0, l_rep1, finOf, back, E.bors, E.bor1, Int.reduceToNat, Nat.reduceSub, Nat.reduceAdd, l_len0, l_len1, l_get0, l_get1, asI, asB, asD, T.toD, Ts.toD, wipe1, unwipe, slot, tI, MP.tB, tS, Tg.slots, io0, io1, io2, io3, io4, io5, io6, io7, io8, io9, io10, io11, io12, io13, io14, io15, io16, io17, io18, io19, io20, io21, io22, io23, io24, io25, io26, io27, io28, io29, io30, io31, io32, io33, io34, io35]
    cases ha <;> cases hb
    all_goals (repeat' (first | infer_instance | fail))
    case lst.lst.refine_1.refine_2.refine_2.refine_1 m xs l1 p1 ys l2 p2 h1 h2 h3 h4 =>
      have hl : xs.length = ys.length := by omega
      refine WLc.mapG (fun d => .bl (eqD (pr1 d) (pr2 d))) (fun d => [some (.sh (.lst xs)), some (.sh (.lst ys)), some (.sh (pr1 d)), some (.sh (pr2 d))]) (by simp; omega) (fun d hd => ?_) ?_
      · obtain ⟨x, y, rfl, hx, hy⟩ := zip_mem hd
        refine ⟨rfl, ?_⟩
        (repeat' (first | infer_instance | fail))
        refine same_ok hQ n m (p1 x hx) (p2 y hy) ?_
        dsimp only [l_map0, l_map1, l_set0, l_set1, l_app0, l_app1, l_rep0, l_rep1, finOf, back, E.bors, E.bor1, Int.reduceToNat, Nat.reduceSub, Nat.reduceAdd, l_len0, l_len1, l_get0, l_get1, asI, asB, asD, T.toD, Ts.toD, wipe1, unwipe, slot, tI, MP.tB, tS, Tg.slots, io0, io1, io2, io3, io4, io5, io6, io7, io8, io9, io10, io11, io12, io13, io14, io15, io16, io17, io18, io19, io20, io21, io22, io23, io24, io25, io26, io27, io28, io29, io30, io31, io32, io33, io34, io35]
        exact ⟨_, rfl, rfl⟩
      · (repeat' (first | infer_instance | fail))
        refine k' _ ?_
        rw [eq_zip hl, eqD_iff]
    case tup.tup.refine_1.refine_2.refine_2.refine_1 m xs l1 p1 ys l2 p2 h1 h2 h3 h4 =>
      have hl : xs.length = ys.length := by omega
      refine WLc.mapG (fun d => .bl (eqD (pr1 d) (pr2 d))) (fun d => [some (.sh (.tup xs)), some (.sh (.tup ys)), some (.sh (pr1 d)), some (.sh (pr2 d))]) (by simp; omega) (fun d hd => ?_) ?_
      · obtain ⟨x, y, rfl, hx, hy⟩ := zip_mem hd
        refine ⟨rfl, ?_⟩
        (repeat' (first | infer_instance | fail))
        refine same_ok hQ n m (p1 x hx) (p2 y hy) ?_
        dsimp only [l_map0, l_map1, l_set0, l_set1, l_app0, l_app1, l_rep0, l_rep1, finOf, back, E.bors, E.bor1, Int.reduceToNat, Nat.reduceSub, Nat.reduceAdd, l_len0, l_len1, l_get0, l_get1, asI, asB, asD, T.toD, Ts.toD, wipe1, unwipe, slot, tI, MP.tB, tS, Tg.slots, io0, io1, io2, io3, io4, io5, io6, io7, io8, io9, io10, io11, io12, io13, io14, io15, io16, io17, io18, io19, io20, io21, io22, io23, io24, io25, io26, io27, io28, io29, io30, io31, io32, io33, io34, io35]
        exact ⟨_, rfl, rfl⟩
      · (repeat' (first | infer_instance | fail))
        refine k' _ ?_
        rw [eq_zip hl, ← eq_tup, eqD_iff]
    all_goals refine k' _ ?_
    all_goals first | (simp [MP.isNon]; done) | (constructor <;> simp_all [MP.isNon]; done) | skip
    all_goals (rename_i h; constructor <;> intro q <;> first | (cases q; done) | (injection q with q; subst q; exact absurd rfl h))
end PL
/-! PN: the law's names. -/
namespace PL
open PySem PySem.Spec PyProof.Rows L2 MP
local macro_rules | `(tactic| infer_instance) => `(tactic| (first
  | refine Step.h ?_
  | refine Sm.mk1 ?_
  | (refine Br.mk (fun h => ?_) (fun h => ?_) <;> first | contradiction | replace h := of_decide_eq_true h | replace h := of_decide_eq_false h | skip)
  | refine Sc.mk (by first | decide | rfl | omega | exact log_ok (by omega) (by omega) (by omega) (by omega) | exact log_s (by omega) (by omega) | exact And.intro (by omega) (by omega)) ?_
  | fail); try dsimp only [l_map0, l_map1, l_set0, l_set1, l_app0, l_app1, l_rep0, l_rep1, finOf, back, E.bors, E.bor1, Int.reduceToNat, Nat.reduceSub, Nat.reduceAdd, l_len0, l_len1, l_get0, l_get1, asI, asB, asD, T.toD, Ts.toD, wipe1, unwipe, slot, tI, MP.tB, tS, Tg.slots])
theorem idx_get {ds : List D} {i : Int} {K : T → Prop} (h0 : 0 ≤ i) (h1 : i < ds.length) (k : K (.sh (ds.getD i.toNat .non))) : Sm (ev2 .idx (.sh (.lst ds)) (.sh (.int i))) K := by
  have h3 : i.toNat < ds.length := by omega
  refine .of (t := .sh (ds.getD i.toNat .non)) ?_ k
  show atI (ds.map T.sh) i = _
  unfold atI ixN
  rw [if_pos h0, if_pos (by simpa using h1)]
  simp [h3]
def toldC (l : List Nat) : Bool := decide (1 ≤ l.length) && decide (l.length ≤ 6) && l.all (fun k => decide (97 ≤ k) && decide (k ≤ 122)) && !decide (l = [110, 105, 108])
theorem LET_eq : LET = List.range' 97 26 := by decide +kernel
theorem told_C (x : Str) : told x = toldC (CR x) := by
  have e : (x = ("nil" : Str)) = (CR x = [110, 105, 108]) := by
    have : CR ("nil" : Str) = [110, 105, 108] := by decide +kernel
    rw [Str.iff', this]
  have f : ∀ k, decide (k ∈ LET) = (decide (97 ≤ k) && decide (k ≤ 122)) := fun k => by
    rw [LET_eq, Bool.eq_iff_iff, Bool.and_eq_true, decide_eq_true_eq, decide_eq_true_eq, decide_eq_true_eq, List.mem_range'_1]
    omega
  unfold told toldC
  simp only [e, f, len_str]
theorem CR_app (x y : Str) : CR (x ++ y) = CR x ++ CR y := Array.toList_append
theorem len_app (x y : Str) : (x ++ y).length = x.length + y.length := Array.size_append
theorem CR_join0 : ∀ l : List Str, CR (Txt.join (Str.ofString "") l) = l.flatMap CR := fun l => by
  have e : Str.ofString "" = ⟨#[]⟩ := by decide +kernel
  rw [TL.join_eq, e]
  induction l with
  | nil => rfl
  | cons a l ih =>
    cases l with
    | nil => simp [Str.join]
    | cons b l =>
      rw [Str.join, CR_app, CR_app, ih]
      · simp [CR]
      · simp
instance i_addS {x y : Str} {K : T → Prop} : Step (Sm (ev2 .add (.sh (.str x)) (.sh (.str y))) K) (Sc (x.length + y.length ≤ sizeLine) (K (.sh (.str (x ++ y))))) :=
  ⟨fun k => .of (by show (if x.length + y.length ≤ sizeLine then some (MP.tS (x ++ y)) else none) = _; rw [if_pos k.1]; rfl) k.2⟩
theorem allS_map {α : Type} {l : List α} {g : α → Str} : allS ((l.map fun a => D.str (g a)).map .sh) = some (l.map g) := by
  induction l with
  | nil => rfl
  | cons a l ih => simp only [List.map_cons, allS, asS, ih]
instance i_join {α : Type} {l : List α} {g : α → Str} {x : Str} {K : T → Prop} : Step (Sm (ev2 .join (.sh (.str x)) (.sh (.lst (l.map fun a => .str (g a))))) K) (Sc (((l.map g).map Str.length).sum + (l.map g).length * x.length ≤ 16777216) (K (.sh (.str (Txt.join x (l.map g)))))) :=
  ⟨fun k => .of (by
    show (match allS ((l.map fun a => D.str (g a)).map T.sh) with | some ys => if (ys.map Str.length).sum + ys.length * x.length ≤ 16777216 then some (MP.tS (Txt.join x ys)) else none | none => none) = _
    rw [allS_map]
    simp only [if_pos k.1]; rfl) k.2⟩
theorem let_get {i : Nat} (h : i < 26) : (CR (Str.ofString "abcdefghijklmnopqrstuvwxyz"))[i]? = some (97 + i) := by
  have : CR (Str.ofString "abcdefghijklmnopqrstuvwxyz") = List.range' 97 26 := LET_eq
  rw [this, List.getElem?_range' (by omega)]; simp
instance i_let {i : Int} {K : T → Prop} : Step (Sm (ev2 .idx (.sh (.str (Str.ofString "abcdefghijklmnopqrstuvwxyz"))) (.sh (.int i))) K) (Sc (0 ≤ i ∧ i < 26) (K (.sh (.str ⟨#[97 + i.toNat]⟩)))) :=
  ⟨fun k => by
    obtain ⟨⟨h0, h1⟩, k⟩ := k
    refine .of (t := .sh (.str ⟨#[97 + i.toNat]⟩)) ?_ k
    have l : (Str.ofString "abcdefghijklmnopqrstuvwxyz").length = 26 := by decide +kernel
    show (if (Str.ofString "abcdefghijklmnopqrstuvwxyz").length ≤ sizeLine then (atI (CR (Str.ofString "abcdefghijklmnopqrstuvwxyz")) i).map fun k => MP.tS ⟨#[k]⟩ else none) = _
    rw [if_pos (by rw [l]; decide)]
    unfold atI ixN
    rw [len_str, l, if_pos h0, if_pos (show i < ((26 : Nat) : Int) from h1)]
    show ((CR (Str.ofString "abcdefghijklmnopqrstuvwxyz"))[i.toNat]?).map _ = _
    rw [let_get (by omega)]; rfl⟩
theorem len_lit5 : (Str.ofString "").length = 0 ∧ (Str.ofString "q").length = 1 ∧ (Str.ofString "ab").length = 2 ∧ (Str.ofString "pear").length = 4 ∧ (Str.ofString "zzzzz").length = 5 := by decide +kernel
def tails : List (List Nat) := [[], [113], [97, 98], [112, 101, 97, 114], [122, 122, 122, 122, 122]]
theorem way3 : ∀ t ∈ tails, ∀ a ∈ List.range 6, ∀ i ∈ List.range 26, toldC (t.take a ++ [97 + i] ++ t.drop a) = true := by decide +kernel
theorem way2 : ∀ s ∈ List.range 26, ∀ j ∈ List.range 6, s % 2 = 0 → toldC (((List.range 6).map fun k => 97 + (s + k) % 26).take (j + 1)) = true := by decide +kernel
theorem cast_emod {s k : Nat} : (((s : Int) + (0 + (k : Int))) % 26).toNat = (s + k) % 26 := by omega
theorem names_ok {Q : Fk → Option Fn} (hP : Q ("", "_law_pull") = some f__law_pull) (hO : Q ("", "_law_one_of") = some f__law_one_of) (hQ : Q ("", "_law_names") = some f__law_names) (n : Nat) {b : T} {m : Int} {K : Cr → Prop} (hb : Bag b) (m0 : 0 ≤ m) (m1 : m ≤ 12)
    (k : ∀ (l : List Str) (b' : T), (l.length : Int) = m → (∀ x ∈ l, told x = true) → Bag b' → K (.ok (.lst ((l.map .str).map .sh)) [some b', some (.sh (.int m))])) : WC (callN Q (n + 3)) ("", "_law_names") [b, .sh (.int m)] K := by
  have hsz : sizeLine = 16777216 := rfl
  have fin : ∀ {es : List D} {b' : T}, (es.length : Int) = m → (∀ e ∈ es, ∃ x, e = .str x ∧ told x = true) → Bag b' → K (.ok (.lst (es.map .sh)) [some b', some (.sh (.int m))]) := fun {es b'} h1 h2 h3 => by
    obtain ⟨l, rfl, h4⟩ : ∃ l : List Str, es = l.map .str ∧ ∀ x ∈ l, told x = true := by
      clear h1
      induction es with
      | nil => exact ⟨[], rfl, by simp⟩
      | cons e es ih =>
        obtain ⟨l, rfl, h⟩ := ih fun e he => h2 e (List.mem_cons_of_mem _ he)
        obtain ⟨x, rfl, hx⟩ := h2 e List.mem_cons_self
        exact ⟨x :: l, rfl, by simp; exact ⟨hx, h⟩⟩
    exact k l b' (by simpa using h1) h4 h3
  refine wc_fn hQ ⟨rfl, rfl, by decide⟩ ?_
  dsimp only [l_map0, l_map1, l_set0, l_set1, l_app0, l_app1, l_rep0, l_rep1, finOf, back, E.bors, E.bor1, Int.reduceToNat, Nat.reduceSub, Nat.reduceAdd, l_len0, l_len1, l_get0, l_get1, asI, asB, asD, T.toD, Ts.toD, wipe1, unwipe, slot, tI, MP.tB, tS, Tg.slots]
  repeat' (first | infer_instance | fail)
  refine pull_ok hP _ hb (by omega) (by omega) fun start b h1 h2 hb => ?_
  dsimp only [l_map0, l_map1, l_set0, l_set1, l_app0, l_app1, l_rep0, l_rep1, finOf, back, E.bors, E.bor1, Int.reduceToNat, Nat.reduceSub, Nat.reduceAdd, l_len0, l_len1, l_get0, l_get1, asI, asB, asD, T.toD, Ts.toD, wipe1, unwipe, slot, tI, MP.tB, tS, Tg.slots]
  repeat' (first | infer_instance | fail)
  refine pull_ok hP _ hb (by omega) (by omega) fun way b h3 h4 hb => ?_
  dsimp only [l_map0, l_map1, l_set0, l_set1, l_app0, l_app1, l_rep0, l_rep1, finOf, back, E.bors, E.bor1, Int.reduceToNat, Nat.reduceSub, Nat.reduceAdd, l_len0, l_len1, l_get0, l_get1, asI, asB, asD, T.toD, Ts.toD, wipe1, unwipe, slot, tI, MP.tB, tS, Tg.slots]
  repeat' (first | infer_instance | fail)
  · refine one_of_ok hP hO _ hb (by simp) (by decide) fun d b hd hb => ?_
    obtain ⟨s, rfl, s0, s1⟩ : ∃ s : Int, d = .int s ∧ 0 ≤ s ∧ s ≤ 11 := by
      simp at hd; rcases hd with rfl | rfl | rfl | rfl <;> exact ⟨_, rfl, by omega, by omega⟩
    dsimp only [l_map0, l_map1, l_set0, l_set1, l_app0, l_app1, l_rep0, l_rep1, finOf, back, E.bors, E.bor1, Int.reduceToNat, Nat.reduceSub, Nat.reduceAdd, l_len0, l_len1, l_get0, l_get1, asI, asB, asD, T.toD, Ts.toD, wipe1, unwipe, slot, tI, MP.tB, tS, Tg.slots]
    repeat' (first | infer_instance | fail)
    refine WLc.mapP (fun e => ∃ x, e = .str x ∧ told x = true) (by simp; omega) (fun d hd => ?_) (fun es l1 l2 => ?_)
    · obtain ⟨j, hj, rfl⟩ := List.mem_map.mp hd
      have hj : j < m.toNat := by simpa using hj
      repeat' (first | infer_instance | fail)
      refine of_mem (by omega) (by simp; omega) fun d hd => ?_
      repeat' (first | infer_instance | fail)
      refine ⟨⟨d, rfl, ?_⟩, rfl⟩
      simp only [List.mem_cons, List.not_mem_nil, or_false] at hd
      rcases hd with rfl | rfl | rfl | rfl | rfl | rfl | rfl | rfl | rfl | rfl | rfl | rfl <;> exact ⟨_, rfl, by decide +kernel⟩
    · dsimp only [l_map0, l_map1, l_set0, l_set1, l_app0, l_app1, l_rep0, l_rep1, finOf, back, E.bors, E.bor1, Int.reduceToNat, Nat.reduceSub, Nat.reduceAdd, l_len0, l_len1, l_get0, l_get1, asI, asB, asD, T.toD, Ts.toD, wipe1, unwipe, slot, tI, MP.tB, tS, Tg.slots]
      exact fin (by rw [l1]; simp; omega) l2 hb
  · refine WLc.mapD (fun d => .str ⟨#[97 + ((start + dI d) % 26).toNat]⟩) rfl (by decide) (fun d hd => ?_) ?_
    · obtain ⟨j, hj, rfl⟩ := List.mem_map.mp hd
      repeat' (first | infer_instance | fail)
      rfl
    · dsimp only [l_map0, l_map1, l_set0, l_set1, l_app0, l_app1, l_rep0, l_rep1, finOf, back, E.bors, E.bor1, Int.reduceToNat, Nat.reduceSub, Nat.reduceAdd, l_len0, l_len1, l_get0, l_get1, asI, asB, asD, T.toD, Ts.toD, wipe1, unwipe, slot, tI, MP.tB, tS, Tg.slots]
      have hW : CR (Txt.join (Str.ofString "") (List.map (fun d => (⟨#[97 + ((start + dI d) % 26).toNat]⟩ : Str)) (List.map (fun (k : Nat) => D.int (0 + ↑k)) (List.range 6)))) = (List.range 6).map fun k => 97 + (start.toNat + k) % 26 := by
        obtain ⟨s, rfl⟩ := Int.eq_ofNat_of_zero_le h1
        rw [CR_join0, List.map_map, List.flatMap_map]
        simp only [Function.comp_def, dI, cast_emod, Int.toNat_natCast]
        rfl
      repeat' (first | infer_instance | fail)
      refine Sc.mk (show 6 + 6 * (Str.ofString "").length ≤ 16777216 by rw [len_lit5.1]; decide) ?_
      generalize hG : Txt.join (Str.ofString "") _ = W at hW ⊢
      have lW : W.length = 6 := by rw [← len_str, hW]; simp
      repeat' (first | infer_instance | fail)
      refine WLc.mapP (fun e => ∃ x, e = .str x ∧ told x = true) (by simp; omega) (fun d hd => ?_) (fun es l1 l2 => ?_)
      · obtain ⟨j, hj, rfl⟩ := List.mem_map.mp hd
        have hj : j < m.toNat := by simpa using hj
        repeat' (first | infer_instance | fail)
        refine ⟨⟨_, rfl, _, rfl, ?_⟩, rfl⟩
        rw [told_C, show (0 + (j : Int) + 1) = ((j + 1 : Nat) : Int) from by omega, cutS_to, hW]
        exact way2 start.toNat (List.mem_range.mpr (by omega)) j (List.mem_range.mpr (by omega)) (by omega)
      · dsimp only [l_map0, l_map1, l_set0, l_set1, l_app0, l_app1, l_rep0, l_rep1, finOf, back, E.bors, E.bor1, Int.reduceToNat, Nat.reduceSub, Nat.reduceAdd, l_len0, l_len1, l_get0, l_get1, asI, asB, asD, T.toD, Ts.toD, wipe1, unwipe, slot, tI, MP.tB, tS, Tg.slots]
        exact fin (by rw [l1]; simp; omega) l2 hb
  all_goals
    refine one_of_ok hP hO _ hb (by simp) (by decide) fun d b hd hb => ?_
    obtain ⟨t, rfl, ht⟩ : ∃ t : Str, d = .str t ∧ CR t ∈ tails := by
      simp only [List.mem_cons, List.not_mem_nil, or_false] at hd; rcases hd with rfl | rfl | rfl | rfl | rfl <;> exact ⟨_, rfl, by decide +kernel⟩
    have lt : t.length ≤ 5 := by
      rw [← len_str]
      revert ht; generalize CR t = l; revert l; decide
    repeat' (first | infer_instance | fail)
    refine pull_ok hP _ hb (by omega) (by omega) fun at_ b h5 h6 hb => ?_
    repeat' (first | infer_instance | fail)
    refine one_of_ok hP hO _ hb (by simp) (by decide) fun d b hd hb => ?_
    obtain ⟨s, rfl, s0, s1⟩ : ∃ s : Int, d = .int s ∧ 0 ≤ s ∧ s ≤ 11 := by
      simp at hd; rcases hd with rfl | rfl | rfl | rfl | rfl | rfl <;> exact ⟨_, rfl, by omega, by omega⟩
    repeat' (first | infer_instance | fail)
    have c1 := cutS_length t none (some at_)
    have c2 := cutS_length t (some at_) none
    have hL : ∀ i : Nat, (⟨#[i]⟩ : Str).length = 1 := fun _ => rfl
    refine WLc.mapP (fun e => ∃ x, e = .str x ∧ told x = true) (by simp; omega) (fun d hd => ?_) (fun es l1 l2 => ?_)
    · obtain ⟨j, hj, rfl⟩ := List.mem_map.mp hd
      have hj : j < m.toNat := by simpa using hj
      repeat' (first | infer_instance | fail)
      refine Sc.mk (by rw [hL]; omega) ?_
      repeat' (first | infer_instance | fail)
      refine Sc.mk (by rw [len_app, hL]; omega) ?_
      refine ⟨⟨_, rfl, _, rfl, ?_⟩, rfl⟩
      obtain ⟨a, rfl⟩ := Int.eq_ofNat_of_zero_le h5
      rw [told_C, CR_app, CR_app, cutS_to, cutS_from]
      exact way3 _ ht a (List.mem_range.mpr (by omega)) _ (List.mem_range.mpr (by omega))
    · dsimp only [l_map0, l_map1, l_set0, l_set1, l_app0, l_app1, l_rep0, l_rep1, finOf, back, E.bors, E.bor1, Int.reduceToNat, Nat.reduceSub, Nat.reduceAdd, l_len0, l_len1, l_get0, l_get1, asI, asB, asD, T.toD, Ts.toD, wipe1, unwipe, slot, tI, MP.tB, tS, Tg.slots]
      exact fin (by rw [l1]; simp; omega) l2 hb
end PL
/-! PD: == of nested values without bools. -/
namespace PL
open PySem PySem.Spec PyProof.Rows L2 MP
def okS (x : Str) : Prop := PyData.strOk x = true
/-- no bools, texts of code points -/
inductive Pd : Nat → D → Prop
  | non {n} : Pd n .non
  | int {n} (i : Int) : Pd n (.int i)
  | str {n} (x : Str) : okS x → Pd n (.str x)
  | lst {n} (ds : List D) : (∀ d ∈ ds, Pd n d) → Pd (n + 1) (.lst ds)
  | tup {n} (ds : List D) : (∀ d ∈ ds, Pd n d) → Pd (n + 1) (.tup ds)
theorem Ds.py_of {n : Nat} {ds : List D} (h : ∀ d ∈ ds, ∃ p, d.py = some p ∧ p.canLay0 = true ∧ p.depth ≤ n) : ∃ ps, Ds.py ds = some ps ∧ PyData.canLayAll0 ps = true ∧ PyData.depthAll ps ≤ n := by
  induction ds with
  | nil => exact ⟨[], rfl, rfl, Nat.zero_le _⟩
  | cons d ds ih =>
    obtain ⟨p, h1, h2, h3⟩ := h d List.mem_cons_self
    obtain ⟨ps, h4, h5, h6⟩ := ih fun d hd => h d (List.mem_cons_of_mem _ hd)
    exact ⟨p :: ps, by simp only [Ds.py, h1, h4], by simp only [PyData.canLayAll0, h2, h5, Bool.and_self], by simp only [PyData.depthAll]; omega⟩
theorem Pd.py {n : Nat} {d : D} (h : Pd n d) : ∃ p, d.py = some p ∧ p.canLay0 = true ∧ p.depth ≤ n := by
  induction h with
  | non => exact ⟨.none, rfl, rfl, Nat.zero_le _⟩
  | int i => exact ⟨.int i, rfl, rfl, Nat.zero_le _⟩
  | str x hx => exact ⟨.str x, rfl, hx, Nat.zero_le _⟩
  | lst ds _ ih =>
    obtain ⟨ps, h1, h2, h3⟩ := Ds.py_of ih
    exact ⟨.list ps, by simp only [D.py, h1]; rfl, by simp only [PyData.canLay0]; exact h2, by simp only [PyData.depth]; omega⟩
  | tup ds _ ih =>
    obtain ⟨ps, h1, h2, h3⟩ := Ds.py_of ih
    exact ⟨.tuple ps, by simp only [D.py, h1]; rfl, by simp only [PyData.canLay0]; exact h2, by simp only [PyData.depth]; omega⟩
theorem Ds.eqv {n : Nat} : ∀ {xs ys : List D} {ps qs : List PyData}, (∀ d ∈ xs, ∀ e p q, Pd n e → d.py = some p → e.py = some q → (PyData.eqv p q = true ↔ d = e)) → (∀ e ∈ ys, Pd n e) → Ds.py xs = some ps → Ds.py ys = some qs → (PyData.eqvAll ps qs = true ↔ xs = ys)
  | [], [], _, _, _, _, h1, h2 => by
    simp only [Ds.py, Option.some.injEq] at h1 h2; subst h1 h2; simp [PyData.eqvAll]
  | [], y :: ys, _, _, _, _, h1, h2 => by
    simp only [Ds.py, Option.some.injEq] at h1; subst h1
    simp only [Ds.py] at h2
    split at h2
    · injection h2 with h2; subst h2; simp [PyData.eqvAll]
    · cases h2
  | x :: xs, [], _, _, _, _, h1, h2 => by
    simp only [Ds.py, Option.some.injEq] at h2; subst h2
    simp only [Ds.py] at h1
    split at h1
    · injection h1 with h1; subst h1; simp [PyData.eqvAll]
    · cases h1
  | x :: xs, y :: ys, _, _, h, hy, h1, h2 => by
    simp only [Ds.py] at h1 h2
    split at h1
    · rename_i a1 b1 e1 e2
      injection h1 with h1; subst h1
      split at h2
      · rename_i a2 b2 e3 e4
        injection h2 with h2; subst h2
        simp only [PyData.eqvAll, Bool.and_eq_true, List.cons.injEq]
        rw [h x List.mem_cons_self y a1 a2 (hy y List.mem_cons_self) e1 e3, Ds.eqv (fun d hd => h d (List.mem_cons_of_mem _ hd)) (fun d hd => hy d (List.mem_cons_of_mem _ hd)) e2 e4]
      · cases h2
    · cases h1
theorem Pd.eqv {n : Nat} {d : D} (h : Pd n d) : ∀ e p q, Pd n e → d.py = some p → e.py = some q → (PyData.eqv p q = true ↔ d = e) := by
  induction h with
  | non =>
    intro e p q he hp hq
    simp only [D.py, Option.some.injEq] at hp; subst hp
    cases he <;> simp only [D.py, Option.some.injEq, Option.map_eq_some_iff] at hq
    all_goals first | (subst hq; simp [PyData.eqv]; done) | (obtain ⟨_, _, rfl⟩ := hq; simp [PyData.eqv])
  | int i =>
    intro e p q he hp hq
    simp only [D.py, Option.some.injEq] at hp; subst hp
    cases he <;> simp only [D.py, Option.some.injEq, Option.map_eq_some_iff] at hq
    all_goals first | (subst hq; simp [PyData.eqv]; done) | (obtain ⟨_, _, rfl⟩ := hq; simp [PyData.eqv])
  | str x hx =>
    intro e p q he hp hq
    simp only [D.py, Option.some.injEq] at hp; subst hp
    cases he <;> simp only [D.py, Option.some.injEq, Option.map_eq_some_iff] at hq
    all_goals first | (subst hq; simp [PyData.eqv]; done) | (obtain ⟨_, _, rfl⟩ := hq; simp [PyData.eqv])
  | lst ds h ih =>
    intro e p q he hp hq
    simp only [D.py, Option.map_eq_some_iff] at hp
    obtain ⟨ps, h1, rfl⟩ := hp
    cases he <;> simp only [D.py, Option.some.injEq, Option.map_eq_some_iff] at hq
    case lst es hes =>
      obtain ⟨qs, h2, rfl⟩ := hq
      simp only [PyData.eqv, D.lst.injEq]
      exact Ds.eqv ih hes h1 h2
    all_goals first | (subst hq; simp [PyData.eqv]; done) | (obtain ⟨_, _, rfl⟩ := hq; simp [PyData.eqv])
  | tup ds h ih =>
    intro e p q he hp hq
    simp only [D.py, Option.map_eq_some_iff] at hp
    obtain ⟨ps, h1, rfl⟩ := hp
    cases he <;> simp only [D.py, Option.some.injEq, Option.map_eq_some_iff] at hq
    case tup es hes =>
      obtain ⟨qs, h2, rfl⟩ := hq
      simp only [PyData.eqv, D.tup.injEq]
      exact Ds.eqv ih hes h1 h2
    all_goals first | (subst hq; simp [PyData.eqv]; done) | (obtain ⟨_, _, rfl⟩ := hq; simp [PyData.eqv])
theorem deep_ok {n : Nat} {s t : T} (hs : Pd n s.toD) (ht : Pd n t.toD) (hn : n ≤ 64) : deepEq s t = some (eqD s.toD t.toD) := by
  obtain ⟨p, h1, h2, h3⟩ := hs.py
  obtain ⟨q, h4, h5, h6⟩ := ht.py
  unfold deepEq
  rw [h1, h4]
  dsimp only
  rw [if_pos (by unfold SeqAt.shaped; rw [h2, h5]; simp; omega)]
  congr 1
  rw [Bool.eq_iff_iff, eqD_iff]
  exact hs.eqv _ _ _ ht h1 h4
theorem flatEq_eqD {n : Nat} {a b : D} {k : Bool} (ha : Pd n a) (hb : Pd n b) (h : flatEq a b = some k) : k = eqD a b := by
  rw [Bool.eq_iff_iff, eqD_iff]
  cases ha <;> cases hb <;> simp [flatEq] at h <;> subst h <;> simp
theorem eqFl_eqD {n : Nat} {s t : T} {k : Bool} (ha : Pd n s.toD) (hb : Pd n t.toD) (h : eqFl s t = some k) : k = eqD s.toD t.toD := by
  obtain ⟨a, b, rfl, rfl, h⟩ := eqFl_eq h
  exact flatEq_eqD ha hb h
theorem ev_eq {n : Nat} {s t : T} (hs : Pd n s.toD) (ht : Pd n t.toD) (hn : n ≤ 64) : ev2 .eq s t = some (.sh (.bl (eqD s.toD t.toD))) := by
  simp only [ev2]
  cases h : eqFl s t with
  | some k => rw [eqFl_eqD hs ht h]; rfl
  | none => rw [deep_ok hs ht hn]; rfl
theorem ev_ne {n : Nat} {s t : T} (hs : Pd n s.toD) (ht : Pd n t.toD) (hn : n ≤ 64) : ev2 .ne s t = some (.sh (.bl (!eqD s.toD t.toD))) := by
  simp only [ev2]
  cases h : eqFl s t with
  | some k => rw [eqFl_eqD hs ht h]; rfl
  | none => rw [deep_ok hs ht hn]; rfl
theorem Pd.strs {l : List Str} (h : ∀ x ∈ l, okS x) : Pd 1 (.lst (l.map .str)) := .lst _ fun d hd => by
  obtain ⟨x, hx, rfl⟩ := List.mem_map.mp hd
  exact .str x (h x hx)
theorem told_okS {x : Str} (h : told x = true) : okS x := by
  rw [told_C] at h
  unfold toldC at h
  simp only [Bool.and_eq_true] at h
  have h2 := h.1.2
  show x.cps.all _ = true
  rw [Array.all_eq_true_iff_forall_mem]
  intro k hk
  have := List.all_eq_true.mp h2 k (by simpa [CR] using hk)
  simp only [Bool.and_eq_true, decide_eq_true_eq] at this
  simp; omega
theorem told_len {x : Str} (h : told x = true) : x.length ≤ 6 := by
  rw [told_C] at h
  unfold toldC at h
  simp only [Bool.and_eq_true, decide_eq_true_eq] at h
  have := h.1.1.2
  rwa [len_str] at this
theorem str_len : ∀ k : Fin 101, (Str.ofString (toString ((k.val : Nat) : Int))).length ≤ 3 := by decide +kernel
theorem str_len' {i : Int} (h0 : 0 ≤ i) (h1 : i < 101) : (Str.ofString (toString i)).length ≤ 3 := by
  obtain ⟨k, rfl⟩ := Int.eq_ofNat_of_zero_le h0
  exact str_len ⟨k, by omega⟩
instance i_addL {a b : List D} {K : T → Prop} : Step (Sm (ev2 .add (.sh (.lst a)) (.sh (.lst b))) K) (Sc (a.length + b.length ≤ sizeLine) (K (.lst ((a ++ b).map .sh)))) :=
  ⟨fun k => .of (by
    show (match allD (a.map T.sh), allD (b.map T.sh) with | some ds, some es => if ds.length + es.length ≤ sizeLine then some (T.lst ((ds ++ es).map .sh)) else none | _, _ => none) = _
    rw [allD_shs, allD_shs]
    simp only [if_pos k.1]) k.2⟩
instance i_revL {a : List D} {K : T → Prop} : Step (Sm (ev1 .revL (.sh (.lst a))) K) (K (.lst (a.reverse.map .sh))) :=
  ⟨fun k => .of (by show (allD (a.map T.sh)).map _ = _; rw [allD_shs]; rfl) k⟩
instance i_slL {a : List D} {i j : Option Int} {K : T → Prop} : Step (Sm (sliceOf (.sh (.lst a)) i j) K) (K (.lst ((cutT a i j).map .sh))) :=
  ⟨fun k => .of (by
    show (match allD (a.map T.sh) with | some ds => some (T.lst ((cutT ds i j).map .sh)) | none => none) = _
    rw [allD_shs]) k⟩
instance i_ninS0 {x : Str} {l : List Str} {K : T → Prop} : Step (Sm (ev2 .nin (.sh (.str x)) (.sh (.lst (l.map .str)))) K) (K (.sh (.bl (!decide (x ∈ l))))) :=
  ⟨fun k => .of (by show (inT _ _).map _ = _; rw [inT_L rfl, show l.map D.str = l.map (fun a => .str ((fun b => b) a)) from rfl, inL_str]; simp; rfl) k⟩
instance i_inS0 {x : Str} {l : List Str} {K : T → Prop} : Step (Sm (ev2 .inn (.sh (.str x)) (.sh (.lst (l.map .str)))) K) (K (.sh (.bl (decide (x ∈ l))))) :=
  ⟨fun k => .of (by show (inT _ _).map _ = _; rw [inT_L rfl, show l.map D.str = l.map (fun a => .str ((fun b => b) a)) from rfl, inL_str]; simp; rfl) k⟩
theorem idx_at {ds : List D} {i : Nat} {d : D} {K : T → Prop} (h : ds[i]? = some d) (k : K (.sh d)) : Sm (ev2 .idx (.sh (.lst ds)) (.sh (.int (i : Int)))) K := by
  refine .of (t := .sh d) ?_ k
  have h3 : i < ds.length := (List.getElem?_eq_some_iff.mp h).1
  show atI (ds.map T.sh) i = _
  unfold atI ixN
  rw [if_pos (by omega), if_pos (by simpa using h3)]
  simp [h]
theorem idx_0 {ds : List D} {d : D} {K : T → Prop} (h : ds[0]? = some d) (k : K (.sh d)) : Sm (ev2 .idx (.sh (.lst ds)) (.sh (.int 0))) K := idx_at (i := 0) h k
end PL
/-! PK: dicts, their keys unlike, of frozen values. -/
namespace PL
open PySem PySem.Spec PyProof.Rows L2 MP
def kT (l : List (Key × D)) : List (Key × T) := l.map fun p => (p.1, .sh p.2)
theorem kT_free : ∀ l : List (Key × D), Tk.free (kT l) = true := fun l => by unfold kT; induction l <;> simp_all [Tk.free, T.free]
theorem kT_toD : ∀ l : List (Key × D), Tk.toD (kT l) = l := fun l => by unfold kT; induction l <;> simp_all [Tk.toD, T.toD]
theorem kT_len {l : List (Key × D)} : (kT l).length = l.length := List.length_map _
theorem kT_keys {l : List (Key × D)} : (kT l).map (·.1) = l.map (·.1) := by unfold kT; rw [List.map_map]; rfl
theorem frz_kT {l : List (Key × D)} : frz (.dK (kT l)) = some (.dK l) := by simp only [frz, T.free, kT_free, if_true, T.toD, kT_toD]
instance i_frz_kT {l : List (Key × D)} {K : D → Prop} : Step (Sm (frz (.dK (kT l))) K) (K (.dK l)) := ⟨fun k => .of frz_kT k⟩
theorem allK_kT : ∀ l : List (Key × D), allK (kT l) = some l := fun l => by
  unfold kT
  induction l with
  | nil => rfl
  | cons p r ih =>
    obtain ⟨a, b⟩ := p
    simp only [List.map_cons, allK, asD, ih]
theorem asK_s {l : List (Key × D)} : asK (.sh (.dK l)) = some (kT l) := rfl
theorem dictD_K {l : List (Key × D)} {t : T} (h : asK t = some (kT l)) : ev1 .dictD t = some (.dK (kT l)) := by
  simp only [ev1, h, allK_kT, Option.map_some]
  rfl
instance i_dictDo {l : List (Key × D)} {K : T → Prop} : Step (Sm (ev1 .dictD (.dK (kT l))) K) (K (.dK (kT l))) := ⟨fun k => .of (dictD_K rfl) k⟩
instance i_dictDs {l : List (Key × D)} {K : T → Prop} : Step (Sm (ev1 .dictD (.sh (.dK l))) K) (K (.dK (kT l))) := ⟨fun k => .of (dictD_K rfl) k⟩
instance i_lenK {l : List (Key × D)} {K : T → Prop} : Step (Sm (ev1 .len (.sh (.dK l))) K) (K (.sh (.int l.length))) := ⟨fun k => .of (by show some (tI ((kT l).length : Int)) = _; rw [kT_len]; rfl) k⟩
instance i_isNK {l : List (Key × T)} {K : T → Prop} : Step (Sm (ev1 .isN (.dK l)) K) (K (.sh (.bl false))) := ⟨fun k => .of rfl k⟩
instance i_itemsKD {l : List (Key × D)} {K : List D → Prop} : Step (Sm (items (.dK l)) K) (K (l.map fun p => keyD p.1)) := ⟨fun k => .of rfl k⟩
/-! ### looked at -/
def DOk (l : List (Key × D)) : Prop := (l.map (·.1)).Nodup
def at_ (l : List (Key × D)) (k : Key) : D := match l.find? fun p => decide (p.1 = k) with
  | some p => p.2
  | none => .non
theorem find_mem : ∀ {l : List (Key × D)} {p : Key × D}, DOk l → p ∈ l → l.find? (fun q => decide (q.1 = p.1)) = some p
  | [], _, _, h => by cases h
  | q :: r, p, hn, h => by
    unfold DOk at hn
    rw [List.map_cons, List.nodup_cons] at hn
    rw [List.find?_cons]
    rcases List.mem_cons.mp h with rfl | h
    · simp
    · have ne : q.1 ≠ p.1 := fun e => hn.1 (List.mem_map.mpr ⟨p, h, e.symm⟩)
      simp only [decide_eq_false ne]
      exact find_mem hn.2 h
theorem at_mem {l : List (Key × D)} {p : Key × D} (hn : DOk l) (h : p ∈ l) : at_ l p.1 = p.2 := by
  unfold at_
  rw [find_mem hn h]
theorem kT_find {l : List (Key × D)} {k : Key} : (kT l).find? (fun p => decide (p.1 = k)) = (l.find? fun p => decide (p.1 = k)).map fun p => (p.1, .sh p.2) := by
  unfold kT
  induction l with
  | nil => rfl
  | cons p r ih =>
    rw [List.map_cons, List.find?_cons, List.find?_cons, ih]
    by_cases h : p.1 = k
    · simp [h]
    · simp [h]
theorem idx_K {l : List (Key × D)} {q : T} {p : Key × D} {K : T → Prop} (hn : DOk l) (h : p ∈ l) (hq : keyOf q = some p.1) (k : K (.sh p.2)) : Sm (ev2 .idx (.sh (.dK l)) q) K := by
  refine .of (t := .sh p.2) ?_ k
  simp only [ev2, asK_s, hq]
  rw [kT_find, find_mem hn h]
  rfl
theorem inn_K {l : List (Key × D)} {q : T} {p : Key × D} {K : T → Prop} (h : p ∈ l) (hq : keyOf q = some p.1) (k : K (.sh (.bl false))) : Sm (ev2 .nin q (.sh (.dK l))) K := by
  refine .of (t := .sh (.bl false)) ?_ k
  have e : inT q (.sh (.dK l)) = some true := by
    simp only [inT, asK_s, hq, asL, asU, show asS (.sh (.dK l)) = none from rfl]
    have e : ((kT l).any fun p_1 => decide (p_1.1 = p.1)) = true := by
      rw [List.any_eq_true]
      exact ⟨(p.1, .sh p.2), List.mem_map.mpr ⟨p, h, rfl⟩, by simp⟩
    rw [e]
    cases asS q <;> rfl
  show (inT q (.sh (.dK l))).map _ = _
  rw [e]
  rfl
/-! ### changed -/
def putD (l : List (Key × D)) (k : Key) (d : D) : List (Key × D) := if (l.any fun p => decide (p.1 = k)) = true then l.map (fun p => if p.1 = k then (p.1, d) else p) else l ++ [(k, d)]
theorem putD_T {l : List (Key × D)} {k : Key} {d : D} : putKT (kT l) k (.sh d) = kT (putD l k d) := by
  have e : ((kT l).any fun p => decide (p.1 = k)) = l.any fun p => decide (p.1 = k) := by
    unfold kT
    rw [List.any_map]
    rfl
  unfold putKT putD
  rw [e]
  split
  · unfold kT
    rw [List.map_map, List.map_map]
    refine List.map_congr_left fun p _ => ?_
    simp only [Function.comp_def]
    split <;> rfl
  · unfold kT
    rw [List.map_append]
    rfl
theorem putD_ok {l : List (Key × D)} {k : Key} {d : D} (h : DOk l) : DOk (putD l k d) := by
  unfold putD
  split
  · have : (l.map (fun p => if p.1 = k then (p.1, d) else p)).map (·.1) = l.map (·.1) := by
      rw [List.map_map]
      refine List.map_congr_left fun p _ => ?_
      simp only [Function.comp_def]
      split <;> rfl
    unfold DOk
    rw [this]
    exact h
  · rename_i e
    unfold DOk
    rw [List.map_append, List.nodup_append]
    refine ⟨h, by simp, fun a ha b hb q => e ?_⟩
    obtain ⟨p, hp, rfl⟩ := List.mem_map.mp ha
    simp at hb
    subst hb
    rw [List.any_eq_true]
    exact ⟨p, hp, by simpa using q⟩
theorem putD_len {l : List (Key × D)} {k : Key} {d : D} : (putD l k d).length ≤ l.length + 1 := by
  unfold putD
  split <;> simp
theorem putD_mem {l : List (Key × D)} {k : Key} {d : D} {p : Key × D} (h : p ∈ putD l k d) : p = (k, d) ∨ p ∈ l := by
  unfold putD at h
  split at h
  · obtain ⟨q, hq, e⟩ := List.mem_map.mp h
    split at e
    · rename_i e2
      left
      rw [← e, e2]
    · right
      rw [← e]
      exact hq
  · rcases List.mem_append.mp h with h | h
    · exact .inr h
    · left
      simpa using h
theorem putD_new {l : List (Key × D)} {k : Key} {d : D} (h : ∀ p ∈ l, p.1 ≠ k) : putD l k d = l ++ [(k, d)] := by
  unfold putD
  rw [if_neg]
  intro e
  rw [List.any_eq_true] at e
  obtain ⟨p, hp, q⟩ := e
  exact h p hp (of_decide_eq_true q)
theorem set_at {l : List (Key × D)} {k : Key} {d : D} {q : T} {K : T → Prop} (h : DOk l) (hl : l.length < sizeLine) (hq : keyOf q = some k) (kk : K (.dK (kT (putD l k d)))) : Sm (setIt (.dK (kT l)) q (.sh d)) K := by
  refine .of (t := .dK (kT (putD l k d))) ?_ kk
  simp only [setIt, hq]
  rw [if_pos ⟨by rw [kT_len]; exact hl, by rw [kT_keys]; exact h⟩, putD_T]
/-! ### alike -/
def flatD : D → Bool
  | .int _ => true
  | .str _ => true
  | _ => false
theorem sameF_self {d : D} (h : flatD d = true) : sameF (.sh d) (.sh d) = true := by
  cases d <;> simp only [flatD, Bool.false_eq_true] at h <;> simp [sameF]
theorem perm_mem {l m : List (Key × D)} (h : l.Perm m) {p : Key × D} (hp : p ∈ l) : p ∈ m := h.mem_iff.mp hp
/-- two dicts with the same items -/
theorem dictEq_perm {l m : List (Key × D)} {s t : T} (hs : asK s = some (kT l)) (ht : asK t = some (kT m)) (hm : DOk m) (hp : l.Perm m) (hf : ∀ p ∈ l, flatD p.2 = true) : dictEq s t = some true := by
  unfold dictEq
  rw [hs, ht]
  dsimp only
  refine if_pos ⟨by rw [kT_len, kT_len]; exact hp.length_eq, ?_⟩
  rw [List.all_eq_true]
  intro p hp2
  obtain ⟨q, hq, rfl⟩ := List.mem_map.mp hp2
  unfold sameIn
  rw [kT_find, find_mem hm (perm_mem hp hq)]
  exact sameF_self (hf q hq)
theorem itemEq_K {a b : T} (h : dictEq a b = some true) : itemEq a b = true := by
  unfold itemEq
  rw [h]
  simp
/-- two dicts in a list, in a tuple: they are alike -/
theorem ne_lst2 {l1 l2 m1 m2 : List (Key × D)} {K : T → Prop} (h1 : DOk m1) (p1 : l1.Perm m1) (f1 : ∀ p ∈ l1, flatD p.2 = true) (h2 : DOk m2) (p2 : l2.Perm m2) (f2 : ∀ p ∈ l2, flatD p.2 = true) (k : K (.sh (.bl false))) :
    Sm (ev2 .ne (.lst [.dK (kT l1), .dK (kT l2)]) (.sh (.lst [.dK m1, .dK m2]))) K := by
  refine .of (t := .sh (.bl false)) ?_ k
  have e1 : itemEq (.dK (kT l1)) (.sh (.dK m1)) = true := itemEq_K (dictEq_perm rfl rfl h1 p1 f1)
  have e2 : itemEq (.dK (kT l2)) (.sh (.dK m2)) = true := itemEq_K (dictEq_perm rfl rfl h2 p2 f2)
  have e : seqEq (.lst [.dK (kT l1), .dK (kT l2)]) (.sh (.lst [.dK m1, .dK m2])) = true := by
    show (itemEq (.dK (kT l1)) (.sh (.dK m1)) && (itemEq (.dK (kT l2)) (.sh (.dK m2)) && true)) = true
    rw [e1, e2]
    rfl
  show (if seqEq (.lst [.dK (kT l1), .dK (kT l2)]) (.sh (.lst [.dK m1, .dK m2])) = true then _ else _) = _
  rw [if_pos e]
  rfl
theorem ne_tup2 {l1 l2 m1 m2 : List (Key × D)} {K : T → Prop} (h1 : DOk m1) (p1 : l1.Perm m1) (f1 : ∀ p ∈ l1, flatD p.2 = true) (h2 : DOk m2) (p2 : l2.Perm m2) (f2 : ∀ p ∈ l2, flatD p.2 = true) (k : K (.sh (.bl false))) :
    Sm (ev2 .ne (.sh (.tup [.dK l1, .dK l2])) (.sh (.tup [.dK m1, .dK m2]))) K := by
  refine .of (t := .sh (.bl false)) ?_ k
  have e1 : itemEq (.sh (.dK l1)) (.sh (.dK m1)) = true := itemEq_K (dictEq_perm rfl rfl h1 p1 f1)
  have e2 : itemEq (.sh (.dK l2)) (.sh (.dK m2)) = true := itemEq_K (dictEq_perm rfl rfl h2 p2 f2)
  have e : seqEq (.sh (.tup [.dK l1, .dK l2])) (.sh (.tup [.dK m1, .dK m2])) = true := by
    show (itemEq (.sh (.dK l1)) (.sh (.dK m1)) && (itemEq (.sh (.dK l2)) (.sh (.dK m2)) && true)) = true
    rw [e1, e2]
    rfl
  show (if seqEq (.sh (.tup [.dK l1, .dK l2])) (.sh (.tup [.dK m1, .dK m2])) = true then _ else _) = _
  rw [if_pos e]
  rfl
/-- a dict against {} -/
theorem ne_nil {l : List (Key × D)} {K : T → Prop} (k : ∀ b, (b = true ↔ l ≠ []) → K (.sh (.bl b))) : Sm (ev2 .ne (.dK (kT l)) (.sh (.dK []))) K := by
  cases l with
  | nil => exact .of rfl (k false (by simp))
  | cons p r =>
    refine .of (t := .sh (.bl true)) ?_ (k true (by simp))
    have e : dictEq (.dK (kT (p :: r))) (.sh (.dK [])) = none := by
      unfold dictEq
      show (if (kT (p :: r)).length = 0 ∧ _ then some true else none) = none
      rw [if_neg]
      rw [kT_len]
      simp
    have e2 : dictNe (.dK (kT (p :: r))) (.sh (.dK [])) = true := by
      unfold dictNe
      show (decide ((kT (p :: r)).length ≠ 0) || _) = true
      rw [kT_len]
      simp
    have e3 : deepEq (.dK (kT (p :: r))) (.sh (.dK [])) = none := e
    simp only [ev2, eqFl, asD, e3]
    have e4 : seqEq (.dK (kT (p :: r))) (.sh (.dK [])) = false := rfl
    rw [e4, e2]
    rfl
/-! ### sorted -/
def kS : Key → Str
  | .inr x => x
  | .inl _ => ⟨#[]⟩
def kI : Key → Int
  | .inl i => i
  | .inr _ => 0
def SK (l : List (Key × D)) : Prop := ∀ p ∈ l, ∃ x, p.1 = .inr x
def IK (l : List (Key × D)) : Prop := ∀ p ∈ l, ∃ i, p.1 = .inl i
theorem keysS_kT : ∀ {l : List (Key × D)}, SK l → keysS (kT l) = some (l.map fun p => kS p.1)
  | [], _ => rfl
  | p :: r, h => by
    obtain ⟨x, hx⟩ := h p List.mem_cons_self
    obtain ⟨k, d⟩ := p
    dsimp only at hx
    subst hx
    show (keysS (kT r)).map (x :: ·) = _
    rw [keysS_kT fun q hq => h q (List.mem_cons_of_mem _ hq)]
    rfl
theorem keysI_kT : ∀ {l : List (Key × D)}, IK l → keysI (kT l) = some (l.map fun p => kI p.1)
  | [], _ => rfl
  | p :: r, h => by
    obtain ⟨x, hx⟩ := h p List.mem_cons_self
    obtain ⟨k, d⟩ := p
    dsimp only at hx
    subst hx
    show (keysI (kT r)).map (x :: ·) = _
    rw [keysI_kT fun q hq => h q (List.mem_cons_of_mem _ hq)]
    rfl
theorem sort_S {l : List (Key × D)} {t : T} {K : T → Prop} (h0 : asL t = none) (h1 : asK t = some (kT l)) (h : SK l) (hl : l.length < 64) (k : K (.lst (((sortS (l.map fun p => kS p.1)).map D.str).map .sh))) : Sm (ev1 .sortL t) K := by
  refine .of (t := .lst (((sortS (l.map fun p => kS p.1)).map D.str).map .sh)) ?_ k
  simp only [ev1, h0, h1]
  unfold sortKs
  rw [keysS_kT h]
  dsimp only
  rw [if_pos (by simpa using hl), List.map_map]
  rfl
theorem sort_I {l : List (Key × D)} {t : T} {K : T → Prop} (h0 : asL t = none) (h1 : asK t = some (kT l)) (h : IK l) (hl : l.length ≤ sizeLine) (k : K (.lst (((sortI (l.map fun p => kI p.1)).map D.int).map .sh))) : Sm (ev1 .sortL t) K := by
  refine .of (t := .lst (((sortI (l.map fun p => kI p.1)).map D.int).map .sh)) ?_ k
  simp only [ev1, h0, h1]
  unfold sortKs
  cases l with
  | nil => simp [kT, keysS, sortS, sortI]
  | cons p r =>
    have e : keysS (kT (p :: r)) = none := by
      obtain ⟨x, hx⟩ := h p List.mem_cons_self
      obtain ⟨k, d⟩ := p
      dsimp only at hx
      subst hx
      rfl
    rw [e, keysI_kT h]
    dsimp only
    rw [if_pos (by simpa using hl), List.map_map]
    rfl
/-! ### pairs of numbers -/
def cK (es : List (Int × Int)) : List (Key × D) := es.map fun p => (.inl p.1, .int p.2)
theorem intsK_cK : ∀ {es : List (Int × Int)}, intsK (cK es) = some es
  | [] => rfl
  | p :: r => by
    show (intsK (cK r)).map ((p.1, p.2) :: ·) = _
    rw [intsK_cK]
    rfl
theorem cK_of : ∀ {l : List (Key × D)}, (∀ p ∈ l, ∃ a i, p = (.inl a, .int i)) → ∃ es, l = cK es
  | [], _ => ⟨[], rfl⟩
  | p :: r, h => by
    obtain ⟨a, i, rfl⟩ := h p List.mem_cons_self
    obtain ⟨es, rfl⟩ := cK_of fun q hq => h q (List.mem_cons_of_mem _ hq)
    exact ⟨(a, i) :: es, rfl⟩
theorem leE_iff {a b : Int × Int} : leE a b = true ↔ a.1 < b.1 ∨ (a.1 = b.1 ∧ a.2 ≤ b.2) := by
  unfold leE
  split
  · simp only [Bool.not_eq_true', decide_eq_false_iff_not]
    omega
  · simp only [Bool.not_eq_true', decide_eq_false_iff_not]
    omega
theorem sortE_perm {es : List (Int × Int)} : (sortE es).Perm es := List.mergeSort_perm _ _
theorem sortE_fst {es : List (Int × Int)} : (sortE es).map (·.1) = sortI (es.map (·.1)) := by
  refine sortI_uniq (sortE_perm.map _) ?_
  have p : (sortE es).Pairwise (fun a b => leE a b = true) := List.pairwise_mergeSort (le := leE) (fun a b c h1 h2 => by rw [leE_iff] at *; omega) (fun a b => by rw [Bool.or_eq_true, leE_iff, leE_iff]; omega) es
  exact List.pairwise_map.mpr (p.imp fun h => by rw [leE_iff] at h; omega)
theorem cK_keys {es : List (Int × Int)} : (cK es).map (fun p => kI p.1) = es.map (·.1) := by unfold cK; rw [List.map_map]; rfl
theorem cK_perm {a b : List (Int × Int)} (h : a.Perm b) : (cK a).Perm (cK b) := h.map _
theorem pairsD_cK : ∀ {es : List (Int × Int)}, pairsD (es.map fun p => .tup [.int p.1, .int p.2]) = some (cK es)
  | [] => rfl
  | p :: r => by
    show (match keyOf (.sh (.int p.1)), pairsD (r.map fun p => .tup [.int p.1, .int p.2]) with | some k, some ks => some ((k, D.int p.2) :: ks) | _, _ => none) = _
    rw [pairsD_cK]
    rfl
theorem dictP_K {ds : List D} {l : List (Key × D)} {K : T → Prop} (h : pairsD ds = some l) (hn : DOk l) (k : K (.dK (kT l))) : Sm (ev1 .dictP (.sh (.lst ds))) K := by
  refine .of (t := .dK (kT l)) ?_ k
  simp only [ev1, asL, allD_shs, h]
  rw [if_pos (show (l.map (·.1)).Nodup from hn)]
  rfl
theorem frz_pairs {es : List (Int × Int)} : frz (.lst (es.map pairT)) = some (.lst (es.map fun p => .tup [.int p.1, .int p.2])) := by
  have h1 : ∀ l : List (Int × Int), Ts.free (l.map pairT) = true := fun l => by induction l <;> simp_all [Ts.free, T.free, pairT]
  have h2 : ∀ l : List (Int × Int), Ts.toD (l.map pairT) = l.map fun p => .tup [.int p.1, .int p.2] := fun l => by induction l <;> simp_all [Ts.toD, T.toD, pairT]
  simp only [frz, T.free, h1, if_true, T.toD, h2]
instance i_frz_pairs {es : List (Int × Int)} {K : D → Prop} : Step (Sm (frz (.lst (es.map pairT))) K) (K (.lst (es.map fun p => .tup [.int p.1, .int p.2]))) := ⟨fun k => .of frz_pairs k⟩
instance i_allK_kT {l : List (Key × D)} {K : List (Key × D) → Prop} : Step (Sm (allK (kT l)) K) (K l) := ⟨fun k => .of (allK_kT l) k⟩
instance i_intsK {es : List (Int × Int)} {K : List (Int × Int) → Prop} : Step (Sm (intsK (cK es)) K) (K es) := ⟨fun k => .of intsK_cK k⟩
instance i_asKs {l : List (Key × D)} {K : List (Key × T) → Prop} : Step (Sm (asK (.sh (.dK l))) K) (K (kT l)) := ⟨fun k => .of rfl k⟩
end PL
/-! PH: heaps: made, asked. -/
namespace PL
open PySem PySem.Spec PyProof.Rows L2 MP
local macro_rules | `(tactic| infer_instance) => `(tactic| (first
  | refine Step.h ?_
  | refine Sm.mk1 ?_
  | (refine Br.mk (fun h => ?_) (fun h => ?_) <;> first | contradiction | replace h := of_decide_eq_true h | replace h := of_decide_eq_false h | skip)
  | refine Sc.mk (by first | decide | rfl | omega | exact log_ok (by omega) (by omega) (by omega) (by omega) | exact log_s (by omega) (by omega) | exact And.intro (by omega) (by omega)) ?_
  | fail); try dsimp only [l_map0, l_map1, l_set0, l_set1, l_app0, l_app1, l_rep0, l_rep1, finOf, back, E.bors, E.bor1, Int.reduceToNat, Nat.reduceSub, Nat.reduceAdd, l_len0, l_len1, l_get0, l_get1, asI, asB, asD, T.toD, Ts.toD, wipe1, unwipe, slot, tI, MP.tB, tS, Tg.slots])
def f_is_place : Fn := ⟨1, 1, [true],
  (.seq (.ret (.chain .le .le (.lit (.int 0)) (.var 0) (.glo "FARTHEST" (.int 1000000000))))
  .skip)⟩
def f_good_names : Fn := ⟨1, 2, [true],
  (.seq (.ite (.p (.o2 .gt (.o1 .len (.var 0)) (.glo "MOST_NAMES" (.int 40))))
  (.seq (.ret (.p (.lit (.bl false))))
  .skip)
  .skip)
  (.seq (.ret (.o1 .allL (.lc (.var 1) (.iv (.p (.var 0))) .yes (.and (.call ("", "is_name") (.cons (.p (.var 1)) .nil) []) (.call ("", "is_place") (.cons (.p (.o2 .idx (.var 0) (.var 1))) .nil) [])))))
  .skip))⟩
def f_good_cells : Fn := ⟨1, 2, [true],
  (.seq (.ite (.p (.o2 .gt (.o1 .len (.var 0)) (.glo "MOST_CELLS" (.int 200))))
  (.seq (.ret (.p (.lit (.bl false))))
  .skip)
  .skip)
  (.seq (.ret (.o1 .allL (.lc (.var 1) (.iv (.p (.var 0))) .yes (.and (.p (.o2 .gt (.var 1) (.lit (.int 0)))) (.and (.call ("", "is_place") (.cons (.p (.var 1)) .nil) []) (.call ("", "is_place") (.cons (.p (.o2 .idx (.var 0) (.var 1))) .nil) []))))))
  .skip))⟩
def f_Heap___init__ : Fn := ⟨3, 3, [true, true, true],
  (.seq (.setF 0 "spots" ["Heap"] (.frE (.ife (.p (.o1 .isN (.var 1))) .dnew (.n1 .dictD (.var 1)))))
  (.seq (.setF 0 "links" ["Heap"] (.frE (.ife (.p (.o1 .isN (.var 2))) .dnew (.n1 .dictD (.var 2)))))
  (.seq (.ite (.or (.not (.call ("", "good_names") (.cons (.p (.fld (.var 0) "spots" ["Heap"])) .nil) [])) (.not (.call ("", "good_cells") (.cons (.p (.fld (.var 0) "links" ["Heap"])) .nil) [])))
  (.seq (.rse "BadHeap")
  .skip)
  .skip)
  .skip)))⟩
def f_Heap___len__ : Fn := ⟨1, 1, [true],
  (.seq (.ret (.p (.o1 .len (.fld (.var 0) "links" ["Heap"]))))
  .skip)⟩
def f_Heap_place : Fn := ⟨2, 2, [true, true],
  (.seq (.ite (.p (.o2 .eq (.var 1) (.glo "NIL" (.str "nil"))))
  (.seq (.ret (.p (.lit (.int 0))))
  .skip)
  .skip)
  (.seq (.ite (.p (.o2 .nin (.var 1) (.fld (.var 0) "spots" ["Heap"])))
  (.seq .stop
  .skip)
  .skip)
  (.seq (.ret (.p (.o2 .idx (.fld (.var 0) "spots" ["Heap"]) (.var 1))))
  .skip)))⟩
def f_Heap_names : Fn := ⟨1, 1, [true],
  (.seq (.ret (.n1 .sortL (.fld (.var 0) "spots" ["Heap"])))
  .skip)⟩
def f_Heap_cells : Fn := ⟨1, 1, [true],
  (.seq (.ret (.sortIt (.fld (.var 0) "links" ["Heap"])))
  .skip)⟩
variable {Q : Fk → Option Fn}
def isN (x : Str) : Bool := told x || made x
def isP (i : Int) : Bool := decide (0 ≤ i) && decide (i ≤ 1000000000)
structure HeapFns (Q : Fk → Option Fn) : Prop where
  told : Q ("", "is_told") = some f_is_told
  made : Q ("", "is_made") = some f_is_made
  name : Q ("", "is_name") = some f_is_name
  place0 : Q ("", "is_place") = some f_is_place
  gnames : Q ("", "good_names") = some f_good_names
  gcells : Q ("", "good_cells") = some f_good_cells
  init : Q ("Heap", "__init__") = some f_Heap___init__
  hlen : Q ("Heap", "__len__") = some f_Heap___len__
  hnames : Q ("Heap", "names") = some f_Heap_names
  hplace : Q ("Heap", "place") = some f_Heap_place
  hcells : Q ("Heap", "cells") = some f_Heap_cells
theorem okb {a b : Bool} {r : Env1} (h : a = b) : (Rs.ok (T.sh (.bl a)) r : Rs T) = Rs.ok (T.sh (.bl b)) r := by rw [h]
theorem place0_ok (H : HeapFns Q) (n : Nat) {i : Int} {K : Cr → Prop} (k : K (.ok (.sh (.bl (isP i))) [some (.sh (.int i))])) : WC (callN Q (n + 1)) ("", "is_place") [.sh (.int i)] K := by
  have k' : ∀ b, b = isP i → K (.ok (.sh (.bl b)) [some (.sh (.int i))]) := fun b e => e ▸ k
  refine wc_fn H.place0 ⟨rfl, rfl, by decide⟩ ?_
  dsimp only [l_map0, l_map1, l_set0, l_set1, l_app0, l_app1, l_rep0, l_rep1, finOf, back, E.bors, E.bor1, Int.reduceToNat, Nat.reduceSub, Nat.reduceAdd, l_len0, l_len1, l_get0, l_get1, asI, asB, asD, T.toD, Ts.toD, wipe1, unwipe, slot, tI, MP.tB, tS, Tg.slots]
  (repeat' (first | infer_instance | fail))
  · exact k' _ (by unfold isP; simp; omega)
  · exact k' _ (by unfold isP; simp; omega)
/-- names at places -/
structure Spots (l : List (Key × D)) : Prop where
  nd : DOk l
  sh : ∀ p ∈ l, ∃ x i, p = (.inr x, .int i) ∧ x.length ≤ 1000
  le : l.length ≤ 60
structure Links (l : List (Key × D)) : Prop where
  nd : DOk l
  sh : ∀ p ∈ l, ∃ a i, p = (.inl a, .int i)
  le : l.length ≤ 300
theorem Spots.sk {l : List (Key × D)} (h : Spots l) : SK l := fun p hp => by
  obtain ⟨x, i, rfl, _⟩ := h.sh p hp
  exact ⟨x, rfl⟩
theorem Links.ik {l : List (Key × D)} (h : Links l) : IK l := fun p hp => by
  obtain ⟨x, i, rfl⟩ := h.sh p hp
  exact ⟨x, rfl⟩
theorem Spots.fl {l : List (Key × D)} (h : Spots l) : ∀ p ∈ l, flatD p.2 = true := fun p hp => by
  obtain ⟨x, i, rfl, _⟩ := h.sh p hp
  rfl
theorem Links.fl {l : List (Key × D)} (h : Links l) : ∀ p ∈ l, flatD p.2 = true := fun p hp => by
  obtain ⟨x, i, rfl⟩ := h.sh p hp
  rfl
def goodS (l : List (Key × D)) : Bool := decide (l.length ≤ 40) && l.all fun p => isN (kS p.1) && isP (dI p.2)
def goodL (l : List (Key × D)) : Bool := decide (l.length ≤ 200) && l.all fun p => decide (0 < kI p.1) && isP (kI p.1) && isP (dI p.2)
theorem all_keys {l : List (Key × D)} {f : D → Bool} {g : Key × D → Bool} (h : ∀ p ∈ l, f (keyD p.1) = g p) : (l.map fun p => keyD p.1).all f = l.all g := by
  rw [List.all_map]
  induction l with
  | nil => rfl
  | cons p r ih =>
    rw [List.all_cons, List.all_cons, ih fun q hq => h q (List.mem_cons_of_mem _ hq), ← h p List.mem_cons_self]
    rfl
theorem good_names_ok (H : HeapFns Q) (n : Nat) {l : List (Key × D)} {K : Cr → Prop} (h : Spots l) (k : K (.ok (.sh (.bl (goodS l))) [some (.sh (.dK l))])) : WC (callN Q (n + 3)) ("", "good_names") [.sh (.dK l)] K := by
  have hsz : sizeLine = 16777216 := rfl
  have hle := h.le
  have k' : ∀ b, b = goodS l → K (.ok (.sh (.bl b)) [some (.sh (.dK l))]) := fun b e => e ▸ k
  refine wc_fn H.gnames ⟨rfl, rfl, by decide⟩ ?_
  dsimp only [l_map0, l_map1, l_set0, l_set1, l_app0, l_app1, l_rep0, l_rep1, finOf, back, E.bors, E.bor1, Int.reduceToNat, Nat.reduceSub, Nat.reduceAdd, l_len0, l_len1, l_get0, l_get1, asI, asB, asD, T.toD, Ts.toD, wipe1, unwipe, slot, tI, MP.tB, tS, Tg.slots]
  (repeat' (first | infer_instance | fail))
  · exact k' _ (by unfold goodS; rw [decide_eq_false (by omega)]; rfl)
  · rename_i hn
    refine WLc.mapD (fun d => .bl (isN (dS d) && isP (dI (at_ l (.inr (dS d)))))) rfl (by simp; omega) (fun d hd => ?_) ?_
    · obtain ⟨p, hp, rfl⟩ := List.mem_map.mp hd
      obtain ⟨x, i, rfl, hx⟩ := h.sh p hp
      have e : at_ l (.inr x) = .int i := at_mem h.nd hp
      (repeat' (first | infer_instance | fail))
      refine name_ok H.told H.made H.name _ (by omega) ?_
      (repeat' (first | infer_instance | fail))
      · rename_i hb
        refine idx_K h.nd hp rfl ?_
        (repeat' (first | infer_instance | fail))
        refine place0_ok H _ ?_
        (repeat' (first | infer_instance | fail))
        simp only [keyD, dS, e, dI, isN, hb]
        rfl
      · rename_i hb
        simp only [keyD, dS, isN, hb]
        rfl
    · dsimp only [l_map0, l_map1, l_set0, l_set1, l_app0, l_app1, l_rep0, l_rep1, finOf, back, E.bors, E.bor1, Int.reduceToNat, Nat.reduceSub, Nat.reduceAdd, l_len0, l_len1, l_get0, l_get1, asI, asB, asD, T.toD, Ts.toD, wipe1, unwipe, slot, tI, MP.tB, tS, Tg.slots]
      (repeat' (first | infer_instance | fail))
      refine k' _ ?_
      unfold goodS
      rw [decide_eq_true (by omega : l.length ≤ 40), Bool.true_and]
      refine all_keys fun p hp => ?_
      obtain ⟨x, i, rfl, hx⟩ := h.sh p hp
      have e : at_ l (.inr x) = .int i := at_mem h.nd hp
      simp only [keyD, dS, kS, e]
theorem good_cells_ok (H : HeapFns Q) (n : Nat) {l : List (Key × D)} {K : Cr → Prop} (h : Links l) (k : K (.ok (.sh (.bl (goodL l))) [some (.sh (.dK l))])) : WC (callN Q (n + 2)) ("", "good_cells") [.sh (.dK l)] K := by
  have hsz : sizeLine = 16777216 := rfl
  have hle := h.le
  have k' : ∀ b, b = goodL l → K (.ok (.sh (.bl b)) [some (.sh (.dK l))]) := fun b e => e ▸ k
  refine wc_fn H.gcells ⟨rfl, rfl, by decide⟩ ?_
  dsimp only [l_map0, l_map1, l_set0, l_set1, l_app0, l_app1, l_rep0, l_rep1, finOf, back, E.bors, E.bor1, Int.reduceToNat, Nat.reduceSub, Nat.reduceAdd, l_len0, l_len1, l_get0, l_get1, asI, asB, asD, T.toD, Ts.toD, wipe1, unwipe, slot, tI, MP.tB, tS, Tg.slots]
  (repeat' (first | infer_instance | fail))
  · exact k' _ (by unfold goodL; rw [decide_eq_false (by omega)]; rfl)
  · rename_i hn
    refine WLc.mapD (fun d => .bl (decide (0 < dI d) && isP (dI d) && isP (dI (at_ l (.inl (dI d)))))) rfl (by simp; omega) (fun d hd => ?_) ?_
    · obtain ⟨p, hp, rfl⟩ := List.mem_map.mp hd
      obtain ⟨x, i, rfl⟩ := h.sh p hp
      have e : at_ l (.inl x) = .int i := at_mem h.nd hp
      (repeat' (first | infer_instance | fail))
      · rename_i h1
        refine place0_ok H _ ?_
        (repeat' (first | infer_instance | fail))
        · rename_i hb
          refine idx_K h.nd hp rfl ?_
          (repeat' (first | infer_instance | fail))
          refine place0_ok H _ ?_
          (repeat' (first | infer_instance | fail))
          refine okb ?_
          simp [keyD, dI, e, hb, h1]
        · rename_i hb
          refine okb ?_
          simp [keyD, dI, hb]
      · rename_i h1
        refine okb ?_
        simp [keyD, dI, h1]
    · dsimp only [l_map0, l_map1, l_set0, l_set1, l_app0, l_app1, l_rep0, l_rep1, finOf, back, E.bors, E.bor1, Int.reduceToNat, Nat.reduceSub, Nat.reduceAdd, l_len0, l_len1, l_get0, l_get1, asI, asB, asD, T.toD, Ts.toD, wipe1, unwipe, slot, tI, MP.tB, tS, Tg.slots]
      (repeat' (first | infer_instance | fail))
      refine k' _ ?_
      unfold goodL
      rw [decide_eq_true (by omega : l.length ≤ 200), Bool.true_and]
      refine all_keys fun p hp => ?_
      obtain ⟨x, i, rfl⟩ := h.sh p hp
      have e : at_ l (.inl x) = .int i := at_mem h.nd hp
      simp only [keyD, dI, kI, e]
      rfl
/-- a heap, told as a value -/
def heapD (l c : List (Key × D)) : D := .obj "Heap" [("spots", .dK l), ("links", .dK c)]
def heapT (l c : List (Key × D)) : T := .obj "Heap" [("spots", .sh (.dK l)), ("links", .sh (.dK c))]
/-- what is handed in: None, or an own dict -/
def Hand (t : T) (l : List (Key × D)) : Prop := (t = .sh .non ∧ l = []) ∨ t = .dK (kT l)
theorem pt0 {t : T} : MP.putT (Str.ofString "spots") t [] = [(Str.ofString "spots", t)] := rfl
theorem pt1 {t u : T} : MP.putT (Str.ofString "links") t [(Str.ofString "spots", u)] = [(Str.ofString "spots", u), (Str.ofString "links", t)] := by
  unfold MP.putT
  rw [if_neg (by decide)]
  rfl
local instance (priority := high) i_dnewK {C : Ct} {r : Env1} {K : Rs T → Prop} : Step (WE C .dnew r K) (K (.ok (.dK (kT [])) r)) := ⟨we_dnew⟩
theorem init_ok (H : HeapFns Q) (n : Nat) {l c : List (Key × D)} {a b : T} {K : Cr → Prop} (ha : Hand a l) (hb : Hand b c) (hl : Spots l) (hc : Links c)
    (k1 : (goodS l && goodL c) = true → K (.ok (.sh .non) [some (heapT l c), some a, some b]))
    (k2 : (goodS l && goodL c) = false → K (.ex ⟨"BadHeap", []⟩ [some (heapT l c), some a, some b])) : WC (callN Q (n + 4)) ("Heap", "__init__") [.obj "Heap" [], a, b] K := by
  rcases ha with ⟨rfl, rfl⟩ | rfl <;> rcases hb with ⟨rfl, rfl⟩ | rfl
  all_goals
    refine wc_fn H.init ⟨rfl, rfl, by decide⟩ ?_
    dsimp only [l_map0, l_map1, l_set0, l_set1, l_app0, l_app1, l_rep0, l_rep1, finOf, back, E.bors, E.bor1, Int.reduceToNat, Nat.reduceSub, Nat.reduceAdd, l_len0, l_len1, l_get0, l_get1, asI, asB, asD, T.toD, Ts.toD, wipe1, unwipe, slot, tI, MP.tB, tS, Tg.slots]
    (repeat' (first | infer_instance | fail))
    try refine Sc.mk (p := _ ∧ _) ⟨by simp [MP.putT], by decide⟩ ?_
    try rw [pt0]
    (repeat' (first | infer_instance | fail))
    try refine Sc.mk (p := _ ∧ _) ⟨by simp [MP.putT], by decide⟩ ?_
    try rw [pt0]
    try rw [pt1]
    (repeat' (first | infer_instance | fail))
    refine good_names_ok H _ hl ?_
    (repeat' (first | infer_instance | fail))
    all_goals first
      | exact k2 (by simp_all)
      | skip
    refine good_cells_ok H _ hc ?_
    (repeat' (first | infer_instance | fail))
    all_goals first
      | exact k1 (by simp_all)
      | exact k2 (by simp_all)
theorem hlen_ok (H : HeapFns Q) (n : Nat) {l c : List (Key × D)} {K : Cr → Prop} (k : K (.ok (.sh (.int c.length)) [some (.sh (heapD l c))])) : WC (callN Q (n + 1)) ("Heap", "__len__") [.sh (heapD l c)] K := by
  refine wc_fn H.hlen ⟨rfl, rfl, by decide⟩ ?_
  unfold heapD at *
  dsimp only [l_map0, l_map1, l_set0, l_set1, l_app0, l_app1, l_rep0, l_rep1, finOf, back, E.bors, E.bor1, Int.reduceToNat, Nat.reduceSub, Nat.reduceAdd, l_len0, l_len1, l_get0, l_get1, asI, asB, asD, T.toD, Ts.toD, wipe1, unwipe, slot, tI, MP.tB, tS, Tg.slots]
  (repeat' (first | infer_instance | fail))
  exact k
theorem hnames_ok (H : HeapFns Q) (n : Nat) {l c : List (Key × D)} {K : Cr → Prop} (hl : Spots l) (h40 : l.length ≤ 40) (k : K (.ok (.lst (((sortS (l.map fun p => kS p.1)).map D.str).map .sh)) [some (.sh (heapD l c))])) : WC (callN Q (n + 1)) ("Heap", "names") [.sh (heapD l c)] K := by
  refine wc_fn H.hnames ⟨rfl, rfl, by decide⟩ ?_
  unfold heapD at *
  dsimp only [l_map0, l_map1, l_set0, l_set1, l_app0, l_app1, l_rep0, l_rep1, finOf, back, E.bors, E.bor1, Int.reduceToNat, Nat.reduceSub, Nat.reduceAdd, l_len0, l_len1, l_get0, l_get1, asI, asB, asD, T.toD, Ts.toD, wipe1, unwipe, slot, tI, MP.tB, tS, Tg.slots]
  (repeat' (first | infer_instance | fail))
  refine sort_S rfl rfl hl.sk (by omega) ?_
  (repeat' (first | infer_instance | fail))
  exact k
theorem hcells_ok (H : HeapFns Q) (n : Nat) {l : List (Key × D)} {es : List (Int × Int)} {K : Cr → Prop} (k : K (.ok (.lst ((sortE es).map pairT)) [some (.sh (heapD l (cK es)))])) : WC (callN Q (n + 1)) ("Heap", "cells") [.sh (heapD l (cK es))] K := by
  refine wc_fn H.hcells ⟨rfl, rfl, by decide⟩ ?_
  unfold heapD at *
  dsimp only [l_map0, l_map1, l_set0, l_set1, l_app0, l_app1, l_rep0, l_rep1, finOf, back, E.bors, E.bor1, Int.reduceToNat, Nat.reduceSub, Nat.reduceAdd, l_len0, l_len1, l_get0, l_get1, asI, asB, asD, T.toD, Ts.toD, wipe1, unwipe, slot, tI, MP.tB, tS, Tg.slots]
  (repeat' (first | infer_instance | fail))
  exact k
theorem hplace_ok (H : HeapFns Q) (n : Nat) {l c : List (Key × D)} {p : Key × D} {x : Str} {i : Int} {K : Cr → Prop} (hl : Spots l) (hp : (.inr x, .int i) ∈ l) (hx : x ≠ "nil") (k : K (.ok (.sh (.int i)) [some (.sh (heapD l c)), some (.sh (.str x))])) : WC (callN Q (n + 1)) ("Heap", "place") [.sh (heapD l c), .sh (.str x)] K := by
  refine wc_fn H.hplace ⟨rfl, rfl, by decide⟩ ?_
  unfold heapD at *
  dsimp only [l_map0, l_map1, l_set0, l_set1, l_app0, l_app1, l_rep0, l_rep1, finOf, back, E.bors, E.bor1, Int.reduceToNat, Nat.reduceSub, Nat.reduceAdd, l_len0, l_len1, l_get0, l_get1, asI, asB, asD, T.toD, Ts.toD, wipe1, unwipe, slot, tI, MP.tB, tS, Tg.slots]
  (repeat' (first | infer_instance | fail))
  · rename_i h
    exact absurd h hx
  · rename_i h
    have e : ((kT l).any fun p => decide (p.1 = Sum.inr x)) = true := List.any_eq_true.mpr ⟨_, List.mem_map.mpr ⟨_, hp, rfl⟩, by simp⟩
    have h : (!((kT l).any fun p => decide (p.1 = Sum.inr x))) = true := h
    rw [e] at h
    cases h
  · refine idx_K hl.nd hp rfl ?_
    (repeat' (first | infer_instance | fail))
    exact k
end PL
/-! P3: heaps of the laws. -/
namespace PL
open PySem PySem.Spec PyProof.Rows L2 MP
local macro_rules | `(tactic| infer_instance) => `(tactic| (first
  | refine Step.h ?_
  | refine Sm.mk1 ?_
  | (refine Br.mk (fun h => ?_) (fun h => ?_) <;> first | contradiction | replace h := of_decide_eq_true h | replace h := of_decide_eq_false h | skip)
  | refine Sc.mk (by first | decide | rfl | omega | exact log_ok (by omega) (by omega) (by omega) (by omega) | exact log_s (by omega) (by omega) | exact And.intro (by omega) (by omega)) ?_
  | fail); try dsimp only [l_map0, l_map1, l_set0, l_set1, l_app0, l_app1, l_rep0, l_rep1, finOf, back, E.bors, E.bor1, Int.reduceToNat, Nat.reduceSub, Nat.reduceAdd, l_len0, l_len1, l_get0, l_get1, asI, asB, asD, T.toD, Ts.toD, wipe1, unwipe, slot, tI, MP.tB, tS, Tg.slots])
def f__law_seen : Fn := ⟨1, 3, [true],
  (.seq (.asg 1 .dnew)
  (.seq (.for (.var 2) (.iv (.frE (.meth "names" ["Heap"] (.p (.var 0)) .nil [])))
  (.seq (.setI 1 (.var 2) (.meth "place" ["Heap"] (.p (.var 0)) (.cons (.p (.var 2)) .nil) []))
  .skip))
  (.seq (.ret (.tup (.cons (.fz 1) (.cons (.o1 .dictP (.meth "cells" ["Heap"] (.p (.var 0)) .nil [])) .nil))))
  .skip)))⟩
def f__law_heap : Fn := ⟨3, 10, [true, true, true],
  (.seq (.asg 3 (.frE (.call ("", "_law_pull") (.cons (.bor 0) (.cons (.p (.o2 .add (.var 2) (.lit (.int 1)))) .nil)) [])))
  (.seq (.asg 4 (.frE (.call ("", "_law_one_of") (.cons (.bor 0) (.cons (.frE (.lst (.cons (.p (.lit (.int 1))) (.cons (.p (.lit (.int 1))) (.cons (.p (.lit (.int 3))) (.cons (.p (.o2 .pow (.lit (.int 10)) (.lit (.int 6)))) .nil)))))) .nil)) [])))
  (.seq (.asg 5 (.frE (.o2 .add (.lst (.cons (.p (.lit (.int 0))) .nil)) (.lc (.var 7) (.rng1 (.p (.o2 .add (.var 3) (.lit (.int 2))))) .yes (.p (.o2 .add (.lit (.int 1)) (.o2 .mul (.var 4) (.var 7))))))))
  (.seq (.asg 6 .dnew)
  (.seq (.for (.var 7) (.rng2 (.p (.lit (.int 1))) (.p (.o2 .add (.var 3) (.lit (.int 1)))))
  (.seq (.setI 6 (.o2 .idx (.var 5) (.var 7)) (.o2 .idx (.p (.var 5)) (.call ("", "_law_one_of") (.cons (.bor 0) (.cons (.frE (.lst (.cons (.p (.o2 .add (.var 7) (.lit (.int 1)))) (.cons (.call ("", "_law_pull") (.cons (.bor 0) (.cons (.p (.o2 .add (.var 3) (.lit (.int 3)))) .nil)) []) (.cons (.p (.lit (.int 0))) .nil))))) .nil)) [])))
  .skip))
  (.seq (.asg 8 .dnew)
  (.seq (.for (.var 9) (.iv (.p (.var 1)))
  (.seq (.setI 8 (.var 9) (.o2 .idx (.p (.var 5)) (.call ("", "_law_pull") (.cons (.bor 0) (.cons (.p (.o2 .add (.var 3) (.lit (.int 3)))) .nil)) [])))
  .skip))
  (.seq (.ret (.tup (.cons (.fz 8) (.cons (.fz 6) .nil))))
  .skip))))))))⟩
def f__law_made_heap : Fn := ⟨2, 2, [true, true],
  (.seq (.tryX (.seq (.ret (.new "Heap" (.cons (.bor 0) (.cons (.bor 1) .nil)) []))
  .skip)
  "BadHeap" ["BadHeap"] ["LinkError", "Missing", "NoPlace"] (.ret (.lit .non)))
  .skip)⟩
def f__law_bent_names : Fn := ⟨2, 4, [true, true],
  (.seq (.asg 2 (.n1 .dictD (.var 1)))
  (.seq (.asg 3 (.frE (.lst (.cons (.p (.lit (.int 0))) (.cons (.p (.o2 .pow (.lit (.int 10)) (.lit (.int 9)))) (.cons (.p (.o2 .add (.o2 .pow (.lit (.int 10)) (.lit (.int 9))) (.lit (.int 1)))) (.cons (.p (.o1 .neg (.lit (.int 1)))) (.cons (.o2 .sub (.p (.o1 .neg (.lit (.int 1)))) (.call ("", "_law_pull") (.cons (.bor 0) (.cons (.p (.o2 .pow (.lit (.int 10)) (.lit (.int 20)))) .nil)) [])) (.cons (.o2 .add (.p (.o2 .add (.o2 .pow (.lit (.int 10)) (.lit (.int 9))) (.lit (.int 1)))) (.call ("", "_law_pull") (.cons (.bor 0) (.cons (.p (.o2 .pow (.lit (.int 10)) (.lit (.int 20)))) .nil)) [])) .nil)))))))))
  (.seq (.ite (.k2 .eq (.call ("", "_law_pull") (.cons (.bor 0) (.cons (.p (.lit (.int 2))) .nil)) []) (.lit (.int 0)))
  (.seq (.setE 2 (.call ("", "_law_one_of") (.cons (.bor 0) (.cons (.frE (.lst (.cons (.p (.lit (.str "x"))) (.cons (.p (.lit (.str "v7"))) (.cons (.p (.lit (.str "nil"))) (.cons (.p (.lit (.str "A"))) (.cons (.p (.lit (.str "v100"))) (.cons (.p (.lit (.str "abcdefg"))) (.cons (.p (.lit (.str ""))) .nil))))))))) .nil)) []) (.p (.lit (.int 3))))
  .skip)
  .skip)
  (.seq (.ite (.and (.vk .ne 2 .dnew) (.k2 .eq (.call ("", "_law_pull") (.cons (.bor 0) (.cons (.p (.lit (.int 2))) .nil)) []) (.lit (.int 0))))
  (.seq (.setE 2 (.call ("", "_law_one_of") (.cons (.bor 0) (.cons (.frE (.n1 .sortL (.var 2))) .nil)) []) (.call ("", "_law_one_of") (.cons (.bor 0) (.cons (.p (.var 3)) .nil)) []))
  .skip)
  .skip)
  (.seq (.ret (.mv 2))
  .skip)))))⟩
def f__law_bent_cells : Fn := ⟨2, 4, [true, true],
  (.seq (.asg 2 (.n1 .dictD (.var 1)))
  (.seq (.asg 3 (.frE (.lst (.cons (.p (.lit (.int 1))) (.cons (.p (.o2 .pow (.lit (.int 10)) (.lit (.int 9)))) (.cons (.p (.o2 .add (.o2 .pow (.lit (.int 10)) (.lit (.int 9))) (.lit (.int 1)))) (.cons (.p (.lit (.int 0))) (.cons (.p (.o1 .neg (.lit (.int 1)))) (.cons (.o2 .sub (.p (.o1 .neg (.lit (.int 2)))) (.call ("", "_law_pull") (.cons (.bor 0) (.cons (.p (.o2 .pow (.lit (.int 10)) (.lit (.int 20)))) .nil)) [])) .nil)))))))))
  (.seq (.ite (.k2 .eq (.call ("", "_law_pull") (.cons (.bor 0) (.cons (.p (.lit (.int 2))) .nil)) []) (.lit (.int 0)))
  (.seq (.setE 2 (.call ("", "_law_one_of") (.cons (.bor 0) (.cons (.p (.var 3)) .nil)) []) (.call ("", "_law_one_of") (.cons (.bor 0) (.cons (.frE (.lst (.cons (.p (.lit (.int 0))) (.cons (.p (.lit (.int 5))) (.cons (.p (.o1 .neg (.lit (.int 1)))) (.cons (.p (.o2 .pow (.lit (.int 10)) (.lit (.int 9)))) (.cons (.p (.o2 .add (.o2 .pow (.lit (.int 10)) (.lit (.int 9))) (.lit (.int 1)))) .nil))))))) .nil)) []))
  .skip)
  .skip)
  (.seq (.ret (.mv 2))
  .skip))))⟩
def f__law_good : Fn := ⟨2, 4, [true, true],
  (.seq (.ite (.not (.o1 .allL (.lc (.var 2) (.iv (.p (.var 0))) .yes (.and (.call ("", "_law_is_term") (.cons (.p (.var 2)) .nil) []) (.and (.p (.o2 .ne (.var 2) (.lit (.str "nil")))) (.chain .le .le (.lit (.int 0)) (.o2 .idx (.var 0) (.var 2)) (.o2 .pow (.lit (.int 10)) (.lit (.int 9)))))))))
  (.seq (.ret (.p (.lit (.bl false))))
  .skip)
  .skip)
  (.seq (.ite (.not (.o1 .allL (.lc (.var 3) (.iv (.p (.var 1))) .yes (.and (.chain .le .le (.lit (.int 1)) (.var 3) (.o2 .pow (.lit (.int 10)) (.lit (.int 9)))) (.chain .le .le (.lit (.int 0)) (.o2 .idx (.var 1) (.var 3)) (.o2 .pow (.lit (.int 10)) (.lit (.int 9))))))))
  (.seq (.ret (.p (.lit (.bl false))))
  .skip)
  .skip)
  (.seq (.ret (.and (.p (.o2 .le (.o1 .len (.var 0)) (.lit (.int 40)))) (.p (.o2 .le (.o1 .len (.var 1)) (.lit (.int 200))))))
  .skip)))⟩
def f_law : Fn := ⟨1, 10, [true],
  (.seq (.asg 1 (.call ("", "_law_bag") (.cons (.p (.var 0)) .nil) []))
  (.seq (.for (.var 2) (.rng1 (.p (.lit (.int 4))))
  (.seq (.unp (.cons (.var 5) (.cons (.var 6) .nil)) (.frE (.call ("", "_law_heap") (.cons (.bor 1) (.cons (.frE (.call ("", "_law_names") (.cons (.bor 1) (.cons (.frE (.call ("", "_law_pull") (.cons (.bor 1) (.cons (.p (.lit (.int 5))) .nil)) [])) .nil)) [])) (.cons (.p (.lit (.int 6))) .nil))) [])))
  (.seq (.ite (.k2 .eq (.call ("", "_law_pull") (.cons (.bor 1) (.cons (.p (.lit (.int 2))) .nil)) []) (.lit (.int 0)))
  (.seq (.unp (.cons (.var 5) (.cons (.var 6) .nil)) (.tup (.cons (.call ("", "_law_bent_names") (.cons (.bor 1) (.cons (.p (.var 5)) .nil)) []) (.cons (.call ("", "_law_bent_cells") (.cons (.bor 1) (.cons (.p (.var 6)) .nil)) []) .nil))))
  .skip)
  .skip)
  (.seq (.ite (.k2 .eq (.call ("", "_law_pull") (.cons (.bor 1) (.cons (.p (.lit (.int 6))) .nil)) []) (.lit (.int 0)))
  (.seq (.asg 5 (.frE (.o1 .dictP (.lc (.var 8) (.rng1 (.o2 .add (.p (.lit (.int 39))) (.call ("", "_law_pull") (.cons (.bor 1) (.cons (.p (.lit (.int 3))) .nil)) []))) .yes (.tup (.cons (.p (.o2 .add (.lit (.str "v")) (.o1 .strI (.o2 .add (.var 8) (.lit (.int 1)))))) (.cons (.p (.var 8)) .nil)))))))
  .skip)
  .skip)
  (.seq (.ite (.k2 .eq (.call ("", "_law_pull") (.cons (.bor 1) (.cons (.p (.lit (.int 6))) .nil)) []) (.lit (.int 0)))
  (.seq (.asg 6 (.frE (.o1 .dictP (.lc (.var 8) (.rng1 (.o2 .add (.p (.lit (.int 199))) (.call ("", "_law_pull") (.cons (.bor 1) (.cons (.p (.lit (.int 3))) .nil)) []))) .yes (.tup (.cons (.p (.o2 .add (.var 8) (.lit (.int 1)))) (.cons (.p (.var 8)) .nil)))))))
  .skip)
  .skip)
  (.seq (.asg 3 (.lst (.cons (.n1 .dictD (.var 5)) (.cons (.n1 .dictD (.var 6)) .nil))))
  (.seq (.asg 4 (.frE (.callP ("", "_law_made_heap") 3 2)))
  (.seq (.ite (.or (.o2 .eq (.p (.o1 .isN (.var 4))) (.call ("", "_law_good") (.cons (.p (.var 5)) (.cons (.p (.var 6)) .nil)) [])) (.vk .ne 3 (.lst (.cons (.p (.var 5)) (.cons (.p (.var 6)) .nil)))))
  (.seq (.ret (.p (.lit (.bl false))))
  .skip)
  .skip)
  (.seq (.setP 3 0 (.lit (.str "zzzz")) (.p (.lit (.int 4))))
  (.seq (.setP 3 1 (.lit (.int 7777)) (.p (.lit (.int 3))))
  (.seq (.ite (.p (.o1 .notN (.var 4)))
  (.seq (.asg 7 (.frE (.lst (.cons (.n1 .sortL (.var 5)) (.cons (.lc (.var 9) (.iv (.frE (.n1 .sortL (.var 6)))) .yes (.tup (.cons (.p (.var 9)) (.cons (.p (.o2 .idx (.var 6) (.var 9))) .nil)))) (.cons (.p (.o1 .len (.var 6))) .nil))))))
  (.seq (.ite (.or (.not (.call ("", "_law_same") (.cons (.frE (.lst (.cons (.meth "names" ["Heap"] (.p (.var 4)) .nil []) (.cons (.meth "cells" ["Heap"] (.p (.var 4)) .nil []) (.cons (.lenO ["Heap"] (.p (.var 4))) .nil))))) (.cons (.p (.var 7)) .nil)) [])) (.o2 .ne (.call ("", "_law_seen") (.cons (.p (.var 4)) .nil) []) (.tup (.cons (.p (.var 5)) (.cons (.p (.var 6)) .nil)))))
  (.seq (.ret (.p (.lit (.bl false))))
  .skip)
  .skip)
  .skip))
  .skip)
  .skip)))))))))))
  (.seq (.ret (.call ("", "_law_same") (.cons (.frE (.lst (.cons (.meth "names" ["Heap"] (.new "Heap" .nil [.non, .non]) .nil []) (.cons (.meth "cells" ["Heap"] (.new "Heap" (.cons .dnew (.cons .dnew .nil)) []) .nil []) (.cons (.lenO ["Heap"] (.new "Heap" (.cons (.dlit [((.inr "x"), .int 2)]) .nil) [.non])) .nil))))) (.cons (.frE (.lst (.cons (.lst .nil) (.cons (.lst .nil) (.cons (.p (.lit (.int 0))) .nil))))) .nil)) []))
  .skip)))⟩
structure H03 (Q : Fk → Option Fn) extends HeapFns Q where
  pull : Q ("", "_law_pull") = some f__law_pull
  one : Q ("", "_law_one_of") = some f__law_one_of
  bag : Q ("", "_law_bag") = some f__law_bag
  same : Q ("", "_law_same") = some f__law_same
  names : Q ("", "_law_names") = some f__law_names
  ltold : Q ("", "_law_is_told") = some f__law_is_told
  lmade : Q ("", "_law_is_made") = some f__law_is_made
  lterm : Q ("", "_law_is_term") = some f__law_is_term
  heap : Q ("", "_law_heap") = some f__law_heap
  seen : Q ("", "_law_seen") = some f__law_seen
  mheap : Q ("", "_law_made_heap") = some f__law_made_heap
  bentn : Q ("", "_law_bent_names") = some f__law_bent_names
  bentc : Q ("", "_law_bent_cells") = some f__law_bent_cells
  lgood : Q ("", "_law_good") = some f__law_good
  law : Q ("", "law") = some f_law
variable {Q : Fk → Option Fn}
theorem isN_nil : isN "nil" = false := by decide +kernel
theorem isN_l (x : Str) : (told x || lmade x) = isN x := by unfold isN; rw [lmade_eq]
theorem p9 : (10 : Int) ^ Int.toNat 9 = 1000000000 := by decide
theorem notT {b : Bool} (h : (!b) = true) : b = false := by cases b <;> simp at h ⊢
theorem notF {b : Bool} (h : (!b) = false) : b = true := by cases b <;> simp at h ⊢
theorem lgood_ok (H : H03 Q) (n : Nat) {l c : List (Key × D)} {K : Cr → Prop} (hl : Spots l) (hc : Links c) (k : K (.ok (.sh (.bl (goodS l && goodL c))) [some (.sh (.dK l)), some (.sh (.dK c))])) : WC (callN Q (n + 3)) ("", "_law_good") [.sh (.dK l), .sh (.dK c)] K := by
  have hsz : sizeLine = 16777216 := rfl
  have hle := hl.le
  have hce := hc.le
  have k' : ∀ b, b = (goodS l && goodL c) → K (.ok (.sh (.bl b)) [some (.sh (.dK l)), some (.sh (.dK c))]) := fun b e => e ▸ k
  have eS : ((l.map fun p => keyD p.1).all fun d => isN (dS d) && isP (dI (at_ l (.inr (dS d))))) = l.all fun p => isN (kS p.1) && isP (dI p.2) := by
    refine all_keys fun p hp => ?_
    obtain ⟨x, i, rfl, hx⟩ := hl.sh p hp
    have e : at_ l (.inr x) = .int i := at_mem hl.nd hp
    simp only [keyD, dS, kS, e]
  have eC : ((c.map fun p => keyD p.1).all fun d => decide (0 < dI d) && isP (dI d) && isP (dI (at_ c (.inl (dI d))))) = c.all fun p => decide (0 < kI p.1) && isP (kI p.1) && isP (dI p.2) := by
    refine all_keys fun p hp => ?_
    obtain ⟨x, i, rfl⟩ := hc.sh p hp
    have e : at_ c (.inl x) = .int i := at_mem hc.nd hp
    simp only [keyD, dI, kI, e]
    rfl
  refine wc_fn H.lgood ⟨rfl, rfl, by decide⟩ ?_
  dsimp only [l_map0, l_map1, l_set0, l_set1, l_app0, l_app1, l_rep0, l_rep1, finOf, back, E.bors, E.bor1, Int.reduceToNat, Nat.reduceSub, Nat.reduceAdd, l_len0, l_len1, l_get0, l_get1, asI, asB, asD, T.toD, Ts.toD, wipe1, unwipe, slot, tI, MP.tB, tS, Tg.slots]
  (repeat' (first | infer_instance | fail))
  refine WLc.mapD (fun d => .bl (isN (dS d) && isP (dI (at_ l (.inr (dS d)))))) rfl (by simp; omega) (fun d hd => ?_) ?_
  · obtain ⟨p, hp, rfl⟩ := List.mem_map.mp hd
    obtain ⟨x, i, rfl, hx⟩ := hl.sh p hp
    have e : at_ l (.inr x) = .int i := at_mem hl.nd hp
    have e1 := isN_l x
    have e0 := isN_nil
    (repeat' (first | infer_instance | fail))
    refine lterm_ok H.ltold H.lmade H.lterm _ (by omega) ?_
    (repeat' (first | infer_instance | fail))
    · refine idx_K hl.nd hp rfl ?_
      (repeat' (first | infer_instance | fail))
      all_goals
        refine okb ?_
        rw [e1] at *
        have hN : isN x = true := by
          clear hd hp k k' eS eC
          simp_all
        have ev : (isN (dS (keyD (Sum.inr x))) && isP (dI (at_ l (.inr (dS (keyD (Sum.inr x))))))) = (true && isP i) := by
          show (isN x && isP (dI (at_ l (.inr x)))) = _
          rw [e, hN]
          rfl
        refine Eq.trans ?_ ev.symm
        unfold isP
        rw [Bool.eq_iff_iff]
        constructor <;> intro hh <;> simp only [Bool.and_eq_true, decide_eq_true_eq, Bool.false_eq_true, true_and] at hh ⊢ <;> omega
    all_goals
      refine okb ?_
      rw [e1] at *
      simp only [keyD, dS, e, dI]
      simp_all
  · (repeat' (first | infer_instance | fail))
    · rename_i h1
      have h2 := notT h1
      rw [eS] at h2
      exact k' _ (by unfold goodS; rw [h2, Bool.and_false, Bool.false_and])
    · rename_i h1
      have h2 := notF h1
      rw [eS] at h2
      refine WLc.mapD (fun d => .bl (decide (0 < dI d) && isP (dI d) && isP (dI (at_ c (.inl (dI d)))))) rfl (by simp; omega) (fun d hd => ?_) ?_
      · obtain ⟨p, hp, rfl⟩ := List.mem_map.mp hd
        obtain ⟨x, i, rfl⟩ := hc.sh p hp
        have e : at_ c (.inl x) = .int i := at_mem hc.nd hp
        have ev : (decide (0 < dI (keyD (Sum.inl x))) && isP (dI (keyD (.inl x))) && isP (dI (at_ c (.inl (dI (keyD (.inl x))))))) = (decide (0 < x) && isP x && isP i) := by
          show (decide (0 < x) && isP x && isP (dI (at_ c (.inl x)))) = _
          rw [e]
          rfl
        (repeat' (first | infer_instance | fail))
        · refine idx_K hc.nd hp rfl ?_
          (repeat' (first | infer_instance | fail))
          all_goals
            refine okb (Eq.trans ?_ ev.symm)
            unfold isP
            rw [Bool.eq_iff_iff]
            constructor <;> intro hh <;> simp only [Bool.and_eq_true, decide_eq_true_eq, Bool.false_eq_true] at hh ⊢ <;> omega
        all_goals
          refine okb (Eq.trans ?_ ev.symm)
          unfold isP
          rw [Bool.eq_iff_iff]
          constructor <;> intro hh <;> simp only [Bool.and_eq_true, decide_eq_true_eq, Bool.false_eq_true] at hh ⊢ <;> omega
      · (repeat' (first | infer_instance | fail))
        · rename_i h3
          have h4 := notT h3
          rw [eC] at h4
          exact k' _ (by unfold goodL; rw [h4, Bool.and_false, Bool.and_false])
        · rename_i h3 h5
          have h4 := notF h3
          rw [eC] at h4
          refine k' _ ?_
          unfold goodS goodL
          rw [h2, h4, Bool.and_true, Bool.and_true, decide_eq_true (by omega : l.length ≤ 40), Bool.true_and]
          exact decide_eq_decide.mpr (by omega)
        · refine k' _ ?_
          unfold goodS
          rw [decide_eq_false (by omega : ¬ l.length ≤ 40)]
          rfl
theorem mheap_ok (H : H03 Q) (n : Nat) {l c : List (Key × D)} {K : Cr → Prop} (hl : Spots l) (hc : Links c)
    (k1 : (goodS l && goodL c) = true → K (.ok (heapT l c) [some (.dK (kT l)), some (.dK (kT c))]))
    (k2 : (goodS l && goodL c) = false → K (.ok (.sh .non) [some (.dK (kT l)), some (.dK (kT c))])) : WC (callN Q (n + 5)) ("", "_law_made_heap") [.dK (kT l), .dK (kT c)] K := by
  refine wc_fn H.mheap ⟨rfl, rfl, by decide⟩ ?_
  dsimp only [l_map0, l_map1, l_set0, l_set1, l_app0, l_app1, l_rep0, l_rep1, finOf, back, E.bors, E.bor1, Int.reduceToNat, Nat.reduceSub, Nat.reduceAdd, l_len0, l_len1, l_get0, l_get1, asI, asB, asD, T.toD, Ts.toD, wipe1, unwipe, slot, tI, MP.tB, tS, Tg.slots]
  (repeat' (first | infer_instance | fail))
  refine init_ok H.toHeapFns _ (.inr rfl) (.inr rfl) hl hc (fun h => ?_) (fun h => ?_)
  · (repeat' (first | infer_instance | fail))
    exact k1 h
  · (repeat' (first | infer_instance | fail))
    exact k2 h
theorem put_spots {l : List (Key × D)} {x : Str} {i : Int} (h : Spots l) (hx : x.length ≤ 1000) (hle : l.length < 60) : Spots (putD l (.inr x) (.int i)) where
  nd := putD_ok h.nd
  sh := fun p hp => (putD_mem hp).elim (fun e => ⟨x, i, e, hx⟩) (h.sh p)
  le := by have := putD_len (l := l) (k := .inr x) (d := .int i); omega
theorem put_links {l : List (Key × D)} {a : Int} {i : Int} (h : Links l) (hle : l.length < 300) : Links (putD l (.inl a) (.int i)) where
  nd := putD_ok h.nd
  sh := fun p hp => (putD_mem hp).elim (fun e => ⟨a, i, e⟩) (h.sh p)
  le := by have := putD_len (l := l) (k := .inl a) (d := .int i); omega
theorem nil_spots : Spots [] := ⟨List.nodup_nil, fun p h => (by cases h), by simp⟩
theorem nil_links : Links [] := ⟨List.nodup_nil, fun p h => (by cases h), by simp⟩
theorem of_ints {ns : List Int} {i : Int} {K : T → Prop} (h0 : 0 ≤ i) (h1 : i < ns.length) (h : ∀ x ∈ ns, K (.sh (.int x))) : Sm (ev2 .idx (.sh (.lst (ns.map .int))) (.sh (.int i))) K :=
  of_mem h0 (by rw [List.length_map]; exact h1) fun d hd => by
    obtain ⟨x, hx, rfl⟩ := List.mem_map.mp hd
    exact h x hx
local instance (priority := high) i_dnewK3 {C : Ct} {r : Env1} {K : Rs T → Prop} : Step (WE C .dnew r K) (K (.ok (.dK (kT [])) r)) := ⟨we_dnew⟩
instance i_frz_tu2 {a b : D} {K : D → Prop} : Step (Sm (frz (.tup [.sh a, .sh b])) K) (K (.tup [a, b])) := ⟨fun k => .of rfl k⟩
theorem heap_ok (H : H03 Q) (n : Nat) {b : T} {N : List Str} {K : Cr → Prop} (hb : Bag b) (hN : N.length ≤ 5) (hx : ∀ x ∈ N, x.length ≤ 1000)
    (k : ∀ l c b', Spots l → Links c → l.length ≤ 5 → c.length ≤ 6 → Bag b' → K (.ok (.tup [.sh (.dK l), .sh (.dK c)]) [some b', some (.sh (.lst (N.map .str))), some (.sh (.int 6))])) : WC (callN Q (n + 3)) ("", "_law_heap") [b, .sh (.lst (N.map .str)), .sh (.int 6)] K := by
  have hsz : sizeLine = 16777216 := rfl
  refine wc_fn H.heap ⟨rfl, rfl, by decide⟩ ?_
  dsimp only [l_map0, l_map1, l_set0, l_set1, l_app0, l_app1, l_rep0, l_rep1, finOf, back, E.bors, E.bor1, Int.reduceToNat, Nat.reduceSub, Nat.reduceAdd, l_len0, l_len1, l_get0, l_get1, asI, asB, asD, T.toD, Ts.toD, wipe1, unwipe, slot, tI, MP.tB, tS, Tg.slots]
  (repeat' (first | infer_instance | fail))
  refine pull_ok H.pull _ hb (by omega) (by omega) fun many b h1 h2 hb => ?_
  (repeat' (first | infer_instance | fail))
  refine one_of_ok H.pull H.one _ hb (by simp) (by decide) fun d b hd hb => ?_
  obtain ⟨s, rfl, s0, s1⟩ : ∃ s : Int, d = .int s ∧ 1 ≤ s ∧ s ≤ 1000000 := by
    simp at hd; rcases hd with rfl | rfl | rfl <;> exact ⟨_, rfl, by omega, by omega⟩
  (repeat' (first | infer_instance | fail))
  refine WLc.mapD (fun d => .int (1 + s * dI d)) rfl (by simp; omega) (fun d hd => ?_) ?_
  · obtain ⟨j, hj, rfl⟩ := List.mem_map.mp hd
    have hj : j < (many + 2).toNat := by simpa using hj
    (repeat' (first | infer_instance | fail))
    rfl
  obtain ⟨pool, ep, lp⟩ : ∃ pool : List Int, D.int 0 :: List.map (fun d => D.int (1 + s * dI d)) (List.map (fun (k : Nat) => D.int (0 + (k : Int))) (List.range (many + 2).toNat)) = pool.map .int ∧ (pool.length : Int) = many + 3 :=
    ⟨0 :: (List.map (fun d => 1 + s * dI d) (List.map (fun (k : Nat) => D.int (0 + (k : Int))) (List.range (many + 2).toNat))), by simp [List.map_map, Function.comp_def], by simp; omega⟩
  (repeat' (first | infer_instance | fail))
  refine Sc.mk (by simp; omega) ?_
  (repeat' (first | infer_instance | fail))
  have ep2 := congrArg (List.map T.sh) ep
  rw [List.map_cons] at ep2
  rw [ep2]
  (repeat' (first | infer_instance | fail))
  refine for_inv (fun ds r => ∃ b c x7, r = [some b, some (.sh (.lst (N.map .str))), some (.sh (.int 6)), some (.sh (.int many)), some (.sh (.int s)), some (.sh (.lst (pool.map .int))), some (.dK (kT c)), x7, none, none] ∧ Bag b ∧ Links c ∧ c.length + ds.length ≤ 6 ∧ ∀ d ∈ ds, ∃ i : Int, d = .int i ∧ 1 ≤ i ∧ i ≤ many) ⟨_, [], _, rfl, hb, nil_links, by simp; omega, fun d hd => ?_⟩ ?_ ?_
  · obtain ⟨j, hj, rfl⟩ := List.mem_map.mp hd
    have hj := List.mem_range.mp hj
    exact ⟨_, rfl, by omega, by omega⟩
  · rintro _ ⟨b, c, x7, rfl, hb, hc, lc, _⟩
    simp at lc
    (repeat' (first | infer_instance | fail))
    refine for_inv (fun ds r => ∃ b l x9, r = [some b, some (.sh (.lst (N.map .str))), some (.sh (.int 6)), some (.sh (.int many)), some (.sh (.int s)), some (.sh (.lst (pool.map .int))), some (.dK (kT c)), x7, some (.dK (kT l)), x9] ∧ Bag b ∧ Spots l ∧ l.length + ds.length ≤ 5 ∧ ∀ d ∈ ds, ∃ x : Str, d = .str x ∧ x.length ≤ 1000) ⟨_, [], _, rfl, hb, nil_spots, by simp; omega, fun d hd => ?_⟩ ?_ ?_
    · obtain ⟨x, hx', rfl⟩ := List.mem_map.mp hd
      exact ⟨x, rfl, hx x hx'⟩
    · rintro _ ⟨b, l, x9, rfl, hb, hl, ll, _⟩
      simp at ll
      (repeat' (first | infer_instance | fail))
      exact k l c _ hl hc ll lc hb
    · rintro d ds _ ⟨b, l, x9, rfl, hb, hl, ll, hd⟩
      obtain ⟨x, rfl, hx1⟩ := hd d List.mem_cons_self
      simp at ll
      (repeat' (first | infer_instance | fail))
      refine pull_ok H.pull _ hb (by omega) (by omega) fun at_ b h3 h4 hb => ?_
      (repeat' (first | infer_instance | fail))
      refine of_ints h3 (by omega) fun y _ => ?_
      (repeat' (first | infer_instance | fail))
      refine set_at hl.nd (by omega) rfl ?_
      (repeat' (first | infer_instance | fail))
      have := putD_len (l := l) (k := .inr x) (d := .int y)
      exact ⟨_, _, _, rfl, hb, put_spots hl hx1 (by omega), by omega, fun d h => hd d (List.mem_cons_of_mem _ h)⟩
  · rintro d ds _ ⟨b, c, x7, rfl, hb, hc, lc, hd⟩
    obtain ⟨i, rfl, i0, i1⟩ := hd d List.mem_cons_self
    simp at lc
    (repeat' (first | infer_instance | fail))
    refine pull_ok H.pull _ hb (by omega) (by omega) fun at_ b h3 h4 hb => ?_
    (repeat' (first | infer_instance | fail))
    refine one_of_ok H.pull H.one _ hb (by simp) (by simp) fun d b hd2 hb => ?_
    obtain ⟨j, rfl, j0, j1⟩ : ∃ j : Int, d = .int j ∧ 0 ≤ j ∧ j < many + 3 := by
      simp only [List.mem_cons, List.not_mem_nil, or_false] at hd2
      rcases hd2 with rfl | rfl | rfl <;> exact ⟨_, rfl, by omega, by omega⟩
    (repeat' (first | infer_instance | fail))
    refine of_ints j0 (by omega) fun y _ => ?_
    (repeat' (first | infer_instance | fail))
    refine of_ints (by omega) (by omega) fun z _ => ?_
    (repeat' (first | infer_instance | fail))
    refine set_at hc.nd (by omega) rfl ?_
    (repeat' (first | infer_instance | fail))
    have := putD_len (l := c) (k := .inl z) (d := .int y)
    exact ⟨_, _, _, rfl, hb, put_links hc (by omega), by omega, fun d h => hd d (List.mem_cons_of_mem _ h)⟩
theorem bentn_ok (H : H03 Q) (n : Nat) {b : T} {l : List (Key × D)} {K : Cr → Prop} (hb : Bag b) (hl : Spots l) (hle : l.length ≤ 50)
    (k : ∀ l' b', Spots l' → Bag b' → K (.ok (.dK (kT l')) [some b', some (.sh (.dK l))])) : WC (callN Q (n + 3)) ("", "_law_bent_names") [b, .sh (.dK l)] K := by
  have hsz : sizeLine = 16777216 := rfl
  refine wc_fn H.bentn ⟨rfl, rfl, by decide⟩ ?_
  dsimp only [l_map0, l_map1, l_set0, l_set1, l_app0, l_app1, l_rep0, l_rep1, finOf, back, E.bors, E.bor1, Int.reduceToNat, Nat.reduceSub, Nat.reduceAdd, l_len0, l_len1, l_get0, l_get1, asI, asB, asD, T.toD, Ts.toD, wipe1, unwipe, slot, tI, MP.tB, tS, Tg.slots]
  (repeat' (first | infer_instance | fail))
  refine pull_ok H.pull _ hb (by omega) (by omega) fun f1 b h1 h2 hb => ?_
  (repeat' (first | infer_instance | fail))
  refine pull_ok H.pull _ hb (by omega) (by omega) fun f2 b h3 h4 hb => ?_
  (repeat' ((fail_if_success refine ws_mid (a := (.ite _ _ _)) (fun _ => True) ?_ ?_); first | infer_instance | fail))
  generalize hF : [D.int 0, D.int (10 ^ 9), D.int (10 ^ 9 + 1), D.int (-1), D.int (-1 - f1), D.int (10 ^ 9 + 1 + f2)] = far
  have far1 : ∀ d ∈ far, ∃ i : Int, d = .int i := fun d hd => by
    rw [← hF] at hd
    simp only [List.mem_cons, List.not_mem_nil, or_false] at hd
    rcases hd with rfl | rfl | rfl | rfl | rfl | rfl <;> exact ⟨_, rfl⟩
  have far2 : far ≠ [] := by rw [← hF]; simp
  have far3 : far.length < 2 ^ 64 := by rw [← hF]; simp
  clear hF
  refine ws_mid (fun r => ∃ b m, r = [some b, some (.sh (.dK l)), some (.dK (kT m)), some (.sh (.lst far))] ∧ Bag b ∧ Spots m ∧ m.length ≤ 51) ?_ ?_
  · (repeat' (first | infer_instance | fail))
    refine pull_ok H.pull _ hb (by omega) (by omega) fun i b h1 h2 hb => ?_
    (repeat' (first | infer_instance | fail))
    · refine one_of_ok H.pull H.one _ hb (by simp) (by decide) fun d b hd hb => ?_
      obtain ⟨x, rfl, hx⟩ : ∃ x : Str, d = .str x ∧ x.length ≤ 1000 := by
        simp only [List.mem_cons, List.not_mem_nil, or_false] at hd
        rcases hd with rfl | rfl | rfl | rfl | rfl | rfl | rfl <;> exact ⟨_, rfl, by decide +kernel⟩
      (repeat' (first | infer_instance | fail))
      refine set_at hl.nd (by omega) rfl ?_
      (repeat' (first | infer_instance | fail))
      have := putD_len (l := l) (k := .inr x) (d := .int 3)
      exact ⟨_, _, rfl, hb, put_spots hl hx (by omega), by omega⟩
    · exact ⟨_, _, rfl, hb, hl, by omega⟩
  · rintro _ ⟨b, m, rfl, hb, hm, lm⟩
    (repeat' (first | infer_instance | fail))
    refine ne_nil fun q hq => ?_
    (repeat' (first | infer_instance | fail))
    · rename_i hq1
      have m0 := hq.mp hq1
      refine pull_ok H.pull _ hb (by omega) (by omega) fun i b h1 h2 hb => ?_
      (repeat' (first | infer_instance | fail))
      · refine one_of_ok H.pull H.one _ hb far2 far3 fun d b hd hb => ?_
        obtain ⟨y, rfl⟩ := far1 d hd
        (repeat' (first | infer_instance | fail))
        refine sort_S rfl rfl hm.sk (by omega) ?_
        (repeat' (first | infer_instance | fail))
        have ls : (sortS (m.map fun p => kS p.1)).length = m.length := by
          have := (List.mergeSort_perm (m.map fun p => kS p.1) leS).length_eq
          simpa [sortS] using this
        refine one_of_ok H.pull H.one _ hb (by
          intro e
          have := congrArg List.length e
          rw [List.length_map, ls] at this
          exact m0 (List.eq_nil_of_length_eq_zero this)) (by rw [List.length_map, ls]; omega) fun d b hd hb => ?_
        obtain ⟨x, hx, rfl⟩ := List.mem_map.mp hd
        have hx1 : x.length ≤ 1000 := by
          have hx2 := (List.mergeSort_perm (m.map fun p => kS p.1) leS).mem_iff.mp hx
          obtain ⟨p, hp, rfl⟩ := List.mem_map.mp hx2
          obtain ⟨z, i, rfl, hz⟩ := hm.sh p hp
          exact hz
        (repeat' (first | infer_instance | fail))
        refine set_at hm.nd (by omega) rfl ?_
        (repeat' (first | infer_instance | fail))
        exact k _ _ (put_spots hm hx1 (by omega)) hb
      · exact k _ _ hm hb
    · exact k _ _ hm hb
theorem bentc_ok (H : H03 Q) (n : Nat) {b : T} {l : List (Key × D)} {K : Cr → Prop} (hb : Bag b) (hl : Links l) (hle : l.length ≤ 290)
    (k : ∀ l' b', Links l' → Bag b' → K (.ok (.dK (kT l')) [some b', some (.sh (.dK l))])) : WC (callN Q (n + 3)) ("", "_law_bent_cells") [b, .sh (.dK l)] K := by
  have hsz : sizeLine = 16777216 := rfl
  refine wc_fn H.bentc ⟨rfl, rfl, by decide⟩ ?_
  dsimp only [l_map0, l_map1, l_set0, l_set1, l_app0, l_app1, l_rep0, l_rep1, finOf, back, E.bors, E.bor1, Int.reduceToNat, Nat.reduceSub, Nat.reduceAdd, l_len0, l_len1, l_get0, l_get1, asI, asB, asD, T.toD, Ts.toD, wipe1, unwipe, slot, tI, MP.tB, tS, Tg.slots]
  (repeat' (first | infer_instance | fail))
  refine pull_ok H.pull _ hb (by omega) (by omega) fun f1 b h1 h2 hb => ?_
  (repeat' ((fail_if_success refine ws_mid (a := (.ite _ _ _)) (fun _ => True) ?_ ?_); first | infer_instance | fail))
  generalize hF : [D.int 1, D.int (10 ^ 9), D.int (10 ^ 9 + 1), D.int 0, D.int (-1), D.int (-2 - f1)] = far
  have far1 : ∀ d ∈ far, ∃ i : Int, d = .int i := fun d hd => by
    rw [← hF] at hd
    simp only [List.mem_cons, List.not_mem_nil, or_false] at hd
    rcases hd with rfl | rfl | rfl | rfl | rfl | rfl <;> exact ⟨_, rfl⟩
  have far2 : far ≠ [] := by rw [← hF]; simp
  have far3 : far.length < 2 ^ 64 := by rw [← hF]; simp
  clear hF
  (repeat' (first | infer_instance | fail))
  refine pull_ok H.pull _ hb (by omega) (by omega) fun i b h1 h2 hb => ?_
  (repeat' (first | infer_instance | fail))
  · refine one_of_ok H.pull H.one _ hb (by simp) (by simp) fun d b hd hb => ?_
    obtain ⟨y, rfl⟩ : ∃ y : Int, d = .int y := by
      simp only [List.mem_cons, List.not_mem_nil, or_false] at hd
      rcases hd with rfl | rfl | rfl | rfl | rfl <;> exact ⟨_, rfl⟩
    (repeat' (first | infer_instance | fail))
    refine one_of_ok H.pull H.one _ hb far2 far3 fun d b hd hb => ?_
    obtain ⟨x, rfl⟩ := far1 d hd
    (repeat' (first | infer_instance | fail))
    refine set_at hl.nd (by omega) rfl ?_
    (repeat' (first | infer_instance | fail))
    exact k _ _ (put_links hl (by omega)) hb
  · exact k _ _ hl hb
/-- a heap looked at -/
theorem seen_ok (H : H03 Q) (n : Nat) {l : List (Key × D)} {es : List (Int × Int)} {K : Cr → Prop} (hl : Spots l) (h40 : l.length ≤ 40) (hn : ∀ p ∈ l, p.1 ≠ .inr "nil") (hc : Links (cK es))
    (k : ∀ l2, l2.Perm l → K (.ok (.tup [.sh (.dK l2), .dK (kT (cK (sortE es)))]) [some (.sh (heapD l (cK es)))])) : WC (callN Q (n + 2)) ("", "_law_seen") [.sh (heapD l (cK es))] K := by
  have hsz : sizeLine = 16777216 := rfl
  generalize hL : sortS (l.map fun p => kS p.1) = L
  have pL : L.Perm (l.map fun p => kS p.1) := by rw [← hL]; exact List.mergeSort_perm _ _
  have inj : (l.map fun p => kS p.1).Nodup := by
    have h := hl.nd
    unfold DOk at h
    have e : l.map (fun p => p.1) = (l.map fun p => kS p.1).map Sum.inr := by
      rw [List.map_map]
      refine List.map_congr_left fun p hp => ?_
      obtain ⟨x, i, rfl, _⟩ := hl.sh p hp
      rfl
    rw [e] at h
    exact (List.pairwise_map.mp h).imp fun hne e => hne (by rw [e])
  have nL : L.Nodup := pL.nodup_iff.mpr inj
  have inL : ∀ x ∈ L, ∃ i : Int, ((.inr x, .int i) : Key × D) ∈ l := fun x hx => by
    obtain ⟨p, hp, rfl⟩ := List.mem_map.mp (pL.mem_iff.mp hx)
    obtain ⟨z, i, rfl, _⟩ := hl.sh p hp
    exact ⟨i, hp⟩
  have lL : L.length ≤ 40 := by
    have := pL.length_eq
    rw [List.length_map] at this
    omega
  have fin : ((L.map fun x => ((.inr x, at_ l (.inr x)) : Key × D))).Perm l := by
    have h1 := pL.map fun x => ((.inr x, at_ l (.inr x)) : Key × D)
    rw [List.map_map] at h1
    have h2 : l.map ((fun x => ((.inr x, at_ l (.inr x)) : Key × D)) ∘ fun p => kS p.1) = l := by
      conv => rhs; rw [← List.map_id l]
      refine List.map_congr_left fun p hp => ?_
      obtain ⟨x, i, rfl, _⟩ := hl.sh p hp
      show ((Sum.inr x, at_ l (.inr x)) : Key × D) = (Sum.inr x, D.int i)
      rw [show at_ l (.inr x) = .int i from at_mem hl.nd hp]
    rw [h2] at h1
    exact h1
  have dC : DOk (cK (sortE es)) := by
    have h := hc.nd
    unfold DOk at h ⊢
    exact ((cK_perm sortE_perm).map _).nodup_iff.mpr h
  refine wc_fn H.seen ⟨rfl, rfl, by decide⟩ ?_
  dsimp only [l_map0, l_map1, l_set0, l_set1, l_app0, l_app1, l_rep0, l_rep1, finOf, back, E.bors, E.bor1, Int.reduceToNat, Nat.reduceSub, Nat.reduceAdd, l_len0, l_len1, l_get0, l_get1, asI, asB, asD, T.toD, Ts.toD, wipe1, unwipe, slot, tI, MP.tB, tS, Tg.slots]
  (repeat' (first | infer_instance | fail))
  refine hnames_ok H.toHeapFns _ hl h40 ?_
  rw [hL]
  (repeat' (first | infer_instance | fail))
  refine for_inv (fun ds r => ∃ P S x, L = P ++ S ∧ ds = S.map D.str ∧ r = [some (.sh (heapD l (cK es))), some (.dK (kT (P.map fun x => (.inr x, at_ l (.inr x))))), x]) ⟨[], L, none, rfl, rfl, rfl⟩ ?_ ?_
  · rintro _ ⟨P, S, x, e1, e2, rfl⟩
    have hS : S = [] := by simpa using e2.symm
    subst hS
    rw [List.append_nil] at e1
    subst e1
    (repeat' (first | infer_instance | fail))
    refine hcells_ok H.toHeapFns _ ?_
    (repeat' (first | infer_instance | fail))
    refine dictP_K pairsD_cK dC ?_
    (repeat' (first | infer_instance | fail))
    exact k _ fin
  · rintro d ds _ ⟨P, S, x, e1, e2, rfl⟩
    cases S with
    | nil => simp at e2
    | cons y S =>
      rw [List.map_cons] at e2
      injection e2 with e2 e3
      subst e2 e3
      have hy : y ∈ L := by rw [e1]; simp
      obtain ⟨i, hi⟩ := inL y hy
      have e : at_ l (.inr y) = .int i := at_mem hl.nd hi
      have ny : y ≠ "nil" := fun q => hn _ hi (by rw [q])
      have nP : ∀ z ∈ P, z ≠ y := fun z hz q => by
        rw [e1] at nL
        exact (List.nodup_append.mp nL).2.2 z hz y List.mem_cons_self q
      have dP : DOk (P.map fun x => ((.inr x, at_ l (.inr x)) : Key × D)) := by
        unfold DOk
        rw [List.map_map]
        rw [e1] at nL
        exact List.pairwise_map.mpr ((List.nodup_append.mp nL).1.imp fun hne q => hne (by injection q))
      have lP : P.length ≤ 40 := by
        have := congrArg List.length e1
        simp at this
        omega
      (repeat' (first | infer_instance | fail))
      refine hplace_ok H.toHeapFns _ (p := (.inr y, .int i)) hl hi ny ?_
      (repeat' (first | infer_instance | fail))
      refine set_at dP (by simp; omega) rfl ?_
      rw [putD_new (fun p hp q => by
        obtain ⟨z, hz, rfl⟩ := List.mem_map.mp hp
        injection q with q
        exact nP z hz q)]
      (repeat' (first | infer_instance | fail))
      refine ⟨P ++ [y], S, some (.sh (.str y)), by rw [e1]; simp, rfl, ?_⟩
      rw [List.map_append]
      show _ = [_, some (T.dK (kT (_ ++ [((.inr y, at_ l (.inr y)) : Key × D)]))), _]
      rw [e]
/-! ### the law -/
def WN (k : Nat) : Str := Str.ofString "v" ++ Str.ofString (toString ((0 : Int) + (k : Int) + 1))
theorem WN_facts : ∀ k : Fin 42, CR (WN k.val) = 118 :: digits (k.val + 1) ∧ (WN k.val).length ≤ 3 := by decide +kernel
theorem WN_inj {j k : Nat} (hj : j < 42) (hk : k < 42) (h : WN j = WN k) : j = k := by
  have h1 := (WN_facts ⟨j, hj⟩).1
  have h2 := (WN_facts ⟨k, hk⟩).1
  have h3 : digits (j + 1) = digits (k + 1) := by
    have : CR (WN j) = CR (WN k) := by rw [h]
    rw [h1, h2] at this
    injection this
  unfold digits at h3
  split at h3 <;> split at h3 <;> (injection h3 with a b; first | omega | (injection b with c; omega) | cases b)
theorem frz_ts {ts : List T} (h : ∀ t ∈ ts, t.free = true) : frz (.lst ts) = some (.lst (ts.map T.toD)) := by
  have h1 : Ts.free ts = true := by
    induction ts with
    | nil => rfl
    | cons t r ih => simp only [Ts.free, h t List.mem_cons_self, ih fun x hx => h x (List.mem_cons_of_mem _ hx), Bool.and_self]
  have h2 : Ts.toD ts = ts.map T.toD := by
    clear h h1
    induction ts with
    | nil => rfl
    | cons t r ih => simp only [Ts.toD, ih, List.map_cons]
  simp only [frz, T.free, h1, if_true, T.toD, h2]
theorem pairsD_map {f : Nat → Key} {g : Nat → Int} : ∀ {ks : List Nat}, pairsD (ks.map fun k => .tup [keyD (f k), .int (g k)]) = some (ks.map fun k => (f k, .int (g k)))
  | [] => rfl
  | k :: r => by
    rw [List.map_cons, List.map_cons]
    have e : keyOf (.sh (keyD (f k))) = some (f k) := by cases f k <;> rfl
    unfold pairsD
    rw [e, pairsD_map]
theorem frz_due {xs : List D} {es : List (Int × Int)} {d : D} : frz (.lst [.lst (xs.map .sh), .lst (es.map pairT), .sh d]) = some (.lst [.lst xs, .lst (es.map fun p => .tup [.int p.1, .int p.2]), d]) := by
  have h1 : ∀ l : List (Int × Int), Ts.free (l.map pairT) = true := fun l => by induction l <;> simp_all [Ts.free, T.free, pairT]
  have h2 : ∀ l : List (Int × Int), Ts.toD (l.map pairT) = l.map fun p => .tup [.int p.1, .int p.2] := fun l => by induction l <;> simp_all [Ts.toD, T.toD, pairT]
  simp [frz, T.free, Ts.free, T.toD, Ts.toD, free_shs, toD_shs, h1, h2]
instance i_frz_due {xs : List D} {es : List (Int × Int)} {d : D} {K : D → Prop} : Step (Sm (frz (.lst [.lst (xs.map .sh), .lst (es.map pairT), .sh d])) K) (K (.lst [.lst xs, .lst (es.map fun p => .tup [.int p.1, .int p.2]), d])) := ⟨fun k => .of frz_due k⟩
instance i_frz_heap {l c : List (Key × D)} {K : D → Prop} : Step (Sm (frz (heapT l c)) K) (K (heapD l c)) := ⟨fun k => .of rfl k⟩
instance i_frz_seen {a : D} {c : List (Key × D)} {K : D → Prop} : Step (Sm (frz (.tup [.sh a, .dK (kT c)])) K) (K (.tup [a, .dK c])) := ⟨fun k => .of (by simp [frz, T.free, Ts.free, kT_free, T.toD, Ts.toD, kT_toD]) k⟩
theorem frz_bent {l c : List (Key × D)} : frz (.tup [.dK (kT l), .dK (kT c)]) = some (.tup [.dK l, .dK c]) := by simp [frz, T.free, Ts.free, kT_free, T.toD, Ts.toD, kT_toD]
instance i_frz_bent {l c : List (Key × D)} {K : D → Prop} : Step (Sm (frz (.tup [.dK (kT l), .dK (kT c)])) K) (K (.tup [.dK l, .dK c])) := ⟨fun k => .of frz_bent k⟩
/-- the pairs of rising keys -/
theorem due_eq {es : List (Int × Int)} (h : DOk (cK es)) : ((sortI ((cK es).map fun p => kI p.1)).map D.int).map (fun d => T.tup [.sh d, .sh (at_ (cK es) (.inl (dI d)))]) = (sortE es).map pairT := by
  rw [cK_keys, ← sortE_fst, List.map_map, List.map_map]
  refine List.map_congr_left fun p hp => ?_
  have hm : ((.inl p.1, .int p.2) : Key × D) ∈ cK es := List.mem_map.mpr ⟨p, sortE_perm.mem_iff.mp hp, rfl⟩
  have e : at_ (cK es) (.inl p.1) = .int p.2 := at_mem h hm
  show T.tup [.sh (.int p.1), .sh (at_ (cK es) (.inl p.1))] = _
  rw [e]
  rfl
theorem good_nil {l : List (Key × D)} (h : goodS l = true) : ∀ p ∈ l, p.1 ≠ .inr "nil" := fun p hp e => by
  unfold goodS at h
  rw [Bool.and_eq_true, List.all_eq_true] at h
  have := h.2 p hp
  rw [e] at this
  rw [show kS (.inr "nil") = "nil" from rfl, isN_nil] at this
  cases this
theorem good_40 {l : List (Key × D)} (h : goodS l = true) : l.length ≤ 40 := by
  unfold goodS at h
  rw [Bool.and_eq_true] at h
  exact of_decide_eq_true h.1
theorem hnamesT_ok (H : HeapFns Q) (n : Nat) {K : Cr → Prop} (k : ∀ o, K (.ok (.lst []) o)) : WC (callN Q (n + 1)) ("Heap", "names") [heapT [] []] K := by
  refine wc_fn H.hnames ⟨rfl, rfl, by decide⟩ ?_
  unfold heapT at *
  dsimp only [l_map0, l_map1, l_set0, l_set1, l_app0, l_app1, l_rep0, l_rep1, finOf, back, E.bors, E.bor1, Int.reduceToNat, Nat.reduceSub, Nat.reduceAdd, l_len0, l_len1, l_get0, l_get1, asI, asB, asD, T.toD, Ts.toD, wipe1, unwipe, slot, tI, MP.tB, tS, Tg.slots]
  (repeat' (first | infer_instance | fail))
  have e : List.map (fun i => T.sh (D.str i)) (sortS []) = [] := by simp [sortS]
  rw [e]
  exact k _
theorem hcellsT_ok (H : HeapFns Q) (n : Nat) {K : Cr → Prop} (k : ∀ o, K (.ok (.lst []) o)) : WC (callN Q (n + 1)) ("Heap", "cells") [heapT [] (cK [])] K := by
  refine wc_fn H.hcells ⟨rfl, rfl, by decide⟩ ?_
  unfold heapT at *
  dsimp only [l_map0, l_map1, l_set0, l_set1, l_app0, l_app1, l_rep0, l_rep1, finOf, back, E.bors, E.bor1, Int.reduceToNat, Nat.reduceSub, Nat.reduceAdd, l_len0, l_len1, l_get0, l_get1, asI, asB, asD, T.toD, Ts.toD, wipe1, unwipe, slot, tI, MP.tB, tS, Tg.slots]
  (repeat' (first | infer_instance | fail))
  have e : (sortE ([] : List (Int × Int))).map pairT = [] := by simp [sortE]
  rw [e]
  exact k _
end PL
/-! P03: heaps made. -/
namespace PL
open PySem PySem.Spec PyProof.Rows L2 MP
local macro_rules | `(tactic| infer_instance) => `(tactic| (first
  | refine Step.h ?_
  | refine Sm.mk1 ?_
  | (refine Br.mk (fun h => ?_) (fun h => ?_) <;> first | contradiction | replace h := of_decide_eq_true h | replace h := of_decide_eq_false h | skip)
  | refine Sc.mk (by first | decide | rfl | omega | exact log_ok (by omega) (by omega) (by omega) (by omega) | exact log_s (by omega) (by omega) | exact And.intro (by omega) (by omega)) ?_
  | fail); try dsimp only [l_map0, l_map1, l_set0, l_set1, l_app0, l_app1, l_rep0, l_rep1, finOf, back, E.bors, E.bor1, Int.reduceToNat, Nat.reduceSub, Nat.reduceAdd, l_len0, l_len1, l_get0, l_get1, asI, asB, asD, T.toD, Ts.toD, wipe1, unwipe, slot, tI, MP.tB, tS, Tg.slots])
variable {Q : Fk → Option Fn}
local instance (priority := high) i_dnewK03 {C : Ct} {r : Env1} {K : Rs T → Prop} : Step (WE C .dnew r K) (K (.ok (.dK (kT [])) r)) := ⟨we_dnew⟩
theorem law03 (H : H03 Q) {ns : List Int} {K : Cr → Prop} (hn : ns.length ≤ 63) (k : ∀ fin, K (.ok (.sh (.bl true)) fin)) : WC (callN Q 14) ("", "law") [.sh (.scr ns)] K := by
  have hsz : sizeLine = 16777216 := rfl
  have lv : (Str.ofString "v").length = 1 := by decide +kernel
  refine wc_fn H.law ⟨rfl, rfl, by decide⟩ ?_
  dsimp only [l_map0, l_map1, l_set0, l_set1, l_app0, l_app1, l_rep0, l_rep1, finOf, back, E.bors, E.bor1, Int.reduceToNat, Nat.reduceSub, Nat.reduceAdd, l_len0, l_len1, l_get0, l_get1, asI, asB, asD, T.toD, Ts.toD, wipe1, unwipe, slot, tI, MP.tB, tS, Tg.slots]
  (repeat' (first | infer_instance | fail))
  refine bag_ok H.bag _ hn fun b hb => ?_
  (repeat' (first | infer_instance | fail))
  refine for_inv (fun ds r => ∃ b x2 x3 x4 x5 x6 x7, r = [some (.sh (.scr ns)), some b, x2, x3, x4, x5, x6, x7, none, none] ∧ Bag b ∧ ∀ d ∈ ds, ∃ i, d = .int i) ⟨_, _, _, _, _, _, _, rfl, hb, fun d hd => ?_⟩ ?_ ?_
  · obtain ⟨j, _, rfl⟩ := List.mem_map.mp hd; exact ⟨_, rfl⟩
  · rintro _ ⟨b, x2, x3, x4, x5, x6, x7, rfl, hb, _⟩
    (repeat' (first | infer_instance | fail))
    refine init_ok H.toHeapFns _ (l := []) (c := []) (.inl ⟨rfl, rfl⟩) (.inl ⟨rfl, rfl⟩) nil_spots nil_links (fun _ => ?_) (fun h => by cases h)
    (repeat' (first | infer_instance | fail))
    refine hnamesT_ok H.toHeapFns _ fun o => ?_
    (repeat' (first | infer_instance | fail))
    refine init_ok H.toHeapFns _ (l := []) (c := []) (.inr rfl) (.inr rfl) nil_spots nil_links (fun _ => ?_) (fun h => by cases h)
    (repeat' (first | infer_instance | fail))
    refine hcellsT_ok H.toHeapFns _ fun o => ?_
    (repeat' (first | infer_instance | fail))
    have g2 : (goodS [((.inr "x", .int 2) : Key × D)] && goodL []) = true := by decide +kernel
    refine init_ok H.toHeapFns _ (l := [(.inr "x", .int 2)]) (c := []) (.inr rfl) (.inl ⟨rfl, rfl⟩) ⟨by simp [DOk], fun p hp => ?_, by simp⟩ nil_links (fun _ => ?_) (fun h => by rw [g2] at h; cases h)
    · simp only [List.mem_cons, List.not_mem_nil, or_false] at hp
      exact ⟨_, _, hp, by decide +kernel⟩
    (repeat' (first | infer_instance | fail))
    refine hlen_ok H.toHeapFns _ ?_
    (repeat' (first | infer_instance | fail))
    have hP : Pl 2 (.lst [.lst [], .lst [], .int 0]) := by
      refine .lst _ (by decide) fun d hd => ?_
      simp only [List.mem_cons, List.not_mem_nil, or_false] at hd
      rcases hd with rfl | rfl | rfl
      · exact .lst _ (by decide) fun d hd => by cases hd
      · exact .lst _ (by decide) fun d hd => by cases hd
      · exact .int _
    refine same_ok H.same 10 2 hP hP ?_
    rw [eqD_iff.mpr (show D.lst [D.lst [], D.lst [], D.int (((0 : Nat) : Int))] = D.lst [D.lst [], D.lst [], D.int 0] from rfl)]
    (repeat' (first | infer_instance | fail))
    exact k _
  · rintro d ds _ ⟨b, x2, x3, x4, x5, x6, x7, rfl, hb, hd⟩
    obtain ⟨i, rfl⟩ := hd d List.mem_cons_self
    (repeat' (first | infer_instance | fail))
    refine pull_ok H.pull _ hb (by omega) (by omega) fun many b h1 h2 hb => ?_
    (repeat' (first | infer_instance | fail))
    refine names_ok H.pull H.one H.names _ hb (by omega) (by omega) fun N b lN hN hb => ?_
    (repeat' (first | infer_instance | fail))
    refine heap_ok H _ hb (by omega) (fun x hx => by have := told_len (hN x hx); omega) fun l c b hl hc ll lc hb => ?_
    (repeat' ((fail_if_success refine ws_mid (a := (.ite _ _ _)) (fun _ => True) ?_ ?_); first | infer_instance | fail))
    refine ws_mid (fun r => ∃ b l c, r = [some (.sh (.scr ns)), some b, some (.sh (.int i)), x3, x4, some (.sh (.dK l)), some (.sh (.dK c)), x7, none, none] ∧ Bag b ∧ Spots l ∧ Links c) ?_ ?_
    · (repeat' (first | infer_instance | fail))
      refine pull_ok H.pull _ hb (by omega) (by omega) fun q b h1 h2 hb => ?_
      (repeat' (first | infer_instance | fail))
      · refine bentn_ok H _ hb hl (by omega) fun l b hl hb => ?_
        (repeat' (first | infer_instance | fail))
        refine bentc_ok H _ hb hc (by omega) fun c b hc hb => ?_
        (repeat' (first | infer_instance | fail))
        exact ⟨_, _, _, rfl, hb, hl, hc⟩
      · exact ⟨_, _, _, rfl, hb, hl, hc⟩
    clear hl hc ll lc hb l c b
    rintro _ ⟨b, l, c, rfl, hb, hl, hc⟩
    (repeat' ((fail_if_success refine ws_mid (a := (.ite _ _ _)) (fun _ => True) ?_ ?_); first | infer_instance | fail))
    refine ws_mid (fun r => ∃ b l c, r = [some (.sh (.scr ns)), some b, some (.sh (.int i)), x3, x4, some (.sh (.dK l)), some (.sh (.dK c)), x7, none, none] ∧ Bag b ∧ Spots l ∧ Links c) ?_ ?_
    · (repeat' (first | infer_instance | fail))
      refine pull_ok H.pull _ hb (by omega) (by omega) fun q b h1 h2 hb => ?_
      (repeat' (first | infer_instance | fail))
      · refine pull_ok H.pull _ hb (by omega) (by omega) fun q b h1 h2 hb => ?_
        (repeat' (first | infer_instance | fail))
        refine WLc.map (fun d => .tup [.sh (.str (Str.ofString "v" ++ Str.ofString (toString (dI d + 1)))), .sh d]) rfl (by simp; omega) (fun d hd => ?_) ?_
        · obtain ⟨j, hj, rfl⟩ := List.mem_map.mp hd
          have hj : j < (39 + q).toNat := by simpa using hj
          have l1 := str_len' (i := 0 + (j : Int) + 1) (by omega) (by omega)
          (repeat' (first | infer_instance | fail))
          rfl
        · generalize hm : (39 + q).toNat = m
          have m1 : m ≤ 41 := by omega
          have e : (List.map (fun d => T.tup [.sh (.str (Str.ofString "v" ++ Str.ofString (toString (dI d + 1)))), .sh d]) (List.map (fun (k : Nat) => D.int (0 + (k : Int))) (List.range m))).map T.toD = (List.range m).map fun (k : Nat) => .tup [keyD (.inr (WN k)), .int (0 + (k : Int))] := by
            rw [List.map_map, List.map_map]
            rfl
          have nd : DOk ((List.range m).map fun (k : Nat) => ((.inr (WN k), .int (0 + (k : Int))) : Key × D)) := by
            unfold DOk
            rw [List.map_map]
            refine List.pairwise_map.mpr (List.nodup_range.imp_of_mem fun {a b} ha hb hne q => hne ?_)
            exact WN_inj (by have := List.mem_range.mp ha; omega) (by have := List.mem_range.mp hb; omega) (by injection q)
          (repeat' (first | infer_instance | fail))
          refine .of (frz_ts fun t ht => by obtain ⟨d, _, rfl⟩ := List.mem_map.mp ht; rfl) ?_
          rw [e]
          refine dictP_K pairsD_map nd ?_
          (repeat' (first | infer_instance | fail))
          refine ⟨_, _, _, rfl, hb, ⟨nd, fun p hp => ?_, by simp; omega⟩, hc⟩
          obtain ⟨j, hj, rfl⟩ := List.mem_map.mp hp
          exact ⟨_, _, rfl, by have := (WN_facts ⟨j, by have := List.mem_range.mp hj; omega⟩).2; simp at this; omega⟩
      · exact ⟨_, _, _, rfl, hb, hl, hc⟩
    clear hl hc hb l c b
    rintro _ ⟨b, l, c, rfl, hb, hl, hc⟩
    (repeat' ((fail_if_success refine ws_mid (a := (.ite _ _ _)) (fun _ => True) ?_ ?_); first | infer_instance | fail))
    refine ws_mid (fun r => ∃ b l c, r = [some (.sh (.scr ns)), some b, some (.sh (.int i)), x3, x4, some (.sh (.dK l)), some (.sh (.dK c)), x7, none, none] ∧ Bag b ∧ Spots l ∧ Links c) ?_ ?_
    · (repeat' (first | infer_instance | fail))
      refine pull_ok H.pull _ hb (by omega) (by omega) fun q b h1 h2 hb => ?_
      (repeat' (first | infer_instance | fail))
      · refine pull_ok H.pull _ hb (by omega) (by omega) fun q b h1 h2 hb => ?_
        (repeat' (first | infer_instance | fail))
        refine WLc.map (fun d => .tup [.sh (.int (dI d + 1)), .sh d]) rfl (by simp; omega) (fun d hd => ?_) ?_
        · obtain ⟨j, hj, rfl⟩ := List.mem_map.mp hd
          (repeat' (first | infer_instance | fail))
          rfl
        · generalize hm : (199 + q).toNat = m
          have m1 : m ≤ 201 := by omega
          have e : (List.map (fun d => T.tup [.sh (.int (dI d + 1)), .sh d]) (List.map (fun (k : Nat) => D.int (0 + (k : Int))) (List.range m))).map T.toD = (List.range m).map fun (k : Nat) => .tup [keyD (.inl (0 + (k : Int) + 1)), .int (0 + (k : Int))] := by
            rw [List.map_map, List.map_map]
            rfl
          have nd : DOk ((List.range m).map fun (k : Nat) => ((.inl (0 + (k : Int) + 1), .int (0 + (k : Int))) : Key × D)) := by
            unfold DOk
            rw [List.map_map]
            refine List.pairwise_map.mpr (List.nodup_range.imp fun {a b} hne q => hne ?_)
            have q2 : (0 : Int) + (a : Int) + 1 = 0 + (b : Int) + 1 := by injection q
            omega
          (repeat' (first | infer_instance | fail))
          refine .of (frz_ts fun t ht => by obtain ⟨d, _, rfl⟩ := List.mem_map.mp ht; rfl) ?_
          rw [e]
          refine dictP_K pairsD_map nd ?_
          (repeat' (first | infer_instance | fail))
          refine ⟨_, _, _, rfl, hb, hl, ⟨nd, fun p hp => ?_, by simp; omega⟩⟩
          obtain ⟨j, hj, rfl⟩ := List.mem_map.mp hp
          exact ⟨_, _, rfl⟩
      · exact ⟨_, _, _, rfl, hb, hl, hc⟩
    clear hl hc hb l c b
    rintro _ ⟨b, l, c, rfl, hb, hl, hc⟩
    obtain ⟨es, rfl⟩ := cK_of hc.sh
    have hle := hl.le
    have hce := hc.le
    (repeat' (first | infer_instance | fail))
    refine mheap_ok H _ hl hc (fun hg => ?_) (fun hg => ?_)
    · (repeat' (first | infer_instance | fail))
      refine lgood_ok H _ hl hc ?_
      rw [hg]
      (repeat' (first | infer_instance | fail))
      refine ne_lst2 hl.nd (List.Perm.refl _) hl.fl hc.nd (List.Perm.refl _) hc.fl ?_
      (repeat' (first | infer_instance | fail))
      refine set_at hl.nd (by omega) rfl ?_
      (repeat' (first | infer_instance | fail))
      refine set_at hc.nd (by omega) rfl ?_
      (repeat' (first | infer_instance | fail))
      have g1 : goodS l = true := by rw [Bool.and_eq_true] at hg; exact hg.1
      have l40 := good_40 g1
      refine sort_S rfl rfl hl.sk (by omega) ?_
      (repeat' (first | infer_instance | fail))
      refine sort_I rfl rfl hc.ik (by omega) ?_
      (repeat' (first | infer_instance | fail))
      refine WLc.map (fun d => .tup [.sh d, .sh (at_ (cK es) (.inl (dI d)))]) rfl ?_ (fun d hd => ?_) ?_
      · have := (List.mergeSort_perm ((cK es).map fun p => kI p.1) (fun a b => decide (a ≤ b))).length_eq
        rw [List.length_map]
        have e : (sortI ((cK es).map fun p => kI p.1)).length = (cK es).length := by simpa [sortI] using this
        omega
      · obtain ⟨a, ha, rfl⟩ := List.mem_map.mp hd
        have ha2 := (List.mergeSort_perm ((cK es).map fun p => kI p.1) (fun a b => decide (a ≤ b))).mem_iff.mp ha
        obtain ⟨p, hp, rfl⟩ := List.mem_map.mp ha2
        obtain ⟨x, y, rfl⟩ := hc.sh p hp
        have e : at_ (cK es) (.inl x) = .int y := at_mem hc.nd hp
        (repeat' (first | infer_instance | fail))
        refine idx_K hc.nd hp rfl ?_
        (repeat' (first | infer_instance | fail))
        show _ = Rs.ok (T.tup [.sh (.int x), .sh (at_ (cK es) (.inl x))]) _
        rw [e]
        rfl
      · rw [due_eq hc.nd]
        (repeat' (first | infer_instance | fail))
        refine hnames_ok H.toHeapFns _ hl l40 ?_
        (repeat' (first | infer_instance | fail))
        refine hcells_ok H.toHeapFns _ ?_
        (repeat' (first | infer_instance | fail))
        refine hlen_ok H.toHeapFns _ ?_
        refine Sm.mk1 ?_
        refine Sc.mk ⟨by omega, by omega⟩ ?_
        (repeat' (first | infer_instance | fail))
        have hlc : (cK es).length = es.length := List.length_map _
        have hle2 : (sortE es).length = es.length := sortE_perm.length_eq
        have hls : (sortS (l.map fun p => kS p.1)).length = l.length := by
          have := (List.mergeSort_perm (l.map fun p => kS p.1) leS).length_eq
          simpa [sortS] using this
        have hP : Pl 3 (.lst [.lst ((sortS (l.map fun p => kS p.1)).map D.str), .lst ((sortE es).map fun p => .tup [.int p.1, .int p.2]), .int (cK es).length]) := by
          refine .lst _ (by simp [hsz]) fun d hd => ?_
          simp only [List.mem_cons, List.not_mem_nil, or_false] at hd
          rcases hd with rfl | rfl | rfl
          · refine .lst _ (by rw [List.length_map, hls]; omega) fun d hd => ?_
            obtain ⟨x, _, rfl⟩ := List.mem_map.mp hd
            exact .str _
          · refine .lst _ (by rw [List.length_map, hle2]; omega) fun d hd => ?_
            obtain ⟨x, _, rfl⟩ := List.mem_map.mp hd
            refine .tup _ (by simp [hsz]) fun d hd => ?_
            simp only [List.mem_cons, List.not_mem_nil, or_false] at hd
            rcases hd with rfl | rfl <;> exact .int _
          · exact .int _
        refine same_ok H.same 9 3 hP hP ?_
        rw [eqD_iff.mpr rfl]
        (repeat' (first | infer_instance | fail))
        refine seen_ok H _ hl l40 (good_nil g1) hc fun l2 hp2 => ?_
        (repeat' (first | infer_instance | fail))
        refine ne_tup2 hl.nd hp2 (fun p hp => hl.fl p (hp2.mem_iff.mp hp)) hc.nd (cK_perm sortE_perm) (fun p hp => hc.fl p ((cK_perm sortE_perm).mem_iff.mp hp)) ?_
        (repeat' (first | infer_instance | fail))
        exact ⟨_, _, _, _, _, _, _, rfl, hb, fun d h => hd d (List.mem_cons_of_mem _ h)⟩
    · (repeat' (first | infer_instance | fail))
      refine lgood_ok H _ hl hc ?_
      rw [hg]
      (repeat' (first | infer_instance | fail))
      refine ne_lst2 hl.nd (List.Perm.refl _) hl.fl hc.nd (List.Perm.refl _) hc.fl ?_
      (repeat' (first | infer_instance | fail))
      refine set_at hl.nd (by omega) rfl ?_
      (repeat' (first | infer_instance | fail))
      refine set_at hc.nd (by omega) rfl ?_
      (repeat' (first | infer_instance | fail))
      exact ⟨_, _, _, _, _, _, _, rfl, hb, fun d h => hd d (List.mem_cons_of_mem _ h)⟩
end PL
namespace HT
open PySem PySem.W PySem.Spec PyProof.Rows L2 MP
def top (i : Nat) : Stmt := PySem.Challenge.pw_linkstead_k03_heaps_made.main.body.getD i (.Pass ⟨0, 0, 0, 0⟩)
def inClass (s : Stmt) (j : Nat) : Stmt := match s with
  | .ClassDef _ _ _ body _ _ _ _ _ _ _ => body.getD j (.Pass ⟨0, 0, 0, 0⟩)
  | _ => .Pass ⟨0, 0, 0, 0⟩
def f__wall : Fn := ⟨1, 1, [true],
  (.seq .stop
  .skip)⟩
def N__wall : List PySem.Str := ["k"]
def f_is_told : Fn := ⟨1, 2, [true],
  (.seq (.ret (.and (.chain .le .le (.lit (.int 1)) (.o1 .len (.var 0)) (.glo "LONGEST" (.int 6))) (.and (.o1 .allL (.lc (.var 1) (.iv (.p (.var 0))) .yes (.p (.o2 .inn (.var 1) (.glo "LETTERS" (.str "abcdefghijklmnopqrstuvwxyz")))))) (.p (.o2 .ne (.var 0) (.glo "NIL" (.str "nil")))))))
  .skip)⟩
def N_is_told : List PySem.Str := ["text", "sign"]
def f_is_made : Fn := ⟨1, 2, [true],
  (.seq (.ret (.and (.p (.o2 .eq (.o2 .sliceT (.var 0) (.lit (.int 1))) (.lit (.str "v")))) (.and (.chain .le .le (.lit (.int 2)) (.o1 .len (.var 0)) (.lit (.int 3))) (.and (.o1 .allL (.lc (.var 1) (.iv (.frE (.o2 .sliceF (.p (.var 0)) (.p (.lit (.int 1)))))) .yes (.p (.o2 .inn (.var 1) (.glo "FIGURES" (.str "0123456789")))))) (.p (.o2 .ne (.o2 .idx (.var 0) (.lit (.int 1))) (.lit (.str "0"))))))))
  .skip)⟩
def N_is_made : List PySem.Str := ["text", "sign"]
def f_is_name : Fn := ⟨1, 1, [true],
  (.seq (.ret (.or (.call ("", "is_told") (.cons (.p (.var 0)) .nil) []) (.call ("", "is_made") (.cons (.p (.var 0)) .nil) [])))
  .skip)⟩
def N_is_name : List PySem.Str := ["text"]
def f_is_place : Fn := ⟨1, 1, [true],
  (.seq (.ret (.chain .le .le (.lit (.int 0)) (.var 0) (.glo "FARTHEST" (.int 1000000000))))
  .skip)⟩
def N_is_place : List PySem.Str := ["number"]
def f_good_names : Fn := ⟨1, 2, [true],
  (.seq (.ite (.p (.o2 .gt (.o1 .len (.var 0)) (.glo "MOST_NAMES" (.int 40))))
  (.seq (.ret (.p (.lit (.bl false))))
  .skip)
  .skip)
  (.seq (.ret (.o1 .allL (.lc (.var 1) (.iv (.p (.var 0))) .yes (.and (.call ("", "is_name") (.cons (.p (.var 1)) .nil) []) (.call ("", "is_place") (.cons (.p (.o2 .idx (.var 0) (.var 1))) .nil) [])))))
  .skip))⟩
def N_good_names : List PySem.Str := ["names", "name"]
def f_good_cells : Fn := ⟨1, 2, [true],
  (.seq (.ite (.p (.o2 .gt (.o1 .len (.var 0)) (.glo "MOST_CELLS" (.int 200))))
  (.seq (.ret (.p (.lit (.bl false))))
  .skip)
  .skip)
  (.seq (.ret (.o1 .allL (.lc (.var 1) (.iv (.p (.var 0))) .yes (.and (.p (.o2 .gt (.var 1) (.lit (.int 0)))) (.and (.call ("", "is_place") (.cons (.p (.var 1)) .nil) []) (.call ("", "is_place") (.cons (.p (.o2 .idx (.var 0) (.var 1))) .nil) []))))))
  .skip))⟩
def N_good_cells : List PySem.Str := ["cells", "at"]
def f_Heap___init__ : Fn := ⟨3, 3, [true, true, true],
  (.seq (.setF 0 "spots" ["Heap"] (.frE (.ife (.p (.o1 .isN (.var 1))) .dnew (.n1 .dictD (.var 1)))))
  (.seq (.setF 0 "links" ["Heap"] (.frE (.ife (.p (.o1 .isN (.var 2))) .dnew (.n1 .dictD (.var 2)))))
  (.seq (.ite (.or (.not (.call ("", "good_names") (.cons (.p (.fld (.var 0) "spots" ["Heap"])) .nil) [])) (.not (.call ("", "good_cells") (.cons (.p (.fld (.var 0) "links" ["Heap"])) .nil) [])))
  (.seq (.rse "BadHeap")
  .skip)
  .skip)
  .skip)))⟩
def N_Heap___init__ : List PySem.Str := ["self", "names", "cells"]
def f_Heap___eq__ : Fn := ⟨2, 2, [true, true],
  (.seq .stop
  .skip)⟩
def N_Heap___eq__ : List PySem.Str := ["self", "other"]
def f_Heap___len__ : Fn := ⟨1, 1, [true],
  (.seq (.ret (.p (.o1 .len (.fld (.var 0) "links" ["Heap"]))))
  .skip)⟩
def N_Heap___len__ : List PySem.Str := ["self"]
def f_Heap___str__ : Fn := ⟨1, 5, [true],
  (.seq (.asg 1 (.frE (.lc (.var 3) (.iv (.frE (.n1 .sortL (.fld (.var 0) "spots" ["Heap"])))) .yes (.p (.fcons (.var 3) (.fcons (.lit (.str "=")) (.fcons (.o2 .idx (.fld (.var 0) "spots" ["Heap"]) (.var 3)) .fnil)))))))
  (.seq (.asg 2 (.frE (.lc (.var 4) (.iv (.frE (.n1 .sortL (.fld (.var 0) "links" ["Heap"])))) .yes (.p (.fcons (.var 4) (.fcons (.lit (.str ">")) (.fcons (.o2 .idx (.fld (.var 0) "links" ["Heap"]) (.var 4)) .fnil)))))))
  (.seq (.ret (.o2 .join (.p (.lit (.str " "))) (.o2 .add (.o2 .add (.p (.var 1)) (.lst (.cons (.p (.lit (.str "|"))) .nil))) (.p (.var 2)))))
  .skip)))⟩
def N_Heap___str__ : List PySem.Str := ["self", "named", "linked", "name", "at"]
def f_Heap___repr__ : Fn := ⟨1, 1, [true],
  (.seq (.ret (.p (.fcons (.lit (.str "Heap('")) (.fcons (.o1 .strI (.var 0)) (.fcons (.lit (.str "')")) .fnil)))))
  .skip)⟩
def N_Heap___repr__ : List PySem.Str := ["self"]
def f_Heap_place : Fn := ⟨2, 2, [true, true],
  (.seq (.ite (.p (.o2 .eq (.var 1) (.glo "NIL" (.str "nil"))))
  (.seq (.ret (.p (.lit (.int 0))))
  .skip)
  .skip)
  (.seq (.ite (.p (.o2 .nin (.var 1) (.fld (.var 0) "spots" ["Heap"])))
  (.seq .stop
  .skip)
  .skip)
  (.seq (.ret (.p (.o2 .idx (.fld (.var 0) "spots" ["Heap"]) (.var 1))))
  .skip)))⟩
def N_Heap_place : List PySem.Str := ["self", "name"]
def f_Heap_follow : Fn := ⟨2, 2, [true, true],
  (.seq (.ex (.call ("", "_wall") (.cons (.p (.lit (.int 0))) .nil) []))
  .skip)⟩
def N_Heap_follow : List PySem.Str := ["self", "at"]
def f_Heap_has_cell : Fn := ⟨2, 2, [true, true],
  (.seq (.ex (.call ("", "_wall") (.cons (.p (.lit (.int 1))) .nil) []))
  .skip)⟩
def N_Heap_has_cell : List PySem.Str := ["self", "at"]
def f_Heap_names : Fn := ⟨1, 1, [true],
  (.seq (.ret (.n1 .sortL (.fld (.var 0) "spots" ["Heap"])))
  .skip)⟩
def N_Heap_names : List PySem.Str := ["self"]
def f_Heap_cells : Fn := ⟨1, 1, [true],
  (.seq (.ret (.sortIt (.fld (.var 0) "links" ["Heap"])))
  .skip)⟩
def N_Heap_cells : List PySem.Str := ["self"]
def f_Heap_with_name : Fn := ⟨3, 3, [true, true, true],
  (.seq (.ex (.call ("", "_wall") (.cons (.p (.lit (.int 2))) .nil) []))
  .skip)⟩
def N_Heap_with_name : List PySem.Str := ["self", "name", "place"]
def f_Heap_with_cell : Fn := ⟨3, 3, [true, true, true],
  (.seq (.ex (.call ("", "_wall") (.cons (.p (.lit (.int 3))) .nil) []))
  .skip)⟩
def N_Heap_with_cell : List PySem.Str := ["self", "at", "to"]
def f_Heap_without : Fn := ⟨2, 2, [true, true],
  (.seq (.ex (.call ("", "_wall") (.cons (.p (.lit (.int 4))) .nil) []))
  .skip)⟩
def N_Heap_without : List PySem.Str := ["self", "at"]
def f_Heap_only : Fn := ⟨2, 2, [true, true],
  (.seq (.ex (.call ("", "_wall") (.cons (.p (.lit (.int 5))) .nil) []))
  .skip)⟩
def N_Heap_only : List PySem.Str := ["self", "names"]
def f_Heap_room : Fn := ⟨1, 1, [true],
  (.seq (.ex (.call ("", "_wall") (.cons (.p (.lit (.int 6))) .nil) []))
  .skip)⟩
def N_Heap_room : List PySem.Str := ["self"]
def f__law_bag : Fn := ⟨1, 3, [true],
  (.seq (.asg 1 (.p (.o2 .add (.o2 .mul (.o1 .len (.o2 .sliceT (.var 0) (.lit (.int 63)))) (.lit (.int 7919))) (.lit (.int 101)))))
  (.seq (.for (.var 2) (.iv (.frE (.o2 .sliceT (.p (.var 0)) (.p (.lit (.int 63))))))
  (.seq (.asg 1 (.p (.o2 .mod (.o2 .add (.o2 .add (.o2 .mul (.var 1) (.lit (.int 48271))) (.o2 .mod (.var 2) (.lit (.int 2147483629)))) (.lit (.int 13))) (.lit (.int 2147483647)))))
  .skip))
  (.seq (.ret (.lst (.cons (.o1 .listL (.o2 .sliceT (.p (.var 0)) (.p (.lit (.int 63))))) (.cons (.p (.lit (.int 0))) (.cons (.p (.lit (.int 0))) (.cons (.p (.var 1)) (.cons (.p (.lit (.int 0))) .nil)))))))
  .skip)))⟩
def N__law_bag : List PySem.Str := ["_law_script", "_law_seed", "_law_cell"]
def f__law_pull : Fn := ⟨2, 5, [true, true],
  (.seq (.setI 0 (.lit (.int 4)) (.p (.o2 .add (.o2 .idx (.var 0) (.lit (.int 4))) (.lit (.int 1)))))
  (.seq (.ite (.and (.p (.o2 .eq (.o2 .idx (.var 0) (.lit (.int 2))) (.lit (.int 0)))) (.p (.o2 .lt (.o2 .idx (.var 0) (.lit (.int 1))) (.o1 .len (.o2 .idx (.var 0) (.lit (.int 0)))))))
  (.seq (.asg 3 (.p (.o2 .idx (.o2 .idx (.var 0) (.lit (.int 0))) (.o2 .idx (.var 0) (.lit (.int 1))))))
  (.seq (.setI 0 (.lit (.int 1)) (.p (.o2 .add (.o2 .idx (.var 0) (.lit (.int 1))) (.lit (.int 1)))))
  (.seq (.ite (.p (.o2 .ge (.var 3) (.o2 .pow (.lit (.int 10)) (.lit (.int 18)))))
  (.seq (.setI 0 (.lit (.int 2)) (.p (.var 3)))
  .skip)
  (.seq (.setI 0 (.lit (.int 3)) (.p (.o2 .mod (.o2 .add (.o2 .add (.o2 .mul (.o2 .idx (.var 0) (.lit (.int 3))) (.lit (.int 40503))) (.o2 .mul (.o2 .mod (.var 3) (.lit (.int 2147483563))) (.lit (.int 69621)))) (.lit (.int 7))) (.lit (.int 2147483587)))))
  .skip))
  .skip)))
  .skip)
  (.seq (.ite (.p (.o2 .gt (.o2 .idx (.var 0) (.lit (.int 2))) (.lit (.int 0))))
  (.seq (.asg 4 (.p (.o2 .mod (.o2 .idx (.var 0) (.lit (.int 2))) (.var 1))))
  (.seq (.setI 0 (.lit (.int 2)) (.p (.o2 .fdiv (.o2 .idx (.var 0) (.lit (.int 2))) (.var 1))))
  (.seq (.ret (.p (.var 4)))
  .skip)))
  .skip)
  (.seq (.asg 2 (.p (.o2 .idx (.var 0) (.lit (.int 3)))))
  (.seq (.setI 0 (.lit (.int 3)) (.p (.o2 .mod (.o2 .add (.o2 .add (.o2 .add (.o2 .mul (.o2 .mod (.o2 .mul (.var 2) (.var 2)) (.lit (.int 2147483629))) (.lit (.int 16807))) (.o2 .mul (.var 2) (.lit (.int 48271)))) (.lit (.int 40692))) (.o2 .idx (.var 0) (.lit (.int 4)))) (.lit (.int 2147483587)))))
  (.seq (.ret (.p (.o2 .mod (.o2 .add (.o2 .fdiv (.o2 .idx (.var 0) (.lit (.int 3))) (.lit (.int 61))) (.o2 .mul (.o2 .mod (.o2 .idx (.var 0) (.lit (.int 3))) (.lit (.int 4093))) (.lit (.int 29)))) (.var 1))))
  .skip))))))⟩
def N__law_pull : List PySem.Str := ["_law_bag_here", "_law_many", "_law_seed", "_law_cell", "_law_got"]
def f__law_one_of : Fn := ⟨2, 2, [true, true],
  (.seq (.ret (.o2 .idx (.p (.var 1)) (.call ("", "_law_pull") (.cons (.bor 0) (.cons (.frE (.p (.o1 .len (.var 1)))) .nil)) [])))
  .skip)⟩
def N__law_one_of : List PySem.Str := ["_law_bag_here", "_law_some"]
def f__law_same : Fn := ⟨2, 4, [true, true],
  (.seq (.ite (.p (.o1 (.isinst ["list", "tuple"]) (.var 1)))
  (.seq (.ite (.or (.p (.o2 .ne (.o1 (.isinst ["list"]) (.var 0)) (.o1 (.isinst ["list"]) (.var 1)))) (.p (.o2 .ne (.o1 (.isinst ["tuple"]) (.var 0)) (.o1 (.isinst ["tuple"]) (.var 1)))))
  (.seq (.ret (.p (.lit (.bl false))))
  .skip)
  .skip)
  (.seq (.ret (.and (.p (.o2 .eq (.o1 .len (.var 0)) (.o1 .len (.var 1)))) (.o1 .allL (.lc (.cons (.var 2) (.cons (.var 3) .nil)) (.zip (.p (.var 0)) (.p (.var 1))) .yes (.call ("", "_law_same") (.cons (.p (.var 2)) (.cons (.p (.var 3)) .nil)) [])))))
  .skip))
  .skip)
  (.seq (.ite (.or (.p (.o1 .isN (.var 1))) (.p (.o1 .isN (.var 0))))
  (.seq (.ret (.and (.p (.o1 .isN (.var 0))) (.p (.o1 .isN (.var 1)))))
  .skip)
  .skip)
  (.seq (.ite (.or (.p (.o2 .ne (.o1 (.isinst ["bool"]) (.var 1)) (.o1 (.isinst ["bool"]) (.var 0)))) (.p (.o2 .ne (.o1 (.isinst ["int"]) (.var 1)) (.o1 (.isinst ["int"]) (.var 0)))))
  (.seq (.ret (.p (.lit (.bl false))))
  .skip)
  .skip)
  (.seq (.ret (.and (.p (.o2 .eq (.o1 (.isinst ["str"]) (.var 1)) (.o1 (.isinst ["str"]) (.var 0)))) (.p (.o2 .eq (.var 0) (.var 1)))))
  .skip))))⟩
def N__law_same : List PySem.Str := ["_law_found", "_law_due", "_law_one", "_law_other"]
def f__law_names : Fn := ⟨2, 11, [true, true],
  (.seq (.asg 2 (.frE (.lst (.cons (.p (.lit (.str "free"))) (.cons (.p (.lit (.str "cell"))) (.cons (.p (.lit (.str "call"))) (.cons (.p (.lit (.str "if"))) (.cons (.p (.lit (.str "end"))) (.cons (.p (.lit (.str "out"))) (.cons (.p (.lit (.str "off"))) (.cons (.p (.lit (.str "none"))) (.cons (.p (.lit (.str "hold"))) (.cons (.p (.lit (.str "given"))) (.cons (.p (.lit (.str "claim"))) (.cons (.p (.lit (.str "body"))) .nil)))))))))))))))
  (.seq (.asg 3 (.p (.lit (.str "abcdefghijklmnopqrstuvwxyz"))))
  (.seq (.unp (.cons (.var 7) (.cons (.var 8) .nil)) (.tup (.cons (.call ("", "_law_pull") (.cons (.bor 0) (.cons (.p (.lit (.int 26))) .nil)) []) (.cons (.call ("", "_law_pull") (.cons (.bor 0) (.cons (.p (.lit (.int 4))) .nil)) []) .nil))))
  (.seq (.ite (.p (.o2 .eq (.var 8) (.lit (.int 0))))
  (.seq (.asg 6 (.frE (.call ("", "_law_one_of") (.cons (.bor 0) (.cons (.frE (.lst (.cons (.p (.lit (.int 1))) (.cons (.p (.lit (.int 5))) (.cons (.p (.lit (.int 7))) (.cons (.p (.lit (.int 11))) .nil)))))) .nil)) [])))
  (.seq (.ret (.lc (.var 10) (.rng1 (.p (.var 1))) .yes (.p (.o2 .idx (.var 2) (.o2 .mod (.o2 .add (.var 7) (.o2 .mul (.var 6) (.var 10))) (.lit (.int 12)))))))
  .skip))
  .skip)
  (.seq (.ite (.and (.p (.o2 .eq (.var 8) (.lit (.int 1)))) (.and (.p (.o2 .eq (.o2 .mod (.var 7) (.lit (.int 2))) (.lit (.int 0)))) (.p (.o2 .lt (.var 1) (.lit (.int 7))))))
  (.seq (.asg 9 (.frE (.o2 .join (.p (.lit (.str ""))) (.lc (.var 10) (.rng1 (.p (.lit (.int 6)))) .yes (.p (.o2 .idx (.var 3) (.o2 .mod (.o2 .add (.var 7) (.var 10)) (.lit (.int 26)))))))))
  (.seq (.ret (.lc (.var 10) (.rng1 (.p (.var 1))) .yes (.o2 .sliceT (.p (.var 9)) (.p (.o2 .add (.var 10) (.lit (.int 1)))))))
  .skip))
  .skip)
  (.seq (.asg 4 (.frE (.call ("", "_law_one_of") (.cons (.bor 0) (.cons (.frE (.lst (.cons (.p (.lit (.str ""))) (.cons (.p (.lit (.str "q"))) (.cons (.p (.lit (.str "ab"))) (.cons (.p (.lit (.str "pear"))) (.cons (.p (.lit (.str "zzzzz"))) .nil))))))) .nil)) [])))
  (.seq (.asg 5 (.frE (.call ("", "_law_pull") (.cons (.bor 0) (.cons (.p (.o2 .add (.o1 .len (.var 4)) (.lit (.int 1)))) .nil)) [])))
  (.seq (.asg 6 (.frE (.call ("", "_law_one_of") (.cons (.bor 0) (.cons (.frE (.lst (.cons (.p (.lit (.int 1))) (.cons (.p (.lit (.int 3))) (.cons (.p (.lit (.int 5))) (.cons (.p (.lit (.int 7))) (.cons (.p (.lit (.int 9))) (.cons (.p (.lit (.int 11))) .nil)))))))) .nil)) [])))
  (.seq (.ret (.lc (.var 10) (.rng1 (.p (.var 1))) .yes (.o2 .add (.o2 .add (.o2 .sliceT (.p (.var 4)) (.p (.var 5))) (.p (.o2 .idx (.var 3) (.o2 .mod (.o2 .add (.var 7) (.o2 .mul (.var 6) (.var 10))) (.lit (.int 26)))))) (.o2 .sliceF (.p (.var 4)) (.p (.var 5))))))
  .skip)))))))))⟩
def N__law_names : List PySem.Str := ["_law_bag_here", "_law_many", "_law_words", "_law_letters", "_law_tail", "_law_at", "_law_step", "_law_start", "_law_way", "_law_word", "_law_k"]
def f__law_is_told : Fn := ⟨1, 3, [true],
  (.seq (.asg 1 (.p (.lit (.str "abcdefghijklmnopqrstuvwxyz"))))
  (.seq (.ret (.and (.chain .le .le (.lit (.int 1)) (.o1 .len (.var 0)) (.lit (.int 6))) (.and (.o1 .allL (.lc (.var 2) (.iv (.p (.var 0))) .yes (.p (.o2 .inn (.var 2) (.var 1))))) (.p (.o2 .ne (.var 0) (.lit (.str "nil")))))))
  .skip))⟩
def N__law_is_told : List PySem.Str := ["_law_text", "_law_letters", "_law_sign"]
def f__law_is_made : Fn := ⟨1, 2, [true],
  (.seq (.ret (.and (.p (.o2 .eq (.o2 .sliceT (.var 0) (.lit (.int 1))) (.lit (.str "v")))) (.o2 .inn (.o2 .sliceF (.p (.var 0)) (.p (.lit (.int 1)))) (.lc (.var 1) (.rng2 (.p (.lit (.int 1))) (.p (.lit (.int 100)))) .yes (.p (.o1 .strI (.var 1)))))))
  .skip)⟩
def N__law_is_made : List PySem.Str := ["_law_text", "_law_number"]
def f__law_is_term : Fn := ⟨1, 1, [true],
  (.seq (.ret (.or (.p (.o2 .eq (.var 0) (.lit (.str "nil")))) (.or (.call ("", "_law_is_told") (.cons (.p (.var 0)) .nil) []) (.call ("", "_law_is_made") (.cons (.p (.var 0)) .nil) []))))
  .skip)⟩
def N__law_is_term : List PySem.Str := ["_law_text"]
def f__law_seen : Fn := ⟨1, 3, [true],
  (.seq (.asg 1 .dnew)
  (.seq (.for (.var 2) (.iv (.frE (.meth "names" ["Heap"] (.p (.var 0)) .nil [])))
  (.seq (.setI 1 (.var 2) (.meth "place" ["Heap"] (.p (.var 0)) (.cons (.p (.var 2)) .nil) []))
  .skip))
  (.seq (.ret (.tup (.cons (.fz 1) (.cons (.o1 .dictP (.meth "cells" ["Heap"] (.p (.var 0)) .nil [])) .nil))))
  .skip)))⟩
def N__law_seen : List PySem.Str := ["_law_told", "_law_spots", "_law_name"]
def f__law_heap : Fn := ⟨3, 10, [true, true, true],
  (.seq (.asg 3 (.frE (.call ("", "_law_pull") (.cons (.bor 0) (.cons (.p (.o2 .add (.var 2) (.lit (.int 1)))) .nil)) [])))
  (.seq (.asg 4 (.frE (.call ("", "_law_one_of") (.cons (.bor 0) (.cons (.frE (.lst (.cons (.p (.lit (.int 1))) (.cons (.p (.lit (.int 1))) (.cons (.p (.lit (.int 3))) (.cons (.p (.o2 .pow (.lit (.int 10)) (.lit (.int 6)))) .nil)))))) .nil)) [])))
  (.seq (.asg 5 (.frE (.o2 .add (.lst (.cons (.p (.lit (.int 0))) .nil)) (.lc (.var 7) (.rng1 (.p (.o2 .add (.var 3) (.lit (.int 2))))) .yes (.p (.o2 .add (.lit (.int 1)) (.o2 .mul (.var 4) (.var 7))))))))
  (.seq (.asg 6 .dnew)
  (.seq (.for (.var 7) (.rng2 (.p (.lit (.int 1))) (.p (.o2 .add (.var 3) (.lit (.int 1)))))
  (.seq (.setI 6 (.o2 .idx (.var 5) (.var 7)) (.o2 .idx (.p (.var 5)) (.call ("", "_law_one_of") (.cons (.bor 0) (.cons (.frE (.lst (.cons (.p (.o2 .add (.var 7) (.lit (.int 1)))) (.cons (.call ("", "_law_pull") (.cons (.bor 0) (.cons (.p (.o2 .add (.var 3) (.lit (.int 3)))) .nil)) []) (.cons (.p (.lit (.int 0))) .nil))))) .nil)) [])))
  .skip))
  (.seq (.asg 8 .dnew)
  (.seq (.for (.var 9) (.iv (.p (.var 1)))
  (.seq (.setI 8 (.var 9) (.o2 .idx (.p (.var 5)) (.call ("", "_law_pull") (.cons (.bor 0) (.cons (.p (.o2 .add (.var 3) (.lit (.int 3)))) .nil)) [])))
  .skip))
  (.seq (.ret (.tup (.cons (.fz 8) (.cons (.fz 6) .nil))))
  .skip))))))))⟩
def N__law_heap : List PySem.Str := ["_law_bag_here", "_law_names_here", "_law_most", "_law_many", "_law_step", "_law_pool", "_law_links", "_law_k", "_law_spots", "_law_name"]
def f__law_made_heap : Fn := ⟨2, 2, [true, true],
  (.seq (.tryX (.seq (.ret (.new "Heap" (.cons (.bor 0) (.cons (.bor 1) .nil)) []))
  .skip)
  "BadHeap" ["BadHeap"] ["LinkError", "Missing", "NoPlace"] (.ret (.lit .non)))
  .skip)⟩
def N__law_made_heap : List PySem.Str := ["_law_spots", "_law_links"]
def f__law_bent_names : Fn := ⟨2, 4, [true, true],
  (.seq (.asg 2 (.n1 .dictD (.var 1)))
  (.seq (.asg 3 (.frE (.lst (.cons (.p (.lit (.int 0))) (.cons (.p (.o2 .pow (.lit (.int 10)) (.lit (.int 9)))) (.cons (.p (.o2 .add (.o2 .pow (.lit (.int 10)) (.lit (.int 9))) (.lit (.int 1)))) (.cons (.p (.o1 .neg (.lit (.int 1)))) (.cons (.o2 .sub (.p (.o1 .neg (.lit (.int 1)))) (.call ("", "_law_pull") (.cons (.bor 0) (.cons (.p (.o2 .pow (.lit (.int 10)) (.lit (.int 20)))) .nil)) [])) (.cons (.o2 .add (.p (.o2 .add (.o2 .pow (.lit (.int 10)) (.lit (.int 9))) (.lit (.int 1)))) (.call ("", "_law_pull") (.cons (.bor 0) (.cons (.p (.o2 .pow (.lit (.int 10)) (.lit (.int 20)))) .nil)) [])) .nil)))))))))
  (.seq (.ite (.k2 .eq (.call ("", "_law_pull") (.cons (.bor 0) (.cons (.p (.lit (.int 2))) .nil)) []) (.lit (.int 0)))
  (.seq (.setE 2 (.call ("", "_law_one_of") (.cons (.bor 0) (.cons (.frE (.lst (.cons (.p (.lit (.str "x"))) (.cons (.p (.lit (.str "v7"))) (.cons (.p (.lit (.str "nil"))) (.cons (.p (.lit (.str "A"))) (.cons (.p (.lit (.str "v100"))) (.cons (.p (.lit (.str "abcdefg"))) (.cons (.p (.lit (.str ""))) .nil))))))))) .nil)) []) (.p (.lit (.int 3))))
  .skip)
  .skip)
  (.seq (.ite (.and (.vk .ne 2 .dnew) (.k2 .eq (.call ("", "_law_pull") (.cons (.bor 0) (.cons (.p (.lit (.int 2))) .nil)) []) (.lit (.int 0))))
  (.seq (.setE 2 (.call ("", "_law_one_of") (.cons (.bor 0) (.cons (.frE (.n1 .sortL (.var 2))) .nil)) []) (.call ("", "_law_one_of") (.cons (.bor 0) (.cons (.p (.var 3)) .nil)) []))
  .skip)
  .skip)
  (.seq (.ret (.mv 2))
  .skip)))))⟩
def N__law_bent_names : List PySem.Str := ["_law_bag_here", "_law_spots", "_law_found", "_law_far"]
def f__law_bent_cells : Fn := ⟨2, 4, [true, true],
  (.seq (.asg 2 (.n1 .dictD (.var 1)))
  (.seq (.asg 3 (.frE (.lst (.cons (.p (.lit (.int 1))) (.cons (.p (.o2 .pow (.lit (.int 10)) (.lit (.int 9)))) (.cons (.p (.o2 .add (.o2 .pow (.lit (.int 10)) (.lit (.int 9))) (.lit (.int 1)))) (.cons (.p (.lit (.int 0))) (.cons (.p (.o1 .neg (.lit (.int 1)))) (.cons (.o2 .sub (.p (.o1 .neg (.lit (.int 2)))) (.call ("", "_law_pull") (.cons (.bor 0) (.cons (.p (.o2 .pow (.lit (.int 10)) (.lit (.int 20)))) .nil)) [])) .nil)))))))))
  (.seq (.ite (.k2 .eq (.call ("", "_law_pull") (.cons (.bor 0) (.cons (.p (.lit (.int 2))) .nil)) []) (.lit (.int 0)))
  (.seq (.setE 2 (.call ("", "_law_one_of") (.cons (.bor 0) (.cons (.p (.var 3)) .nil)) []) (.call ("", "_law_one_of") (.cons (.bor 0) (.cons (.frE (.lst (.cons (.p (.lit (.int 0))) (.cons (.p (.lit (.int 5))) (.cons (.p (.o1 .neg (.lit (.int 1)))) (.cons (.p (.o2 .pow (.lit (.int 10)) (.lit (.int 9)))) (.cons (.p (.o2 .add (.o2 .pow (.lit (.int 10)) (.lit (.int 9))) (.lit (.int 1)))) .nil))))))) .nil)) []))
  .skip)
  .skip)
  (.seq (.ret (.mv 2))
  .skip))))⟩
def N__law_bent_cells : List PySem.Str := ["_law_bag_here", "_law_links", "_law_found", "_law_far"]
def f__law_good : Fn := ⟨2, 4, [true, true],
  (.seq (.ite (.not (.o1 .allL (.lc (.var 2) (.iv (.p (.var 0))) .yes (.and (.call ("", "_law_is_term") (.cons (.p (.var 2)) .nil) []) (.and (.p (.o2 .ne (.var 2) (.lit (.str "nil")))) (.chain .le .le (.lit (.int 0)) (.o2 .idx (.var 0) (.var 2)) (.o2 .pow (.lit (.int 10)) (.lit (.int 9)))))))))
  (.seq (.ret (.p (.lit (.bl false))))
  .skip)
  .skip)
  (.seq (.ite (.not (.o1 .allL (.lc (.var 3) (.iv (.p (.var 1))) .yes (.and (.chain .le .le (.lit (.int 1)) (.var 3) (.o2 .pow (.lit (.int 10)) (.lit (.int 9)))) (.chain .le .le (.lit (.int 0)) (.o2 .idx (.var 1) (.var 3)) (.o2 .pow (.lit (.int 10)) (.lit (.int 9))))))))
  (.seq (.ret (.p (.lit (.bl false))))
  .skip)
  .skip)
  (.seq (.ret (.and (.p (.o2 .le (.o1 .len (.var 0)) (.lit (.int 40)))) (.p (.o2 .le (.o1 .len (.var 1)) (.lit (.int 200))))))
  .skip)))⟩
def N__law_good : List PySem.Str := ["_law_spots", "_law_links", "_law_name", "_law_at"]
def f_law : Fn := ⟨1, 10, [true],
  (.seq (.asg 1 (.call ("", "_law_bag") (.cons (.p (.var 0)) .nil) []))
  (.seq (.for (.var 2) (.rng1 (.p (.lit (.int 4))))
  (.seq (.unp (.cons (.var 5) (.cons (.var 6) .nil)) (.frE (.call ("", "_law_heap") (.cons (.bor 1) (.cons (.frE (.call ("", "_law_names") (.cons (.bor 1) (.cons (.frE (.call ("", "_law_pull") (.cons (.bor 1) (.cons (.p (.lit (.int 5))) .nil)) [])) .nil)) [])) (.cons (.p (.lit (.int 6))) .nil))) [])))
  (.seq (.ite (.k2 .eq (.call ("", "_law_pull") (.cons (.bor 1) (.cons (.p (.lit (.int 2))) .nil)) []) (.lit (.int 0)))
  (.seq (.unp (.cons (.var 5) (.cons (.var 6) .nil)) (.tup (.cons (.call ("", "_law_bent_names") (.cons (.bor 1) (.cons (.p (.var 5)) .nil)) []) (.cons (.call ("", "_law_bent_cells") (.cons (.bor 1) (.cons (.p (.var 6)) .nil)) []) .nil))))
  .skip)
  .skip)
  (.seq (.ite (.k2 .eq (.call ("", "_law_pull") (.cons (.bor 1) (.cons (.p (.lit (.int 6))) .nil)) []) (.lit (.int 0)))
  (.seq (.asg 5 (.frE (.o1 .dictP (.lc (.var 8) (.rng1 (.o2 .add (.p (.lit (.int 39))) (.call ("", "_law_pull") (.cons (.bor 1) (.cons (.p (.lit (.int 3))) .nil)) []))) .yes (.tup (.cons (.p (.o2 .add (.lit (.str "v")) (.o1 .strI (.o2 .add (.var 8) (.lit (.int 1)))))) (.cons (.p (.var 8)) .nil)))))))
  .skip)
  .skip)
  (.seq (.ite (.k2 .eq (.call ("", "_law_pull") (.cons (.bor 1) (.cons (.p (.lit (.int 6))) .nil)) []) (.lit (.int 0)))
  (.seq (.asg 6 (.frE (.o1 .dictP (.lc (.var 8) (.rng1 (.o2 .add (.p (.lit (.int 199))) (.call ("", "_law_pull") (.cons (.bor 1) (.cons (.p (.lit (.int 3))) .nil)) []))) .yes (.tup (.cons (.p (.o2 .add (.var 8) (.lit (.int 1)))) (.cons (.p (.var 8)) .nil)))))))
  .skip)
  .skip)
  (.seq (.asg 3 (.lst (.cons (.n1 .dictD (.var 5)) (.cons (.n1 .dictD (.var 6)) .nil))))
  (.seq (.asg 4 (.frE (.callP ("", "_law_made_heap") 3 2)))
  (.seq (.ite (.or (.o2 .eq (.p (.o1 .isN (.var 4))) (.call ("", "_law_good") (.cons (.p (.var 5)) (.cons (.p (.var 6)) .nil)) [])) (.vk .ne 3 (.lst (.cons (.p (.var 5)) (.cons (.p (.var 6)) .nil)))))
  (.seq (.ret (.p (.lit (.bl false))))
  .skip)
  .skip)
  (.seq (.setP 3 0 (.lit (.str "zzzz")) (.p (.lit (.int 4))))
  (.seq (.setP 3 1 (.lit (.int 7777)) (.p (.lit (.int 3))))
  (.seq (.ite (.p (.o1 .notN (.var 4)))
  (.seq (.asg 7 (.frE (.lst (.cons (.n1 .sortL (.var 5)) (.cons (.lc (.var 9) (.iv (.frE (.n1 .sortL (.var 6)))) .yes (.tup (.cons (.p (.var 9)) (.cons (.p (.o2 .idx (.var 6) (.var 9))) .nil)))) (.cons (.p (.o1 .len (.var 6))) .nil))))))
  (.seq (.ite (.or (.not (.call ("", "_law_same") (.cons (.frE (.lst (.cons (.meth "names" ["Heap"] (.p (.var 4)) .nil []) (.cons (.meth "cells" ["Heap"] (.p (.var 4)) .nil []) (.cons (.lenO ["Heap"] (.p (.var 4))) .nil))))) (.cons (.p (.var 7)) .nil)) [])) (.o2 .ne (.call ("", "_law_seen") (.cons (.p (.var 4)) .nil) []) (.tup (.cons (.p (.var 5)) (.cons (.p (.var 6)) .nil)))))
  (.seq (.ret (.p (.lit (.bl false))))
  .skip)
  .skip)
  .skip))
  .skip)
  .skip)))))))))))
  (.seq (.ret (.call ("", "_law_same") (.cons (.frE (.lst (.cons (.meth "names" ["Heap"] (.new "Heap" .nil [.non, .non]) .nil []) (.cons (.meth "cells" ["Heap"] (.new "Heap" (.cons .dnew (.cons .dnew .nil)) []) .nil []) (.cons (.lenO ["Heap"] (.new "Heap" (.cons (.dlit [((.inr "x"), .int 2)]) .nil) [.non])) .nil))))) (.cons (.frE (.lst (.cons (.lst .nil) (.cons (.lst .nil) (.cons (.p (.lit (.int 0))) .nil))))) .nil)) []))
  .skip)))⟩
def N_law : List PySem.Str := ["_law_script", "_law_bag_here", "_law_turn", "_law_handed", "_law_found", "_law_spots", "_law_links", "_law_due", "_law_k", "_law_at"]
def sy : Sy where
  blt := ["len", "str", "tuple", "list", "all", "any", "isinstance", "range", "zip", "enumerate", "int", "bool", "dict", "sorted", "set", "min", "max", "sum", "repr"]
  glo := [("LETTERS", (.str "abcdefghijklmnopqrstuvwxyz")), ("FIGURES", (.str "0123456789")), ("LONGEST", (.int 6)), ("NIL", (.str "nil")), ("FARTHEST", (.int 1000000000)), ("MOST_NAMES", (.int 40)), ("MOST_CELLS", (.int 200))]
  fld := [("Heap", "spots"), ("Heap", "links")]
  tabs := []
  fns := ([(("", "_wall"), 1, []), (("", "is_told"), 1, []), (("", "is_made"), 1, []), (("", "is_name"), 1, []), (("", "is_place"), 1, []), (("", "good_names"), 1, []), (("", "good_cells"), 1, []), (("Heap", "__init__"), 3, [.non, .non]), (("Heap", "__eq__"), 2, []), (("Heap", "__len__"), 1, []), (("Heap", "__str__"), 1, []), (("Heap", "__repr__"), 1, [])] : List (Fk × Nat × List D)) ++ ([(("Heap", "place"), 2, []), (("Heap", "follow"), 2, []), (("Heap", "has_cell"), 2, []), (("Heap", "names"), 1, []), (("Heap", "cells"), 1, []), (("Heap", "with_name"), 3, [(.int 0)]), (("Heap", "with_cell"), 3, [(.int 0)]), (("Heap", "without"), 2, []), (("Heap", "only"), 2, []), (("Heap", "room"), 1, []), (("", "_law_bag"), 1, []), (("", "_law_pull"), 2, [])] : List (Fk × Nat × List D)) ++ ([(("", "_law_one_of"), 2, []), (("", "_law_same"), 2, []), (("", "_law_names"), 2, []), (("", "_law_is_told"), 1, []), (("", "_law_is_made"), 1, []), (("", "_law_is_term"), 1, []), (("", "_law_seen"), 1, []), (("", "_law_heap"), 3, []), (("", "_law_made_heap"), 2, []), (("", "_law_bent_names"), 2, []), (("", "_law_bent_cells"), 2, []), (("", "_law_good"), 2, [])] : List (Fk × Nat × List D)) ++ ([(("", "law"), 1, [])] : List (Fk × Nat × List D))
  exc := ["LinkError", "BadHeap"]
  exm := [("LinkError", "LinkError", true), ("BadHeap", "LinkError", true), ("Missing", "LinkError", false), ("NoPlace", "LinkError", false), ("LinkError", "BadHeap", false), ("BadHeap", "BadHeap", true), ("Missing", "BadHeap", false), ("NoPlace", "BadHeap", false)]
theorem c__wall : chkSs sy N__wall (defScope (top 0)) ((defScope (top 0)).names.map (·.1)) f__wall.body (defBody (top 0)) = true := by kernel_rfl
theorem c_is_told : chkSs sy N_is_told (defScope (top 11)) ((defScope (top 11)).names.map (·.1)) f_is_told.body (defBody (top 11)) = true := by kernel_rfl
theorem c_is_made : chkSs sy N_is_made (defScope (top 12)) ((defScope (top 12)).names.map (·.1)) f_is_made.body (defBody (top 12)) = true := by kernel_rfl
theorem c_is_name : chkSs sy N_is_name (defScope (top 13)) ((defScope (top 13)).names.map (·.1)) f_is_name.body (defBody (top 13)) = true := by kernel_rfl
theorem c_is_place : chkSs sy N_is_place (defScope (top 18)) ((defScope (top 18)).names.map (·.1)) f_is_place.body (defBody (top 18)) = true := by kernel_rfl
theorem c_good_names : chkSs sy N_good_names (defScope (top 19)) ((defScope (top 19)).names.map (·.1)) f_good_names.body (defBody (top 19)) = true := by kernel_rfl
theorem c_good_cells : chkSs sy N_good_cells (defScope (top 20)) ((defScope (top 20)).names.map (·.1)) f_good_cells.body (defBody (top 20)) = true := by kernel_rfl
theorem c_Heap___init__ : chkSs sy N_Heap___init__ (defScope (inClass (top 21) 0)) ((defScope (inClass (top 21) 0)).names.map (·.1)) f_Heap___init__.body (defBody (inClass (top 21) 0)) = true := by kernel_rfl
theorem c_Heap___eq__ : chkSs sy N_Heap___eq__ (defScope (inClass (top 21) 1)) ((defScope (inClass (top 21) 1)).names.map (·.1)) f_Heap___eq__.body (defBody (inClass (top 21) 1)) = true := by kernel_rfl
theorem c_Heap___len__ : chkSs sy N_Heap___len__ (defScope (inClass (top 21) 2)) ((defScope (inClass (top 21) 2)).names.map (·.1)) f_Heap___len__.body (defBody (inClass (top 21) 2)) = true := by kernel_rfl
theorem c_Heap___str__ : chkSs sy N_Heap___str__ (defScope (inClass (top 21) 3)) ((defScope (inClass (top 21) 3)).names.map (·.1)) f_Heap___str__.body (defBody (inClass (top 21) 3)) = true := by kernel_rfl
theorem c_Heap___repr__ : chkSs sy N_Heap___repr__ (defScope (inClass (top 21) 4)) ((defScope (inClass (top 21) 4)).names.map (·.1)) f_Heap___repr__.body (defBody (inClass (top 21) 4)) = true := by kernel_rfl
theorem c_Heap_place : chkSs sy N_Heap_place (defScope (inClass (top 21) 5)) ((defScope (inClass (top 21) 5)).names.map (·.1)) f_Heap_place.body (defBody (inClass (top 21) 5)) = true := by kernel_rfl
theorem c_Heap_follow : chkSs sy N_Heap_follow (defScope (inClass (top 21) 6)) ((defScope (inClass (top 21) 6)).names.map (·.1)) f_Heap_follow.body (defBody (inClass (top 21) 6)) = true := by kernel_rfl
theorem c_Heap_has_cell : chkSs sy N_Heap_has_cell (defScope (inClass (top 21) 7)) ((defScope (inClass (top 21) 7)).names.map (·.1)) f_Heap_has_cell.body (defBody (inClass (top 21) 7)) = true := by kernel_rfl
theorem c_Heap_names : chkSs sy N_Heap_names (defScope (inClass (top 21) 8)) ((defScope (inClass (top 21) 8)).names.map (·.1)) f_Heap_names.body (defBody (inClass (top 21) 8)) = true := by kernel_rfl
theorem c_Heap_cells : chkSs sy N_Heap_cells (defScope (inClass (top 21) 9)) ((defScope (inClass (top 21) 9)).names.map (·.1)) f_Heap_cells.body (defBody (inClass (top 21) 9)) = true := by kernel_rfl
theorem c_Heap_with_name : chkSs sy N_Heap_with_name (defScope (inClass (top 21) 10)) ((defScope (inClass (top 21) 10)).names.map (·.1)) f_Heap_with_name.body (defBody (inClass (top 21) 10)) = true := by kernel_rfl
theorem c_Heap_with_cell : chkSs sy N_Heap_with_cell (defScope (inClass (top 21) 11)) ((defScope (inClass (top 21) 11)).names.map (·.1)) f_Heap_with_cell.body (defBody (inClass (top 21) 11)) = true := by kernel_rfl
theorem c_Heap_without : chkSs sy N_Heap_without (defScope (inClass (top 21) 12)) ((defScope (inClass (top 21) 12)).names.map (·.1)) f_Heap_without.body (defBody (inClass (top 21) 12)) = true := by kernel_rfl
theorem c_Heap_only : chkSs sy N_Heap_only (defScope (inClass (top 21) 13)) ((defScope (inClass (top 21) 13)).names.map (·.1)) f_Heap_only.body (defBody (inClass (top 21) 13)) = true := by kernel_rfl
theorem c_Heap_room : chkSs sy N_Heap_room (defScope (inClass (top 21) 14)) ((defScope (inClass (top 21) 14)).names.map (·.1)) f_Heap_room.body (defBody (inClass (top 21) 14)) = true := by kernel_rfl
theorem c__law_bag : chkSs sy N__law_bag (defScope (top 23)) ((defScope (top 23)).names.map (·.1)) f__law_bag.body (defBody (top 23)) = true := by kernel_rfl
theorem c__law_pull : chkSs sy N__law_pull (defScope (top 24)) ((defScope (top 24)).names.map (·.1)) f__law_pull.body (defBody (top 24)) = true := by kernel_rfl
theorem c__law_one_of : chkSs sy N__law_one_of (defScope (top 25)) ((defScope (top 25)).names.map (·.1)) f__law_one_of.body (defBody (top 25)) = true := by kernel_rfl
theorem c__law_same : chkSs sy N__law_same (defScope (top 26)) ((defScope (top 26)).names.map (·.1)) f__law_same.body (defBody (top 26)) = true := by kernel_rfl
theorem c__law_names : chkSs sy N__law_names (defScope (top 27)) ((defScope (top 27)).names.map (·.1)) f__law_names.body (defBody (top 27)) = true := by kernel_rfl
theorem c__law_is_told : chkSs sy N__law_is_told (defScope (top 28)) ((defScope (top 28)).names.map (·.1)) f__law_is_told.body (defBody (top 28)) = true := by kernel_rfl
theorem c__law_is_made : chkSs sy N__law_is_made (defScope (top 29)) ((defScope (top 29)).names.map (·.1)) f__law_is_made.body (defBody (top 29)) = true := by kernel_rfl
theorem c__law_is_term : chkSs sy N__law_is_term (defScope (top 30)) ((defScope (top 30)).names.map (·.1)) f__law_is_term.body (defBody (top 30)) = true := by kernel_rfl
theorem c__law_seen : chkSs sy N__law_seen (defScope (top 31)) ((defScope (top 31)).names.map (·.1)) f__law_seen.body (defBody (top 31)) = true := by kernel_rfl
theorem c__law_heap : chkSs sy N__law_heap (defScope (top 32)) ((defScope (top 32)).names.map (·.1)) f__law_heap.body (defBody (top 32)) = true := by kernel_rfl
theorem c__law_made_heap : chkSs sy N__law_made_heap (defScope (top 33)) ((defScope (top 33)).names.map (·.1)) f__law_made_heap.body (defBody (top 33)) = true := by kernel_rfl
theorem c__law_bent_names : chkSs sy N__law_bent_names (defScope (top 34)) ((defScope (top 34)).names.map (·.1)) f__law_bent_names.body (defBody (top 34)) = true := by kernel_rfl
theorem c__law_bent_cells : chkSs sy N__law_bent_cells (defScope (top 35)) ((defScope (top 35)).names.map (·.1)) f__law_bent_cells.body (defBody (top 35)) = true := by kernel_rfl
theorem c__law_good : chkSs sy N__law_good (defScope (top 36)) ((defScope (top 36)).names.map (·.1)) f__law_good.body (defBody (top 36)) = true := by kernel_rfl
theorem c_law : chkSs sy N_law (defScope (top 37)) ((defScope (top 37)).names.map (·.1)) f_law.body (defBody (top 37)) = true := by kernel_rfl
def tab : List (Fk × Fn) := ([((("" : PySem.Str), ("_wall" : PySem.Str)), f__wall), ((("" : PySem.Str), ("is_told" : PySem.Str)), f_is_told), ((("" : PySem.Str), ("is_made" : PySem.Str)), f_is_made), ((("" : PySem.Str), ("is_name" : PySem.Str)), f_is_name), ((("" : PySem.Str), ("is_place" : PySem.Str)), f_is_place), ((("" : PySem.Str), ("good_names" : PySem.Str)), f_good_names), ((("" : PySem.Str), ("good_cells" : PySem.Str)), f_good_cells), ((("Heap" : PySem.Str), ("__init__" : PySem.Str)), f_Heap___init__), ((("Heap" : PySem.Str), ("__eq__" : PySem.Str)), f_Heap___eq__), ((("Heap" : PySem.Str), ("__len__" : PySem.Str)), f_Heap___len__), ((("Heap" : PySem.Str), ("__str__" : PySem.Str)), f_Heap___str__), ((("Heap" : PySem.Str), ("__repr__" : PySem.Str)), f_Heap___repr__)] : List (Fk × Fn)) ++ ([((("Heap" : PySem.Str), ("place" : PySem.Str)), f_Heap_place), ((("Heap" : PySem.Str), ("follow" : PySem.Str)), f_Heap_follow), ((("Heap" : PySem.Str), ("has_cell" : PySem.Str)), f_Heap_has_cell), ((("Heap" : PySem.Str), ("names" : PySem.Str)), f_Heap_names), ((("Heap" : PySem.Str), ("cells" : PySem.Str)), f_Heap_cells), ((("Heap" : PySem.Str), ("with_name" : PySem.Str)), f_Heap_with_name), ((("Heap" : PySem.Str), ("with_cell" : PySem.Str)), f_Heap_with_cell), ((("Heap" : PySem.Str), ("without" : PySem.Str)), f_Heap_without), ((("Heap" : PySem.Str), ("only" : PySem.Str)), f_Heap_only), ((("Heap" : PySem.Str), ("room" : PySem.Str)), f_Heap_room), ((("" : PySem.Str), ("_law_bag" : PySem.Str)), f__law_bag), ((("" : PySem.Str), ("_law_pull" : PySem.Str)), f__law_pull)] : List (Fk × Fn)) ++ ([((("" : PySem.Str), ("_law_one_of" : PySem.Str)), f__law_one_of), ((("" : PySem.Str), ("_law_same" : PySem.Str)), f__law_same), ((("" : PySem.Str), ("_law_names" : PySem.Str)), f__law_names), ((("" : PySem.Str), ("_law_is_told" : PySem.Str)), f__law_is_told), ((("" : PySem.Str), ("_law_is_made" : PySem.Str)), f__law_is_made), ((("" : PySem.Str), ("_law_is_term" : PySem.Str)), f__law_is_term), ((("" : PySem.Str), ("_law_seen" : PySem.Str)), f__law_seen), ((("" : PySem.Str), ("_law_heap" : PySem.Str)), f__law_heap), ((("" : PySem.Str), ("_law_made_heap" : PySem.Str)), f__law_made_heap), ((("" : PySem.Str), ("_law_bent_names" : PySem.Str)), f__law_bent_names), ((("" : PySem.Str), ("_law_bent_cells" : PySem.Str)), f__law_bent_cells), ((("" : PySem.Str), ("_law_good" : PySem.Str)), f__law_good)] : List (Fk × Fn)) ++ ([((("" : PySem.Str), ("law" : PySem.Str)), f_law)] : List (Fk × Fn))
def Qt (k : Fk) : Option Fn := (tab.find? fun p => decide (p.1 = k)).map (·.2)
def mkD (at_ : PySem.Str × Option PySem.Str) (name qual : PySem.Str) (st : Stmt) (dfl : List He.Dv) : He.DefD := ⟨at_, name, qual, defArgs st, defBody st, defScope st, dfl, []⟩
def d__wall : He.DefD := mkD ("_wall", none) "_wall" "_wall" (top 0) []
def d_is_told : He.DefD := mkD ("is_told", none) "is_told" "is_told" (top 11) []
def d_is_made : He.DefD := mkD ("is_made", none) "is_made" "is_made" (top 12) []
def d_is_name : He.DefD := mkD ("is_name", none) "is_name" "is_name" (top 13) []
def d_is_place : He.DefD := mkD ("is_place", none) "is_place" "is_place" (top 18) []
def d_good_names : He.DefD := mkD ("good_names", none) "good_names" "good_names" (top 19) []
def d_good_cells : He.DefD := mkD ("good_cells", none) "good_cells" "good_cells" (top 20) []
def d_Heap___init__ : He.DefD := mkD ("Heap", some "__init__") "__init__" "Heap.__init__" (inClass (top 21) 0) [.non, .non]
def d_Heap___eq__ : He.DefD := mkD ("Heap", some "__eq__") "__eq__" "Heap.__eq__" (inClass (top 21) 1) []
def d_Heap___len__ : He.DefD := mkD ("Heap", some "__len__") "__len__" "Heap.__len__" (inClass (top 21) 2) []
def d_Heap___str__ : He.DefD := mkD ("Heap", some "__str__") "__str__" "Heap.__str__" (inClass (top 21) 3) []
def d_Heap___repr__ : He.DefD := mkD ("Heap", some "__repr__") "__repr__" "Heap.__repr__" (inClass (top 21) 4) []
def d_Heap_place : He.DefD := mkD ("Heap", some "place") "place" "Heap.place" (inClass (top 21) 5) []
def d_Heap_follow : He.DefD := mkD ("Heap", some "follow") "follow" "Heap.follow" (inClass (top 21) 6) []
def d_Heap_has_cell : He.DefD := mkD ("Heap", some "has_cell") "has_cell" "Heap.has_cell" (inClass (top 21) 7) []
def d_Heap_names : He.DefD := mkD ("Heap", some "names") "names" "Heap.names" (inClass (top 21) 8) []
def d_Heap_cells : He.DefD := mkD ("Heap", some "cells") "cells" "Heap.cells" (inClass (top 21) 9) []
def d_Heap_with_name : He.DefD := mkD ("Heap", some "with_name") "with_name" "Heap.with_name" (inClass (top 21) 10) [.int 0]
def d_Heap_with_cell : He.DefD := mkD ("Heap", some "with_cell") "with_cell" "Heap.with_cell" (inClass (top 21) 11) [.int 0]
def d_Heap_without : He.DefD := mkD ("Heap", some "without") "without" "Heap.without" (inClass (top 21) 12) []
def d_Heap_only : He.DefD := mkD ("Heap", some "only") "only" "Heap.only" (inClass (top 21) 13) []
def d_Heap_room : He.DefD := mkD ("Heap", some "room") "room" "Heap.room" (inClass (top 21) 14) []
def d__law_bag : He.DefD := mkD ("_law_bag", none) "_law_bag" "_law_bag" (top 23) []
def d__law_pull : He.DefD := mkD ("_law_pull", none) "_law_pull" "_law_pull" (top 24) []
def d__law_one_of : He.DefD := mkD ("_law_one_of", none) "_law_one_of" "_law_one_of" (top 25) []
def d__law_same : He.DefD := mkD ("_law_same", none) "_law_same" "_law_same" (top 26) []
def d__law_names : He.DefD := mkD ("_law_names", none) "_law_names" "_law_names" (top 27) []
def d__law_is_told : He.DefD := mkD ("_law_is_told", none) "_law_is_told" "_law_is_told" (top 28) []
def d__law_is_made : He.DefD := mkD ("_law_is_made", none) "_law_is_made" "_law_is_made" (top 29) []
def d__law_is_term : He.DefD := mkD ("_law_is_term", none) "_law_is_term" "_law_is_term" (top 30) []
def d__law_seen : He.DefD := mkD ("_law_seen", none) "_law_seen" "_law_seen" (top 31) []
def d__law_heap : He.DefD := mkD ("_law_heap", none) "_law_heap" "_law_heap" (top 32) []
def d__law_made_heap : He.DefD := mkD ("_law_made_heap", none) "_law_made_heap" "_law_made_heap" (top 33) []
def d__law_bent_names : He.DefD := mkD ("_law_bent_names", none) "_law_bent_names" "_law_bent_names" (top 34) []
def d__law_bent_cells : He.DefD := mkD ("_law_bent_cells", none) "_law_bent_cells" "_law_bent_cells" (top 35) []
def d__law_good : He.DefD := mkD ("_law_good", none) "_law_good" "_law_good" (top 36) []
def d_law : He.DefD := mkD ("law", none) "law" "law" (top 37) []
def fn : List He.DefD := ([d__wall, d_is_told, d_is_made, d_is_name, d_is_place, d_good_names, d_good_cells, d_Heap___init__, d_Heap___eq__, d_Heap___len__, d_Heap___str__, d_Heap___repr__] : List He.DefD) ++ ([d_Heap_place, d_Heap_follow, d_Heap_has_cell, d_Heap_names, d_Heap_cells, d_Heap_with_name, d_Heap_with_cell, d_Heap_without, d_Heap_only, d_Heap_room, d__law_bag, d__law_pull] : List He.DefD) ++ ([d__law_one_of, d__law_same, d__law_names, d__law_is_told, d__law_is_made, d__law_is_term, d__law_seen, d__law_heap, d__law_made_heap, d__law_bent_names, d__law_bent_cells, d__law_good] : List He.DefD) ++ ([d_law] : List He.DefD)
theorem sc__wall : FnScope N__wall ["k"] (defScope (top 0)) := ⟨by kernel_rfl, by kernel_rfl, by kernel_rfl, by decide +kernel, by kernel_rfl, by decide +kernel, by decide +kernel⟩
theorem q__wall : Qt (("" : PySem.Str), ("_wall" : PySem.Str)) = some f__wall := by kernel_rfl
theorem st__wall {K : PySem.W.Frag} (cS : He.SaysD (faOf sy) fn K) : ∃ fd, St (cvOf K) sy K Qt ((("" : PySem.Str), ("_wall" : PySem.Str)), 1, []) (He.fAd K d__wall.at_) fd ["k"] := by
  obtain ⟨fd, F⟩ := cS.def_ 0 (d := d__wall) rfl
  have b : Binds K fd ["k"] [] := FunD.bindsN F fun _ _ _ _ _ _ us hl => match us, hl with | [_], _ => rfl
  exact ⟨fd, ⟨_, _, _, _, _, [], N__wall, f__wall, F, sc__wall, rfl, fun F => (by simp only [RL]), fun j _ => ⟨[], by rw [List.drop_nil]; exact .nil, b⟩, q__wall, rfl, rfl, c__wall⟩⟩
theorem sc_is_told : FnScope N_is_told ["text"] (defScope (top 11)) := ⟨by kernel_rfl, by kernel_rfl, by kernel_rfl, by decide +kernel, by kernel_rfl, by decide +kernel, by decide +kernel⟩
theorem q_is_told : Qt (("" : PySem.Str), ("is_told" : PySem.Str)) = some f_is_told := by kernel_rfl
theorem st_is_told {K : PySem.W.Frag} (cS : He.SaysD (faOf sy) fn K) : ∃ fd, St (cvOf K) sy K Qt ((("" : PySem.Str), ("is_told" : PySem.Str)), 1, []) (He.fAd K d_is_told.at_) fd ["text"] := by
  obtain ⟨fd, F⟩ := cS.def_ 1 (d := d_is_told) rfl
  have b : Binds K fd ["text"] [] := FunD.bindsN F fun _ _ _ _ _ _ us hl => match us, hl with | [_], _ => rfl
  exact ⟨fd, ⟨_, _, _, _, _, [], N_is_told, f_is_told, F, sc_is_told, rfl, fun F => (by simp only [RL]), fun j _ => ⟨[], by rw [List.drop_nil]; exact .nil, b⟩, q_is_told, rfl, rfl, c_is_told⟩⟩
theorem sc_is_made : FnScope N_is_made ["text"] (defScope (top 12)) := ⟨by kernel_rfl, by kernel_rfl, by kernel_rfl, by decide +kernel, by kernel_rfl, by decide +kernel, by decide +kernel⟩
theorem q_is_made : Qt (("" : PySem.Str), ("is_made" : PySem.Str)) = some f_is_made := by kernel_rfl
theorem st_is_made {K : PySem.W.Frag} (cS : He.SaysD (faOf sy) fn K) : ∃ fd, St (cvOf K) sy K Qt ((("" : PySem.Str), ("is_made" : PySem.Str)), 1, []) (He.fAd K d_is_made.at_) fd ["text"] := by
  obtain ⟨fd, F⟩ := cS.def_ 2 (d := d_is_made) rfl
  have b : Binds K fd ["text"] [] := FunD.bindsN F fun _ _ _ _ _ _ us hl => match us, hl with | [_], _ => rfl
  exact ⟨fd, ⟨_, _, _, _, _, [], N_is_made, f_is_made, F, sc_is_made, rfl, fun F => (by simp only [RL]), fun j _ => ⟨[], by rw [List.drop_nil]; exact .nil, b⟩, q_is_made, rfl, rfl, c_is_made⟩⟩
theorem sc_is_name : FnScope N_is_name ["text"] (defScope (top 13)) := ⟨by kernel_rfl, by kernel_rfl, by kernel_rfl, by decide +kernel, by kernel_rfl, by decide +kernel, by decide +kernel⟩
theorem q_is_name : Qt (("" : PySem.Str), ("is_name" : PySem.Str)) = some f_is_name := by kernel_rfl
theorem st_is_name {K : PySem.W.Frag} (cS : He.SaysD (faOf sy) fn K) : ∃ fd, St (cvOf K) sy K Qt ((("" : PySem.Str), ("is_name" : PySem.Str)), 1, []) (He.fAd K d_is_name.at_) fd ["text"] := by
  obtain ⟨fd, F⟩ := cS.def_ 3 (d := d_is_name) rfl
  have b : Binds K fd ["text"] [] := FunD.bindsN F fun _ _ _ _ _ _ us hl => match us, hl with | [_], _ => rfl
  exact ⟨fd, ⟨_, _, _, _, _, [], N_is_name, f_is_name, F, sc_is_name, rfl, fun F => (by simp only [RL]), fun j _ => ⟨[], by rw [List.drop_nil]; exact .nil, b⟩, q_is_name, rfl, rfl, c_is_name⟩⟩
theorem sc_is_place : FnScope N_is_place ["number"] (defScope (top 18)) := ⟨by kernel_rfl, by kernel_rfl, by kernel_rfl, by decide +kernel, by kernel_rfl, by decide +kernel, by decide +kernel⟩
theorem q_is_place : Qt (("" : PySem.Str), ("is_place" : PySem.Str)) = some f_is_place := by kernel_rfl
theorem st_is_place {K : PySem.W.Frag} (cS : He.SaysD (faOf sy) fn K) : ∃ fd, St (cvOf K) sy K Qt ((("" : PySem.Str), ("is_place" : PySem.Str)), 1, []) (He.fAd K d_is_place.at_) fd ["number"] := by
  obtain ⟨fd, F⟩ := cS.def_ 4 (d := d_is_place) rfl
  have b : Binds K fd ["number"] [] := FunD.bindsN F fun _ _ _ _ _ _ us hl => match us, hl with | [_], _ => rfl
  exact ⟨fd, ⟨_, _, _, _, _, [], N_is_place, f_is_place, F, sc_is_place, rfl, fun F => (by simp only [RL]), fun j _ => ⟨[], by rw [List.drop_nil]; exact .nil, b⟩, q_is_place, rfl, rfl, c_is_place⟩⟩
theorem sc_good_names : FnScope N_good_names ["names"] (defScope (top 19)) := ⟨by kernel_rfl, by kernel_rfl, by kernel_rfl, by decide +kernel, by kernel_rfl, by decide +kernel, by decide +kernel⟩
theorem q_good_names : Qt (("" : PySem.Str), ("good_names" : PySem.Str)) = some f_good_names := by kernel_rfl
theorem st_good_names {K : PySem.W.Frag} (cS : He.SaysD (faOf sy) fn K) : ∃ fd, St (cvOf K) sy K Qt ((("" : PySem.Str), ("good_names" : PySem.Str)), 1, []) (He.fAd K d_good_names.at_) fd ["names"] := by
  obtain ⟨fd, F⟩ := cS.def_ 5 (d := d_good_names) rfl
  have b : Binds K fd ["names"] [] := FunD.bindsN F fun _ _ _ _ _ _ us hl => match us, hl with | [_], _ => rfl
  exact ⟨fd, ⟨_, _, _, _, _, [], N_good_names, f_good_names, F, sc_good_names, rfl, fun F => (by simp only [RL]), fun j _ => ⟨[], by rw [List.drop_nil]; exact .nil, b⟩, q_good_names, rfl, rfl, c_good_names⟩⟩
theorem sc_good_cells : FnScope N_good_cells ["cells"] (defScope (top 20)) := ⟨by kernel_rfl, by kernel_rfl, by kernel_rfl, by decide +kernel, by kernel_rfl, by decide +kernel, by decide +kernel⟩
theorem q_good_cells : Qt (("" : PySem.Str), ("good_cells" : PySem.Str)) = some f_good_cells := by kernel_rfl
theorem st_good_cells {K : PySem.W.Frag} (cS : He.SaysD (faOf sy) fn K) : ∃ fd, St (cvOf K) sy K Qt ((("" : PySem.Str), ("good_cells" : PySem.Str)), 1, []) (He.fAd K d_good_cells.at_) fd ["cells"] := by
  obtain ⟨fd, F⟩ := cS.def_ 6 (d := d_good_cells) rfl
  have b : Binds K fd ["cells"] [] := FunD.bindsN F fun _ _ _ _ _ _ us hl => match us, hl with | [_], _ => rfl
  exact ⟨fd, ⟨_, _, _, _, _, [], N_good_cells, f_good_cells, F, sc_good_cells, rfl, fun F => (by simp only [RL]), fun j _ => ⟨[], by rw [List.drop_nil]; exact .nil, b⟩, q_good_cells, rfl, rfl, c_good_cells⟩⟩
theorem sc_Heap___init__ : FnScope N_Heap___init__ ["self", "names", "cells"] (defScope (inClass (top 21) 0)) := ⟨by kernel_rfl, by kernel_rfl, by kernel_rfl, by decide +kernel, by kernel_rfl, by decide +kernel, by decide +kernel⟩
theorem q_Heap___init__ : Qt (("Heap" : PySem.Str), ("__init__" : PySem.Str)) = some f_Heap___init__ := by kernel_rfl
theorem st_Heap___init__ {K : PySem.W.Frag} (cS : He.SaysD (faOf sy) fn K) : ∃ fd, St (cvOf K) sy K Qt ((("Heap" : PySem.Str), ("__init__" : PySem.Str)), 3, [.non, .non]) (He.fAd K d_Heap___init__.at_) fd ["self", "names", "cells"] := by
  obtain ⟨fd, F⟩ := cS.def_ 7 (d := d_Heap___init__) rfl
  refine ⟨fd, ⟨_, _, _, _, _, [.non, .non], N_Heap___init__, f_Heap___init__, F, sc_Heap___init__, rfl, fun F => (by simp only [RL, R]; exact ⟨_, _, rfl, rfl, _, _, rfl, rfl, rfl⟩), fun j hj => ?_, q_Heap___init__, rfl, rfl, c_Heap___init__⟩⟩
  match j, hj with
  | 0, _ => exact F.binds1 1 0 (List.cons_ne_nil _ _) rfl (fun T kV doc pm an cdv ct us its hu hi => match us, its, hu, hi with | [x0], [y0, y1], _, _ => ⟨_, rfl, rfl⟩)
   | 1, _ => exact F.binds1 2 1 (List.cons_ne_nil _ _) rfl (fun T kV doc pm an cdv ct us its hu hi => match us, its, hu, hi with | [x0, x1], [y0, y1], _, _ => ⟨_, rfl, rfl⟩)
   | 2, _ => exact F.binds1 3 2 (List.cons_ne_nil _ _) rfl (fun T kV doc pm an cdv ct us its hu hi => match us, its, hu, hi with | [x0, x1, x2], [y0, y1], _, _ => ⟨_, rfl, rfl⟩)
theorem sc_Heap___eq__ : FnScope N_Heap___eq__ ["self", "other"] (defScope (inClass (top 21) 1)) := ⟨by kernel_rfl, by kernel_rfl, by kernel_rfl, by decide +kernel, by kernel_rfl, by decide +kernel, by decide +kernel⟩
theorem q_Heap___eq__ : Qt (("Heap" : PySem.Str), ("__eq__" : PySem.Str)) = some f_Heap___eq__ := by kernel_rfl
theorem st_Heap___eq__ {K : PySem.W.Frag} (cS : He.SaysD (faOf sy) fn K) : ∃ fd, St (cvOf K) sy K Qt ((("Heap" : PySem.Str), ("__eq__" : PySem.Str)), 2, []) (He.fAd K d_Heap___eq__.at_) fd ["self", "other"] := by
  obtain ⟨fd, F⟩ := cS.def_ 8 (d := d_Heap___eq__) rfl
  have b : Binds K fd ["self", "other"] [] := FunD.bindsN F fun _ _ _ _ _ _ us hl => match us, hl with | [_, _], _ => rfl
  exact ⟨fd, ⟨_, _, _, _, _, [], N_Heap___eq__, f_Heap___eq__, F, sc_Heap___eq__, rfl, fun F => (by simp only [RL]), fun j _ => ⟨[], by rw [List.drop_nil]; exact .nil, b⟩, q_Heap___eq__, rfl, rfl, c_Heap___eq__⟩⟩
theorem sc_Heap___len__ : FnScope N_Heap___len__ ["self"] (defScope (inClass (top 21) 2)) := ⟨by kernel_rfl, by kernel_rfl, by kernel_rfl, by decide +kernel, by kernel_rfl, by decide +kernel, by decide +kernel⟩
theorem q_Heap___len__ : Qt (("Heap" : PySem.Str), ("__len__" : PySem.Str)) = some f_Heap___len__ := by kernel_rfl
theorem st_Heap___len__ {K : PySem.W.Frag} (cS : He.SaysD (faOf sy) fn K) : ∃ fd, St (cvOf K) sy K Qt ((("Heap" : PySem.Str), ("__len__" : PySem.Str)), 1, []) (He.fAd K d_Heap___len__.at_) fd ["self"] := by
  obtain ⟨fd, F⟩ := cS.def_ 9 (d := d_Heap___len__) rfl
  have b : Binds K fd ["self"] [] := FunD.bindsN F fun _ _ _ _ _ _ us hl => match us, hl with | [_], _ => rfl
  exact ⟨fd, ⟨_, _, _, _, _, [], N_Heap___len__, f_Heap___len__, F, sc_Heap___len__, rfl, fun F => (by simp only [RL]), fun j _ => ⟨[], by rw [List.drop_nil]; exact .nil, b⟩, q_Heap___len__, rfl, rfl, c_Heap___len__⟩⟩
theorem sc_Heap___str__ : FnScope N_Heap___str__ ["self"] (defScope (inClass (top 21) 3)) := ⟨by kernel_rfl, by kernel_rfl, by kernel_rfl, by decide +kernel, by kernel_rfl, by decide +kernel, by decide +kernel⟩
theorem q_Heap___str__ : Qt (("Heap" : PySem.Str), ("__str__" : PySem.Str)) = some f_Heap___str__ := by kernel_rfl
theorem st_Heap___str__ {K : PySem.W.Frag} (cS : He.SaysD (faOf sy) fn K) : ∃ fd, St (cvOf K) sy K Qt ((("Heap" : PySem.Str), ("__str__" : PySem.Str)), 1, []) (He.fAd K d_Heap___str__.at_) fd ["self"] := by
  obtain ⟨fd, F⟩ := cS.def_ 10 (d := d_Heap___str__) rfl
  have b : Binds K fd ["self"] [] := FunD.bindsN F fun _ _ _ _ _ _ us hl => match us, hl with | [_], _ => rfl
  exact ⟨fd, ⟨_, _, _, _, _, [], N_Heap___str__, f_Heap___str__, F, sc_Heap___str__, rfl, fun F => (by simp only [RL]), fun j _ => ⟨[], by rw [List.drop_nil]; exact .nil, b⟩, q_Heap___str__, rfl, rfl, c_Heap___str__⟩⟩
theorem sc_Heap___repr__ : FnScope N_Heap___repr__ ["self"] (defScope (inClass (top 21) 4)) := ⟨by kernel_rfl, by kernel_rfl, by kernel_rfl, by decide +kernel, by kernel_rfl, by decide +kernel, by decide +kernel⟩
theorem q_Heap___repr__ : Qt (("Heap" : PySem.Str), ("__repr__" : PySem.Str)) = some f_Heap___repr__ := by kernel_rfl
theorem st_Heap___repr__ {K : PySem.W.Frag} (cS : He.SaysD (faOf sy) fn K) : ∃ fd, St (cvOf K) sy K Qt ((("Heap" : PySem.Str), ("__repr__" : PySem.Str)), 1, []) (He.fAd K d_Heap___repr__.at_) fd ["self"] := by
  obtain ⟨fd, F⟩ := cS.def_ 11 (d := d_Heap___repr__) rfl
  have b : Binds K fd ["self"] [] := FunD.bindsN F fun _ _ _ _ _ _ us hl => match us, hl with | [_], _ => rfl
  exact ⟨fd, ⟨_, _, _, _, _, [], N_Heap___repr__, f_Heap___repr__, F, sc_Heap___repr__, rfl, fun F => (by simp only [RL]), fun j _ => ⟨[], by rw [List.drop_nil]; exact .nil, b⟩, q_Heap___repr__, rfl, rfl, c_Heap___repr__⟩⟩
theorem sc_Heap_place : FnScope N_Heap_place ["self", "name"] (defScope (inClass (top 21) 5)) := ⟨by kernel_rfl, by kernel_rfl, by kernel_rfl, by decide +kernel, by kernel_rfl, by decide +kernel, by decide +kernel⟩
theorem q_Heap_place : Qt (("Heap" : PySem.Str), ("place" : PySem.Str)) = some f_Heap_place := by kernel_rfl
theorem st_Heap_place {K : PySem.W.Frag} (cS : He.SaysD (faOf sy) fn K) : ∃ fd, St (cvOf K) sy K Qt ((("Heap" : PySem.Str), ("place" : PySem.Str)), 2, []) (He.fAd K d_Heap_place.at_) fd ["self", "name"] := by
  obtain ⟨fd, F⟩ := cS.def_ 12 (d := d_Heap_place) rfl
  have b : Binds K fd ["self", "name"] [] := FunD.bindsN F fun _ _ _ _ _ _ us hl => match us, hl with | [_, _], _ => rfl
  exact ⟨fd, ⟨_, _, _, _, _, [], N_Heap_place, f_Heap_place, F, sc_Heap_place, rfl, fun F => (by simp only [RL]), fun j _ => ⟨[], by rw [List.drop_nil]; exact .nil, b⟩, q_Heap_place, rfl, rfl, c_Heap_place⟩⟩
theorem sc_Heap_follow : FnScope N_Heap_follow ["self", "at"] (defScope (inClass (top 21) 6)) := ⟨by kernel_rfl, by kernel_rfl, by kernel_rfl, by decide +kernel, by kernel_rfl, by decide +kernel, by decide +kernel⟩
theorem q_Heap_follow : Qt (("Heap" : PySem.Str), ("follow" : PySem.Str)) = some f_Heap_follow := by kernel_rfl
theorem st_Heap_follow {K : PySem.W.Frag} (cS : He.SaysD (faOf sy) fn K) : ∃ fd, St (cvOf K) sy K Qt ((("Heap" : PySem.Str), ("follow" : PySem.Str)), 2, []) (He.fAd K d_Heap_follow.at_) fd ["self", "at"] := by
  obtain ⟨fd, F⟩ := cS.def_ 13 (d := d_Heap_follow) rfl
  have b : Binds K fd ["self", "at"] [] := FunD.bindsN F fun _ _ _ _ _ _ us hl => match us, hl with | [_, _], _ => rfl
  exact ⟨fd, ⟨_, _, _, _, _, [], N_Heap_follow, f_Heap_follow, F, sc_Heap_follow, rfl, fun F => (by simp only [RL]), fun j _ => ⟨[], by rw [List.drop_nil]; exact .nil, b⟩, q_Heap_follow, rfl, rfl, c_Heap_follow⟩⟩
theorem sc_Heap_has_cell : FnScope N_Heap_has_cell ["self", "at"] (defScope (inClass (top 21) 7)) := ⟨by kernel_rfl, by kernel_rfl, by kernel_rfl, by decide +kernel, by kernel_rfl, by decide +kernel, by decide +kernel⟩
theorem q_Heap_has_cell : Qt (("Heap" : PySem.Str), ("has_cell" : PySem.Str)) = some f_Heap_has_cell := by kernel_rfl
theorem st_Heap_has_cell {K : PySem.W.Frag} (cS : He.SaysD (faOf sy) fn K) : ∃ fd, St (cvOf K) sy K Qt ((("Heap" : PySem.Str), ("has_cell" : PySem.Str)), 2, []) (He.fAd K d_Heap_has_cell.at_) fd ["self", "at"] := by
  obtain ⟨fd, F⟩ := cS.def_ 14 (d := d_Heap_has_cell) rfl
  have b : Binds K fd ["self", "at"] [] := FunD.bindsN F fun _ _ _ _ _ _ us hl => match us, hl with | [_, _], _ => rfl
  exact ⟨fd, ⟨_, _, _, _, _, [], N_Heap_has_cell, f_Heap_has_cell, F, sc_Heap_has_cell, rfl, fun F => (by simp only [RL]), fun j _ => ⟨[], by rw [List.drop_nil]; exact .nil, b⟩, q_Heap_has_cell, rfl, rfl, c_Heap_has_cell⟩⟩
theorem sc_Heap_names : FnScope N_Heap_names ["self"] (defScope (inClass (top 21) 8)) := ⟨by kernel_rfl, by kernel_rfl, by kernel_rfl, by decide +kernel, by kernel_rfl, by decide +kernel, by decide +kernel⟩
theorem q_Heap_names : Qt (("Heap" : PySem.Str), ("names" : PySem.Str)) = some f_Heap_names := by kernel_rfl
theorem st_Heap_names {K : PySem.W.Frag} (cS : He.SaysD (faOf sy) fn K) : ∃ fd, St (cvOf K) sy K Qt ((("Heap" : PySem.Str), ("names" : PySem.Str)), 1, []) (He.fAd K d_Heap_names.at_) fd ["self"] := by
  obtain ⟨fd, F⟩ := cS.def_ 15 (d := d_Heap_names) rfl
  have b : Binds K fd ["self"] [] := FunD.bindsN F fun _ _ _ _ _ _ us hl => match us, hl with | [_], _ => rfl
  exact ⟨fd, ⟨_, _, _, _, _, [], N_Heap_names, f_Heap_names, F, sc_Heap_names, rfl, fun F => (by simp only [RL]), fun j _ => ⟨[], by rw [List.drop_nil]; exact .nil, b⟩, q_Heap_names, rfl, rfl, c_Heap_names⟩⟩
theorem sc_Heap_cells : FnScope N_Heap_cells ["self"] (defScope (inClass (top 21) 9)) := ⟨by kernel_rfl, by kernel_rfl, by kernel_rfl, by decide +kernel, by kernel_rfl, by decide +kernel, by decide +kernel⟩
theorem q_Heap_cells : Qt (("Heap" : PySem.Str), ("cells" : PySem.Str)) = some f_Heap_cells := by kernel_rfl
theorem st_Heap_cells {K : PySem.W.Frag} (cS : He.SaysD (faOf sy) fn K) : ∃ fd, St (cvOf K) sy K Qt ((("Heap" : PySem.Str), ("cells" : PySem.Str)), 1, []) (He.fAd K d_Heap_cells.at_) fd ["self"] := by
  obtain ⟨fd, F⟩ := cS.def_ 16 (d := d_Heap_cells) rfl
  have b : Binds K fd ["self"] [] := FunD.bindsN F fun _ _ _ _ _ _ us hl => match us, hl with | [_], _ => rfl
  exact ⟨fd, ⟨_, _, _, _, _, [], N_Heap_cells, f_Heap_cells, F, sc_Heap_cells, rfl, fun F => (by simp only [RL]), fun j _ => ⟨[], by rw [List.drop_nil]; exact .nil, b⟩, q_Heap_cells, rfl, rfl, c_Heap_cells⟩⟩
theorem sc_Heap_with_name : FnScope N_Heap_with_name ["self", "name", "place"] (defScope (inClass (top 21) 10)) := ⟨by kernel_rfl, by kernel_rfl, by kernel_rfl, by decide +kernel, by kernel_rfl, by decide +kernel, by decide +kernel⟩
theorem q_Heap_with_name : Qt (("Heap" : PySem.Str), ("with_name" : PySem.Str)) = some f_Heap_with_name := by kernel_rfl
theorem st_Heap_with_name {K : PySem.W.Frag} (cS : He.SaysD (faOf sy) fn K) : ∃ fd, St (cvOf K) sy K Qt ((("Heap" : PySem.Str), ("with_name" : PySem.Str)), 3, [(.int 0)]) (He.fAd K d_Heap_with_name.at_) fd ["self", "name", "place"] := by
  obtain ⟨fd, F⟩ := cS.def_ 17 (d := d_Heap_with_name) rfl
  refine ⟨fd, ⟨_, _, _, _, _, [.int 0], N_Heap_with_name, f_Heap_with_name, F, sc_Heap_with_name, rfl, fun F => (by simp only [RL, R]; exact ⟨_, _, rfl, rfl, rfl⟩), fun j hj => ?_, q_Heap_with_name, rfl, rfl, c_Heap_with_name⟩⟩
  match j, hj with
  | 0, _ => exact F.binds1 2 0 (List.cons_ne_nil _ _) rfl (fun T kV doc pm an cdv ct us its hu hi => match us, its, hu, hi with | [x0, x1], [y0], _, _ => ⟨_, rfl, rfl⟩)
   | 1, _ => exact F.binds1 3 1 (List.cons_ne_nil _ _) rfl (fun T kV doc pm an cdv ct us its hu hi => match us, its, hu, hi with | [x0, x1, x2], [y0], _, _ => ⟨_, rfl, rfl⟩)
theorem sc_Heap_with_cell : FnScope N_Heap_with_cell ["self", "at", "to"] (defScope (inClass (top 21) 11)) := ⟨by kernel_rfl, by kernel_rfl, by kernel_rfl, by decide +kernel, by kernel_rfl, by decide +kernel, by decide +kernel⟩
theorem q_Heap_with_cell : Qt (("Heap" : PySem.Str), ("with_cell" : PySem.Str)) = some f_Heap_with_cell := by kernel_rfl
theorem st_Heap_with_cell {K : PySem.W.Frag} (cS : He.SaysD (faOf sy) fn K) : ∃ fd, St (cvOf K) sy K Qt ((("Heap" : PySem.Str), ("with_cell" : PySem.Str)), 3, [(.int 0)]) (He.fAd K d_Heap_with_cell.at_) fd ["self", "at", "to"] := by
  obtain ⟨fd, F⟩ := cS.def_ 18 (d := d_Heap_with_cell) rfl
  refine ⟨fd, ⟨_, _, _, _, _, [.int 0], N_Heap_with_cell, f_Heap_with_cell, F, sc_Heap_with_cell, rfl, fun F => (by simp only [RL, R]; exact ⟨_, _, rfl, rfl, rfl⟩), fun j hj => ?_, q_Heap_with_cell, rfl, rfl, c_Heap_with_cell⟩⟩
  match j, hj with
  | 0, _ => exact F.binds1 2 0 (List.cons_ne_nil _ _) rfl (fun T kV doc pm an cdv ct us its hu hi => match us, its, hu, hi with | [x0, x1], [y0], _, _ => ⟨_, rfl, rfl⟩)
   | 1, _ => exact F.binds1 3 1 (List.cons_ne_nil _ _) rfl (fun T kV doc pm an cdv ct us its hu hi => match us, its, hu, hi with | [x0, x1, x2], [y0], _, _ => ⟨_, rfl, rfl⟩)
theorem sc_Heap_without : FnScope N_Heap_without ["self", "at"] (defScope (inClass (top 21) 12)) := ⟨by kernel_rfl, by kernel_rfl, by kernel_rfl, by decide +kernel, by kernel_rfl, by decide +kernel, by decide +kernel⟩
theorem q_Heap_without : Qt (("Heap" : PySem.Str), ("without" : PySem.Str)) = some f_Heap_without := by kernel_rfl
theorem st_Heap_without {K : PySem.W.Frag} (cS : He.SaysD (faOf sy) fn K) : ∃ fd, St (cvOf K) sy K Qt ((("Heap" : PySem.Str), ("without" : PySem.Str)), 2, []) (He.fAd K d_Heap_without.at_) fd ["self", "at"] := by
  obtain ⟨fd, F⟩ := cS.def_ 19 (d := d_Heap_without) rfl
  have b : Binds K fd ["self", "at"] [] := FunD.bindsN F fun _ _ _ _ _ _ us hl => match us, hl with | [_, _], _ => rfl
  exact ⟨fd, ⟨_, _, _, _, _, [], N_Heap_without, f_Heap_without, F, sc_Heap_without, rfl, fun F => (by simp only [RL]), fun j _ => ⟨[], by rw [List.drop_nil]; exact .nil, b⟩, q_Heap_without, rfl, rfl, c_Heap_without⟩⟩
theorem sc_Heap_only : FnScope N_Heap_only ["self", "names"] (defScope (inClass (top 21) 13)) := ⟨by kernel_rfl, by kernel_rfl, by kernel_rfl, by decide +kernel, by kernel_rfl, by decide +kernel, by decide +kernel⟩
theorem q_Heap_only : Qt (("Heap" : PySem.Str), ("only" : PySem.Str)) = some f_Heap_only := by kernel_rfl
theorem st_Heap_only {K : PySem.W.Frag} (cS : He.SaysD (faOf sy) fn K) : ∃ fd, St (cvOf K) sy K Qt ((("Heap" : PySem.Str), ("only" : PySem.Str)), 2, []) (He.fAd K d_Heap_only.at_) fd ["self", "names"] := by
  obtain ⟨fd, F⟩ := cS.def_ 20 (d := d_Heap_only) rfl
  have b : Binds K fd ["self", "names"] [] := FunD.bindsN F fun _ _ _ _ _ _ us hl => match us, hl with | [_, _], _ => rfl
  exact ⟨fd, ⟨_, _, _, _, _, [], N_Heap_only, f_Heap_only, F, sc_Heap_only, rfl, fun F => (by simp only [RL]), fun j _ => ⟨[], by rw [List.drop_nil]; exact .nil, b⟩, q_Heap_only, rfl, rfl, c_Heap_only⟩⟩
theorem sc_Heap_room : FnScope N_Heap_room ["self"] (defScope (inClass (top 21) 14)) := ⟨by kernel_rfl, by kernel_rfl, by kernel_rfl, by decide +kernel, by kernel_rfl, by decide +kernel, by decide +kernel⟩
theorem q_Heap_room : Qt (("Heap" : PySem.Str), ("room" : PySem.Str)) = some f_Heap_room := by kernel_rfl
theorem st_Heap_room {K : PySem.W.Frag} (cS : He.SaysD (faOf sy) fn K) : ∃ fd, St (cvOf K) sy K Qt ((("Heap" : PySem.Str), ("room" : PySem.Str)), 1, []) (He.fAd K d_Heap_room.at_) fd ["self"] := by
  obtain ⟨fd, F⟩ := cS.def_ 21 (d := d_Heap_room) rfl
  have b : Binds K fd ["self"] [] := FunD.bindsN F fun _ _ _ _ _ _ us hl => match us, hl with | [_], _ => rfl
  exact ⟨fd, ⟨_, _, _, _, _, [], N_Heap_room, f_Heap_room, F, sc_Heap_room, rfl, fun F => (by simp only [RL]), fun j _ => ⟨[], by rw [List.drop_nil]; exact .nil, b⟩, q_Heap_room, rfl, rfl, c_Heap_room⟩⟩
theorem sc__law_bag : FnScope N__law_bag ["_law_script"] (defScope (top 23)) := ⟨by kernel_rfl, by kernel_rfl, by kernel_rfl, by decide +kernel, by kernel_rfl, by decide +kernel, by decide +kernel⟩
theorem q__law_bag : Qt (("" : PySem.Str), ("_law_bag" : PySem.Str)) = some f__law_bag := by kernel_rfl
theorem st__law_bag {K : PySem.W.Frag} (cS : He.SaysD (faOf sy) fn K) : ∃ fd, St (cvOf K) sy K Qt ((("" : PySem.Str), ("_law_bag" : PySem.Str)), 1, []) (He.fAd K d__law_bag.at_) fd ["_law_script"] := by
  obtain ⟨fd, F⟩ := cS.def_ 22 (d := d__law_bag) rfl
  have b : Binds K fd ["_law_script"] [] := FunD.bindsN F fun _ _ _ _ _ _ us hl => match us, hl with | [_], _ => rfl
  exact ⟨fd, ⟨_, _, _, _, _, [], N__law_bag, f__law_bag, F, sc__law_bag, rfl, fun F => (by simp only [RL]), fun j _ => ⟨[], by rw [List.drop_nil]; exact .nil, b⟩, q__law_bag, rfl, rfl, c__law_bag⟩⟩
theorem sc__law_pull : FnScope N__law_pull ["_law_bag_here", "_law_many"] (defScope (top 24)) := ⟨by kernel_rfl, by kernel_rfl, by kernel_rfl, by decide +kernel, by kernel_rfl, by decide +kernel, by decide +kernel⟩
theorem q__law_pull : Qt (("" : PySem.Str), ("_law_pull" : PySem.Str)) = some f__law_pull := by kernel_rfl
theorem st__law_pull {K : PySem.W.Frag} (cS : He.SaysD (faOf sy) fn K) : ∃ fd, St (cvOf K) sy K Qt ((("" : PySem.Str), ("_law_pull" : PySem.Str)), 2, []) (He.fAd K d__law_pull.at_) fd ["_law_bag_here", "_law_many"] := by
  obtain ⟨fd, F⟩ := cS.def_ 23 (d := d__law_pull) rfl
  have b : Binds K fd ["_law_bag_here", "_law_many"] [] := FunD.bindsN F fun _ _ _ _ _ _ us hl => match us, hl with | [_, _], _ => rfl
  exact ⟨fd, ⟨_, _, _, _, _, [], N__law_pull, f__law_pull, F, sc__law_pull, rfl, fun F => (by simp only [RL]), fun j _ => ⟨[], by rw [List.drop_nil]; exact .nil, b⟩, q__law_pull, rfl, rfl, c__law_pull⟩⟩
theorem sc__law_one_of : FnScope N__law_one_of ["_law_bag_here", "_law_some"] (defScope (top 25)) := ⟨by kernel_rfl, by kernel_rfl, by kernel_rfl, by decide +kernel, by kernel_rfl, by decide +kernel, by decide +kernel⟩
theorem q__law_one_of : Qt (("" : PySem.Str), ("_law_one_of" : PySem.Str)) = some f__law_one_of := by kernel_rfl
theorem st__law_one_of {K : PySem.W.Frag} (cS : He.SaysD (faOf sy) fn K) : ∃ fd, St (cvOf K) sy K Qt ((("" : PySem.Str), ("_law_one_of" : PySem.Str)), 2, []) (He.fAd K d__law_one_of.at_) fd ["_law_bag_here", "_law_some"] := by
  obtain ⟨fd, F⟩ := cS.def_ 24 (d := d__law_one_of) rfl
  have b : Binds K fd ["_law_bag_here", "_law_some"] [] := FunD.bindsN F fun _ _ _ _ _ _ us hl => match us, hl with | [_, _], _ => rfl
  exact ⟨fd, ⟨_, _, _, _, _, [], N__law_one_of, f__law_one_of, F, sc__law_one_of, rfl, fun F => (by simp only [RL]), fun j _ => ⟨[], by rw [List.drop_nil]; exact .nil, b⟩, q__law_one_of, rfl, rfl, c__law_one_of⟩⟩
theorem sc__law_same : FnScope N__law_same ["_law_found", "_law_due"] (defScope (top 26)) := ⟨by kernel_rfl, by kernel_rfl, by kernel_rfl, by decide +kernel, by kernel_rfl, by decide +kernel, by decide +kernel⟩
theorem q__law_same : Qt (("" : PySem.Str), ("_law_same" : PySem.Str)) = some f__law_same := by kernel_rfl
theorem st__law_same {K : PySem.W.Frag} (cS : He.SaysD (faOf sy) fn K) : ∃ fd, St (cvOf K) sy K Qt ((("" : PySem.Str), ("_law_same" : PySem.Str)), 2, []) (He.fAd K d__law_same.at_) fd ["_law_found", "_law_due"] := by
  obtain ⟨fd, F⟩ := cS.def_ 25 (d := d__law_same) rfl
  have b : Binds K fd ["_law_found", "_law_due"] [] := FunD.bindsN F fun _ _ _ _ _ _ us hl => match us, hl with | [_, _], _ => rfl
  exact ⟨fd, ⟨_, _, _, _, _, [], N__law_same, f__law_same, F, sc__law_same, rfl, fun F => (by simp only [RL]), fun j _ => ⟨[], by rw [List.drop_nil]; exact .nil, b⟩, q__law_same, rfl, rfl, c__law_same⟩⟩
theorem sc__law_names : FnScope N__law_names ["_law_bag_here", "_law_many"] (defScope (top 27)) := ⟨by kernel_rfl, by kernel_rfl, by kernel_rfl, by decide +kernel, by kernel_rfl, by decide +kernel, by decide +kernel⟩
theorem q__law_names : Qt (("" : PySem.Str), ("_law_names" : PySem.Str)) = some f__law_names := by kernel_rfl
theorem st__law_names {K : PySem.W.Frag} (cS : He.SaysD (faOf sy) fn K) : ∃ fd, St (cvOf K) sy K Qt ((("" : PySem.Str), ("_law_names" : PySem.Str)), 2, []) (He.fAd K d__law_names.at_) fd ["_law_bag_here", "_law_many"] := by
  obtain ⟨fd, F⟩ := cS.def_ 26 (d := d__law_names) rfl
  have b : Binds K fd ["_law_bag_here", "_law_many"] [] := FunD.bindsN F fun _ _ _ _ _ _ us hl => match us, hl with | [_, _], _ => rfl
  exact ⟨fd, ⟨_, _, _, _, _, [], N__law_names, f__law_names, F, sc__law_names, rfl, fun F => (by simp only [RL]), fun j _ => ⟨[], by rw [List.drop_nil]; exact .nil, b⟩, q__law_names, rfl, rfl, c__law_names⟩⟩
theorem sc__law_is_told : FnScope N__law_is_told ["_law_text"] (defScope (top 28)) := ⟨by kernel_rfl, by kernel_rfl, by kernel_rfl, by decide +kernel, by kernel_rfl, by decide +kernel, by decide +kernel⟩
theorem q__law_is_told : Qt (("" : PySem.Str), ("_law_is_told" : PySem.Str)) = some f__law_is_told := by kernel_rfl
theorem st__law_is_told {K : PySem.W.Frag} (cS : He.SaysD (faOf sy) fn K) : ∃ fd, St (cvOf K) sy K Qt ((("" : PySem.Str), ("_law_is_told" : PySem.Str)), 1, []) (He.fAd K d__law_is_told.at_) fd ["_law_text"] := by
  obtain ⟨fd, F⟩ := cS.def_ 27 (d := d__law_is_told) rfl
  have b : Binds K fd ["_law_text"] [] := FunD.bindsN F fun _ _ _ _ _ _ us hl => match us, hl with | [_], _ => rfl
  exact ⟨fd, ⟨_, _, _, _, _, [], N__law_is_told, f__law_is_told, F, sc__law_is_told, rfl, fun F => (by simp only [RL]), fun j _ => ⟨[], by rw [List.drop_nil]; exact .nil, b⟩, q__law_is_told, rfl, rfl, c__law_is_told⟩⟩
theorem sc__law_is_made : FnScope N__law_is_made ["_law_text"] (defScope (top 29)) := ⟨by kernel_rfl, by kernel_rfl, by kernel_rfl, by decide +kernel, by kernel_rfl, by decide +kernel, by decide +kernel⟩
theorem q__law_is_made : Qt (("" : PySem.Str), ("_law_is_made" : PySem.Str)) = some f__law_is_made := by kernel_rfl
theorem st__law_is_made {K : PySem.W.Frag} (cS : He.SaysD (faOf sy) fn K) : ∃ fd, St (cvOf K) sy K Qt ((("" : PySem.Str), ("_law_is_made" : PySem.Str)), 1, []) (He.fAd K d__law_is_made.at_) fd ["_law_text"] := by
  obtain ⟨fd, F⟩ := cS.def_ 28 (d := d__law_is_made) rfl
  have b : Binds K fd ["_law_text"] [] := FunD.bindsN F fun _ _ _ _ _ _ us hl => match us, hl with | [_], _ => rfl
  exact ⟨fd, ⟨_, _, _, _, _, [], N__law_is_made, f__law_is_made, F, sc__law_is_made, rfl, fun F => (by simp only [RL]), fun j _ => ⟨[], by rw [List.drop_nil]; exact .nil, b⟩, q__law_is_made, rfl, rfl, c__law_is_made⟩⟩
theorem sc__law_is_term : FnScope N__law_is_term ["_law_text"] (defScope (top 30)) := ⟨by kernel_rfl, by kernel_rfl, by kernel_rfl, by decide +kernel, by kernel_rfl, by decide +kernel, by decide +kernel⟩
theorem q__law_is_term : Qt (("" : PySem.Str), ("_law_is_term" : PySem.Str)) = some f__law_is_term := by kernel_rfl
theorem st__law_is_term {K : PySem.W.Frag} (cS : He.SaysD (faOf sy) fn K) : ∃ fd, St (cvOf K) sy K Qt ((("" : PySem.Str), ("_law_is_term" : PySem.Str)), 1, []) (He.fAd K d__law_is_term.at_) fd ["_law_text"] := by
  obtain ⟨fd, F⟩ := cS.def_ 29 (d := d__law_is_term) rfl
  have b : Binds K fd ["_law_text"] [] := FunD.bindsN F fun _ _ _ _ _ _ us hl => match us, hl with | [_], _ => rfl
  exact ⟨fd, ⟨_, _, _, _, _, [], N__law_is_term, f__law_is_term, F, sc__law_is_term, rfl, fun F => (by simp only [RL]), fun j _ => ⟨[], by rw [List.drop_nil]; exact .nil, b⟩, q__law_is_term, rfl, rfl, c__law_is_term⟩⟩
theorem sc__law_seen : FnScope N__law_seen ["_law_told"] (defScope (top 31)) := ⟨by kernel_rfl, by kernel_rfl, by kernel_rfl, by decide +kernel, by kernel_rfl, by decide +kernel, by decide +kernel⟩
theorem q__law_seen : Qt (("" : PySem.Str), ("_law_seen" : PySem.Str)) = some f__law_seen := by kernel_rfl
theorem st__law_seen {K : PySem.W.Frag} (cS : He.SaysD (faOf sy) fn K) : ∃ fd, St (cvOf K) sy K Qt ((("" : PySem.Str), ("_law_seen" : PySem.Str)), 1, []) (He.fAd K d__law_seen.at_) fd ["_law_told"] := by
  obtain ⟨fd, F⟩ := cS.def_ 30 (d := d__law_seen) rfl
  have b : Binds K fd ["_law_told"] [] := FunD.bindsN F fun _ _ _ _ _ _ us hl => match us, hl with | [_], _ => rfl
  exact ⟨fd, ⟨_, _, _, _, _, [], N__law_seen, f__law_seen, F, sc__law_seen, rfl, fun F => (by simp only [RL]), fun j _ => ⟨[], by rw [List.drop_nil]; exact .nil, b⟩, q__law_seen, rfl, rfl, c__law_seen⟩⟩
theorem sc__law_heap : FnScope N__law_heap ["_law_bag_here", "_law_names_here", "_law_most"] (defScope (top 32)) := ⟨by kernel_rfl, by kernel_rfl, by kernel_rfl, by decide +kernel, by kernel_rfl, by decide +kernel, by decide +kernel⟩
theorem q__law_heap : Qt (("" : PySem.Str), ("_law_heap" : PySem.Str)) = some f__law_heap := by kernel_rfl
theorem st__law_heap {K : PySem.W.Frag} (cS : He.SaysD (faOf sy) fn K) : ∃ fd, St (cvOf K) sy K Qt ((("" : PySem.Str), ("_law_heap" : PySem.Str)), 3, []) (He.fAd K d__law_heap.at_) fd ["_law_bag_here", "_law_names_here", "_law_most"] := by
  obtain ⟨fd, F⟩ := cS.def_ 31 (d := d__law_heap) rfl
  have b : Binds K fd ["_law_bag_here", "_law_names_here", "_law_most"] [] := FunD.bindsN F fun _ _ _ _ _ _ us hl => match us, hl with | [_, _, _], _ => rfl
  exact ⟨fd, ⟨_, _, _, _, _, [], N__law_heap, f__law_heap, F, sc__law_heap, rfl, fun F => (by simp only [RL]), fun j _ => ⟨[], by rw [List.drop_nil]; exact .nil, b⟩, q__law_heap, rfl, rfl, c__law_heap⟩⟩
theorem sc__law_made_heap : FnScope N__law_made_heap ["_law_spots", "_law_links"] (defScope (top 33)) := ⟨by kernel_rfl, by kernel_rfl, by kernel_rfl, by decide +kernel, by kernel_rfl, by decide +kernel, by decide +kernel⟩
theorem q__law_made_heap : Qt (("" : PySem.Str), ("_law_made_heap" : PySem.Str)) = some f__law_made_heap := by kernel_rfl
theorem st__law_made_heap {K : PySem.W.Frag} (cS : He.SaysD (faOf sy) fn K) : ∃ fd, St (cvOf K) sy K Qt ((("" : PySem.Str), ("_law_made_heap" : PySem.Str)), 2, []) (He.fAd K d__law_made_heap.at_) fd ["_law_spots", "_law_links"] := by
  obtain ⟨fd, F⟩ := cS.def_ 32 (d := d__law_made_heap) rfl
  have b : Binds K fd ["_law_spots", "_law_links"] [] := FunD.bindsN F fun _ _ _ _ _ _ us hl => match us, hl with | [_, _], _ => rfl
  exact ⟨fd, ⟨_, _, _, _, _, [], N__law_made_heap, f__law_made_heap, F, sc__law_made_heap, rfl, fun F => (by simp only [RL]), fun j _ => ⟨[], by rw [List.drop_nil]; exact .nil, b⟩, q__law_made_heap, rfl, rfl, c__law_made_heap⟩⟩
theorem sc__law_bent_names : FnScope N__law_bent_names ["_law_bag_here", "_law_spots"] (defScope (top 34)) := ⟨by kernel_rfl, by kernel_rfl, by kernel_rfl, by decide +kernel, by kernel_rfl, by decide +kernel, by decide +kernel⟩
theorem q__law_bent_names : Qt (("" : PySem.Str), ("_law_bent_names" : PySem.Str)) = some f__law_bent_names := by kernel_rfl
theorem st__law_bent_names {K : PySem.W.Frag} (cS : He.SaysD (faOf sy) fn K) : ∃ fd, St (cvOf K) sy K Qt ((("" : PySem.Str), ("_law_bent_names" : PySem.Str)), 2, []) (He.fAd K d__law_bent_names.at_) fd ["_law_bag_here", "_law_spots"] := by
  obtain ⟨fd, F⟩ := cS.def_ 33 (d := d__law_bent_names) rfl
  have b : Binds K fd ["_law_bag_here", "_law_spots"] [] := FunD.bindsN F fun _ _ _ _ _ _ us hl => match us, hl with | [_, _], _ => rfl
  exact ⟨fd, ⟨_, _, _, _, _, [], N__law_bent_names, f__law_bent_names, F, sc__law_bent_names, rfl, fun F => (by simp only [RL]), fun j _ => ⟨[], by rw [List.drop_nil]; exact .nil, b⟩, q__law_bent_names, rfl, rfl, c__law_bent_names⟩⟩
theorem sc__law_bent_cells : FnScope N__law_bent_cells ["_law_bag_here", "_law_links"] (defScope (top 35)) := ⟨by kernel_rfl, by kernel_rfl, by kernel_rfl, by decide +kernel, by kernel_rfl, by decide +kernel, by decide +kernel⟩
theorem q__law_bent_cells : Qt (("" : PySem.Str), ("_law_bent_cells" : PySem.Str)) = some f__law_bent_cells := by kernel_rfl
theorem st__law_bent_cells {K : PySem.W.Frag} (cS : He.SaysD (faOf sy) fn K) : ∃ fd, St (cvOf K) sy K Qt ((("" : PySem.Str), ("_law_bent_cells" : PySem.Str)), 2, []) (He.fAd K d__law_bent_cells.at_) fd ["_law_bag_here", "_law_links"] := by
  obtain ⟨fd, F⟩ := cS.def_ 34 (d := d__law_bent_cells) rfl
  have b : Binds K fd ["_law_bag_here", "_law_links"] [] := FunD.bindsN F fun _ _ _ _ _ _ us hl => match us, hl with | [_, _], _ => rfl
  exact ⟨fd, ⟨_, _, _, _, _, [], N__law_bent_cells, f__law_bent_cells, F, sc__law_bent_cells, rfl, fun F => (by simp only [RL]), fun j _ => ⟨[], by rw [List.drop_nil]; exact .nil, b⟩, q__law_bent_cells, rfl, rfl, c__law_bent_cells⟩⟩
theorem sc__law_good : FnScope N__law_good ["_law_spots", "_law_links"] (defScope (top 36)) := ⟨by kernel_rfl, by kernel_rfl, by kernel_rfl, by decide +kernel, by kernel_rfl, by decide +kernel, by decide +kernel⟩
theorem q__law_good : Qt (("" : PySem.Str), ("_law_good" : PySem.Str)) = some f__law_good := by kernel_rfl
theorem st__law_good {K : PySem.W.Frag} (cS : He.SaysD (faOf sy) fn K) : ∃ fd, St (cvOf K) sy K Qt ((("" : PySem.Str), ("_law_good" : PySem.Str)), 2, []) (He.fAd K d__law_good.at_) fd ["_law_spots", "_law_links"] := by
  obtain ⟨fd, F⟩ := cS.def_ 35 (d := d__law_good) rfl
  have b : Binds K fd ["_law_spots", "_law_links"] [] := FunD.bindsN F fun _ _ _ _ _ _ us hl => match us, hl with | [_, _], _ => rfl
  exact ⟨fd, ⟨_, _, _, _, _, [], N__law_good, f__law_good, F, sc__law_good, rfl, fun F => (by simp only [RL]), fun j _ => ⟨[], by rw [List.drop_nil]; exact .nil, b⟩, q__law_good, rfl, rfl, c__law_good⟩⟩
theorem sc_law : FnScope N_law ["_law_script"] (defScope (top 37)) := ⟨by kernel_rfl, by kernel_rfl, by kernel_rfl, by decide +kernel, by kernel_rfl, by decide +kernel, by decide +kernel⟩
theorem q_law : Qt (("" : PySem.Str), ("law" : PySem.Str)) = some f_law := by kernel_rfl
theorem st_law {K : PySem.W.Frag} (cS : He.SaysD (faOf sy) fn K) : ∃ fd, St (cvOf K) sy K Qt ((("" : PySem.Str), ("law" : PySem.Str)), 1, []) (He.fAd K d_law.at_) fd ["_law_script"] := by
  obtain ⟨fd, F⟩ := cS.def_ 36 (d := d_law) rfl
  have b : Binds K fd ["_law_script"] [] := FunD.bindsN F fun _ _ _ _ _ _ us hl => match us, hl with | [_], _ => rfl
  exact ⟨fd, ⟨_, _, _, _, _, [], N_law, f_law, F, sc_law, rfl, fun F => (by simp only [RL]), fun j _ => ⟨[], by rw [List.drop_nil]; exact .nil, b⟩, q_law, rfl, rfl, c_law⟩⟩
theorem sts {K : PySem.W.Frag} (cS : He.SaysD (faOf sy) fn K) : ∀ p ∈ sy.fns, ∃ fd ps, St (cvOf K) sy K Qt p (fkA K p.1) fd ps := by
  intro p hp
  simp only [sy, List.append_eq, List.mem_append, List.mem_cons, List.not_mem_nil, or_false, or_assoc] at hp
  rcases hp with rfl | rfl | rfl | rfl | rfl | rfl | rfl | rfl | rfl | rfl | rfl | rfl | rfl | rfl | rfl | rfl | rfl | rfl | rfl | rfl | rfl | rfl | rfl | rfl | rfl | rfl | rfl | rfl | rfl | rfl | rfl | rfl | rfl | rfl | rfl | rfl | rfl
  · obtain ⟨fd, h⟩ := st__wall cS; exact ⟨fd, _, h⟩
  · obtain ⟨fd, h⟩ := st_is_told cS; exact ⟨fd, _, h⟩
  · obtain ⟨fd, h⟩ := st_is_made cS; exact ⟨fd, _, h⟩
  · obtain ⟨fd, h⟩ := st_is_name cS; exact ⟨fd, _, h⟩
  · obtain ⟨fd, h⟩ := st_is_place cS; exact ⟨fd, _, h⟩
  · obtain ⟨fd, h⟩ := st_good_names cS; exact ⟨fd, _, h⟩
  · obtain ⟨fd, h⟩ := st_good_cells cS; exact ⟨fd, _, h⟩
  · obtain ⟨fd, h⟩ := st_Heap___init__ cS; exact ⟨fd, _, h⟩
  · obtain ⟨fd, h⟩ := st_Heap___eq__ cS; exact ⟨fd, _, h⟩
  · obtain ⟨fd, h⟩ := st_Heap___len__ cS; exact ⟨fd, _, h⟩
  · obtain ⟨fd, h⟩ := st_Heap___str__ cS; exact ⟨fd, _, h⟩
  · obtain ⟨fd, h⟩ := st_Heap___repr__ cS; exact ⟨fd, _, h⟩
  · obtain ⟨fd, h⟩ := st_Heap_place cS; exact ⟨fd, _, h⟩
  · obtain ⟨fd, h⟩ := st_Heap_follow cS; exact ⟨fd, _, h⟩
  · obtain ⟨fd, h⟩ := st_Heap_has_cell cS; exact ⟨fd, _, h⟩
  · obtain ⟨fd, h⟩ := st_Heap_names cS; exact ⟨fd, _, h⟩
  · obtain ⟨fd, h⟩ := st_Heap_cells cS; exact ⟨fd, _, h⟩
  · obtain ⟨fd, h⟩ := st_Heap_with_name cS; exact ⟨fd, _, h⟩
  · obtain ⟨fd, h⟩ := st_Heap_with_cell cS; exact ⟨fd, _, h⟩
  · obtain ⟨fd, h⟩ := st_Heap_without cS; exact ⟨fd, _, h⟩
  · obtain ⟨fd, h⟩ := st_Heap_only cS; exact ⟨fd, _, h⟩
  · obtain ⟨fd, h⟩ := st_Heap_room cS; exact ⟨fd, _, h⟩
  · obtain ⟨fd, h⟩ := st__law_bag cS; exact ⟨fd, _, h⟩
  · obtain ⟨fd, h⟩ := st__law_pull cS; exact ⟨fd, _, h⟩
  · obtain ⟨fd, h⟩ := st__law_one_of cS; exact ⟨fd, _, h⟩
  · obtain ⟨fd, h⟩ := st__law_same cS; exact ⟨fd, _, h⟩
  · obtain ⟨fd, h⟩ := st__law_names cS; exact ⟨fd, _, h⟩
  · obtain ⟨fd, h⟩ := st__law_is_told cS; exact ⟨fd, _, h⟩
  · obtain ⟨fd, h⟩ := st__law_is_made cS; exact ⟨fd, _, h⟩
  · obtain ⟨fd, h⟩ := st__law_is_term cS; exact ⟨fd, _, h⟩
  · obtain ⟨fd, h⟩ := st__law_seen cS; exact ⟨fd, _, h⟩
  · obtain ⟨fd, h⟩ := st__law_heap cS; exact ⟨fd, _, h⟩
  · obtain ⟨fd, h⟩ := st__law_made_heap cS; exact ⟨fd, _, h⟩
  · obtain ⟨fd, h⟩ := st__law_bent_names cS; exact ⟨fd, _, h⟩
  · obtain ⟨fd, h⟩ := st__law_bent_cells cS; exact ⟨fd, _, h⟩
  · obtain ⟨fd, h⟩ := st__law_good cS; exact ⟨fd, _, h⟩
  · obtain ⟨fd, h⟩ := st_law cS; exact ⟨fd, _, h⟩
def loose0 : List PySem.Str := ["_wall", "LinkError", "BadHeap", "Missing", "NoPlace", "LETTERS", "FIGURES", "LONGEST", "NIL", "is_told", "is_made", "is_name", "FARTHEST", "MOST_NAMES", "MOST_CELLS", "is_place", "good_names", "good_cells", "Heap", "_law_bag"]
def loose1 : List PySem.Str := ["_law_pull", "_law_one_of", "_law_same", "_law_names", "_law_is_told", "_law_is_made", "_law_is_term", "_law_seen", "_law_heap", "_law_made_heap", "_law_bent_names", "_law_bent_cells", "_law_good"]
abbrev R0 : PySem.W.OpenRow := PySem.W.OpenLaw.row PySem.Challenge.rw_linkstead_k03_heaps_made
abbrev hk : PySem.W.Hook := He.hookD 5 (faOf sy) fn
def ob (s : PySem.W.SharedT) : He.AlD := He.obsDG 5 (faOf sy) fn (HandSHeadRun.getT s)
def loose : List PySem.Str := loose0 ++ loose1
theorem run (w : World) : HandSHeadRun.RunEq R0 (PySem.W.view R0.prog [37]) hk ob 5000 loose w := by
  intro os; kernel_rfl
def NN : Nat := 14
theorem st_law2 {K : PySem.W.Frag} (cS : He.SaysD (faOf sy) fn K) : ∃ fd, St (cvOf K) sy K Qt ((("" : PySem.Str), ("law" : PySem.Str)), 1, []) (He.ga K "law") fd ["_law_script"] ∧ ∀ (s : Shared) (v : Value), BindsTo s fd ⟨[v], []⟩ [("_law_script", v)] := by
  obtain ⟨fd, F⟩ := cS.def_ 36 (d := d_law) rfl
  have b : Binds K fd ["_law_script"] [] := FunD.bindsN F fun _ _ _ _ _ _ us hl => match us, hl with | [_], _ => rfl
  have b2 := FunD.bindsA (ps := ["_law_script"]) F fun _ _ _ _ _ _ us hl => match us, hl with | [_], _ => rfl
  exact ⟨fd, ⟨_, _, _, _, _, [], N_law, f_law, F, sc_law, rfl, fun F => (by simp only [RL]), fun j _ => ⟨[], by rw [List.drop_nil]; exact .nil, b⟩, q_law, rfl, rfl, c_law⟩, fun s v => b2 s [v] rfl⟩
theorem law_eq (ns : List Int) (h1 : ns.length ≤ 63) (h2 : ∀ z ∈ ns, Builtin.Int.intBits z ≤ 1048576) : ∃ fin, callN Qt NN (("" : PySem.Str), ("law" : PySem.Str)) [.sh (.scr ns)] = .ok (.sh (.bl true)) fin := by
  have h := PL.law03 (Q := Qt) { told := q_is_told, made := q_is_made, name := q_is_name, place0 := q_is_place, gnames := q_good_names, gcells := q_good_cells, init := q_Heap___init__, hlen := q_Heap___len__, hnames := q_Heap_names, hplace := q_Heap_place, hcells := q_Heap_cells, pull := q__law_pull, one := q__law_one_of, bag := q__law_bag, same := q__law_same, names := q__law_names, ltold := q__law_is_told, lmade := q__law_is_made, lterm := q__law_is_term, heap := q__law_heap, seen := q__law_seen, mheap := q__law_made_heap, bentn := q__law_bent_names, bentc := q__law_bent_cells, lgood := q__law_good, law := q_law } h1 (K := fun y => ∃ fin, y = .ok (.sh (.bl true)) fin) (fun fin => ⟨fin, rfl⟩)
  unfold PL.WC at h
  exact h
end HT
open PySem PySem.W PySem.Calls PyProof.Rows
theorem PySem.Challenge.cw_linkstead_k03_heaps_made_holds : PySem.Challenge.rw_linkstead_k03_heaps_made.Holds := by
  w_on; o_law
  refine HandSHeadRun.head_any (r := OpenLaw.row PySem.Challenge.rw_linkstead_k03_heaps_made) (q := view (OpenLaw.row PySem.Challenge.rw_linkstead_k03_heaps_made).prog [37]) (H := HT.hk) (ob := HT.ob) (M := 5000) (loose := HT.loose) (d := HandSHeadRun.topDef (OpenLaw.row PySem.Challenge.rw_linkstead_k03_heaps_made).prog 37)
    (kwd := []) (fun s => He.obsDG_eq (HandSHeadRun.getT_eq s)) (by kernel_rfl) (fun s => by kernel_rfl) HT.run (by kernel_rfl) (by kernel_rfl) (by kernel_rfl) (by rfl) (by first | assumption | decide +kernel) (by decide +kernel) ⟨rfl, rfl, rfl, rfl, rfl, by decide +kernel⟩ ?hw ?hc
  case hw => w_witness2
  case hc =>
    refine MP.walk_EB (l := PySem.Challenge.rw_linkstead_k03_heaps_made) (n := 63) (k := 2 * HT.NN) (x := "_law_script") (CX := L2.CX PySem.Challenge.rw_linkstead_k03_heaps_made.prog) rfl (by decide) (by kernel_rfl) ⟨rfl, by decide, by decide⟩ ?F (fun w H s e s' h => MP.cx_no H s e s' h)
    intro w mg fa h Y G hmg0
    obtain ⟨K, KX, c⟩ := Y
    have hmg : mg ("law" : PySem.Str) = some (.ref fa) := by
      have e : (HandSHeadRun.topDef (OpenLaw.row PySem.Challenge.rw_linkstead_k03_heaps_made).prog 37).name = ("law" : PySem.Str) := by kernel_rfl
      rw [← e]
      exact hmg0
    obtain ⟨fd, hb, hF⟩ := MP.law_facts (P := (PySem.Challenge.rw_linkstead_k03_heaps_made).prog) (w := w) (n := HT.NN) (x := "_law_script") KX G c (by decide +kernel) (HT.sts c) (fun p hp => by cases hp) (np := 1) (by simp [HT.sy]) (HT.st_law2 c) hmg
    exact ⟨K, fd, _, KX, hb, fun H a ns hl hbits hS => (HT.law_eq ns hl hbits).elim fun fin e => MP.law_sp (sy := HT.sy) e hS, hF⟩
