import PyProof.Rows.All
import HandS.Head0
import HandS.Head1
import HandS.Head2
import HandS.HeadEnd
import HandS.Ends
import KE.KStateDown
import Lean
import HandS.HeadHook4
import HandS.Flow
import HandS.TupMul
import PyProof.ReprRoads
import HandS.Style
import HandS.HeadHook1
import HandS.HeadHook2
import HandS.Words
import HandS.WordsExc
import HandS.NestedK
import KE.KIsAll
import HandS.IsInst
import HandS.Lambda
import HandS.EndBits
import HandS.EndTab
import HandS.Iter
import HandS.Text
import HandS.Dict
import HandS.Conv
import HandS.Wide
import HandS.Deep
import HandS.TupAny
import HandS.Comp
import HandS.ExcOwn
import HandS.ForExc
import HandS.Set
import HandS.SetFor
import HandS.Strs
import PySem.PyData
import HandS.RaiseMore
import PyProof.IsRules
import HandS.Codes
import HandS.SlotsOwn
import KE.KFmtOwn
import KE.KOpsOwn
import OpenK.KMeth
import HandS.TupLen
import HandS.WordsDict
import HandS.DictComp
import HandS.DeepEq
import KE.SortData
import PyProof.Rows.CallKwBuiltin
import PyProof.WalkInts
import HandS.Zip
import HandS.ExcIs
import HandS.NoneIn
import PyProof.Draws
import HandS.HotCalls
import HandS.Finally
import HandS.More
import PyProof.CallFns
import OpenK.KOps
import HandS.ListItems
import PyProof.ReprLen
import PyProof.StrLawsIn
import PySem.Challenge.RW_againtrees_k42_great_games
set_option Elab.async false
set_option linter.all false
set_option maxRecDepth 100000
set_option maxHeartbeats 1000000
namespace AGS
open PySem PySem.Spec PyProof.Rows L2
def tkey (v : Value) : Str := match v with
  | .str x _ => x
  | _ => Str.empty
abbrev SK (P : Program) (w : World) := PySem.strKind P w
theorem sk_key {P : Program} {w : World} {k : Str} {v : Value} (h : (SK P w).is k v = true) : tkey v = k := by
  obtain ⟨t, rfl⟩ := Value.isStrOf_shape h
  rfl
def TS (P : Program) (w : World) (h : Heap) (a : Addr) (l : List Str) : Prop :=
  ∃ ob elts epo tab, h.get? a = some ob ∧ ob.ExactSet ∧ ob.data = .set elts epo tab ∧ ElemsOf (SK P w) elts.toList ∧ (elts.toList.map fun e => tkey e.2).Perm l ∧ l.Nodup ∧
    elts.size < scanBound ∧ tab.fits elts.size = true ∧ Ris tab.place.toList ∧ (w.params.followText "set-order" = true ∨ tab.led = true)
section
variable {P : Program} {w : World} {h h' : Heap} {a : Addr} {l : List Str}
theorem TS.at (R : TS P w h a l) (k : ∀ o, h.get? a = some o → h'.get? a = some o) : TS P w h' a l :=
  let ⟨ob, elts, epo, tab, g, r⟩ := R
  ⟨ob, elts, epo, tab, k ob g, r⟩
theorem TS.ob (R : TS P w h a l) : ∃ o, h.get? a = some o :=
  let ⟨ob, _, _, _, g, _⟩ := R
  ⟨ob, g⟩
theorem el_key {e : Int × Value} {l : List (Int × Value)} (hl : ElemsOf (SK P w) l) (he : e ∈ l) (k : Str) : (SK P w).is k e.2 = true ↔ tkey e.2 = k := by
  obtain ⟨⟨k0, h1, _⟩, _⟩ := hl e he
  have e0 := sk_key h1
  constructor
  · intro z
    exact sk_key z
  · intro z
    rw [e0] at z
    rw [← z]
    exact h1
end
def ins (l : List Str) (k : Str) : List Str := if k ∈ l then l else l ++ [k]
section
variable {P : Program} {w : World} {A : Around} {E : Value → Shared → Prop} {s : Shared} {a : Addr} {l : List Str}
theorem ts_store {gv : Bool → Sem Unit} (hgv : ∀ (b : Bool) (s1 : Shared) (Q1 : Unit → Shared → Prop), Q1 () s1 → wpAny (model P w) A (gv b) Q1 E s1)
    {ob : Obj} {e0 : Array (Int × Value)} {epo : Nat} {t0 : SetTable} (g : s.heap.get? a = some ob) (x : ob.ExactSet) (d : ob.data = .set e0 epo t0)
    {e1 : Array (Int × Value)} {t1 : SetTable} (k1 : ElemsOf (SK P w) e1.toList) (p1 : (e1.toList.map fun e => tkey e.2).Perm l) (n1 : l.Nodup)
    (z1 : e1.size < scanBound) (f1 : t1.fits e1.size = true) (r1 : Ris t1.place.toList) (o1 : w.params.followText "set-order" = true ∨ t1.led = true) {dm : Bool} {R : Option Bool → Shared → Prop}
    (hR : ∀ h2, Heap.SameBut a s.heap h2 → TS P w h2 a l → R (some true) { s with heap := h2 }) :
    wpAny (model P w) A (do
        storeSet a e1 t1
        if (!dm && t1.tooFull) = true then do
            gv (relayAll t1 e1 (SetTable.grown e1.size)).2.2
            storeSet a (relayAll t1 e1 (SetTable.grown e1.size)).1 (relayAll t1 e1 (SetTable.grown e1.size)).2.1
            pure (some true)
          else pure (some true)) R E s := by
  have first_ := store_at (es' := e1) (t' := t1) g d
  have but := Heap.SameBut.update s.heap a (Obj.putSet e1 t1)
  refine wpAny_bind (wpAny_storeSet_of g d ?_ (fits_of_scanBound z1))
  by_cases full : (!dm && t1.tooFull) = true
  · rw [if_pos full]
    obtain ⟨perm_, fit_, ris_, led_⟩ : _ ∧ _ ∧ _ ∧ _ := ⟨relayAll_perm t1 e1 (SetTable.grown e1.size), relayAll_fits t1 e1 (SetTable.grown e1.size), relayAll_ris t1 e1 (SetTable.grown e1.size), relayAll_led t1 e1 (SetTable.grown e1.size)⟩
    generalize relayAll t1 e1 (SetTable.grown e1.size) = made at perm_ fit_ ris_ led_ ⊢
    obtain ⟨e2, t2, way⟩ := made
    dsimp only at perm_ fit_ ris_ led_ ⊢
    have same : e2.size = e1.size := by
      have := perm_.length_eq
      rwa [Array.length_toList, Array.length_toList] at this
    have z2 : e2.size < scanBound := by omega
    refine wpAny_bind (hgv _ _ _ (wpAny_bind (wpAny_storeSet_of first_ rfl ?_ (fits_of_scanBound z2))))
    have second_ := store_at (es' := e2) (t' := t2) first_ rfl
    refine wpAny_pure (hR _ (but.trans (Heap.SameBut.update _ a _)) ⟨_, e2, _, t2, second_, x, rfl, fun e he => k1 e (perm_.mem_iff.mp he), (perm_.map _).trans p1, n1, z2, fit_, ris_, ?_⟩)
    rcases o1 with o1 | o1
    · exact .inl o1
    · exact .inr (led_.trans o1)
  · rw [if_neg full]
    exact wpAny_pure (hR _ but ⟨_, e1, _, t1, first_, x, rfl, k1, p1, n1, z1, f1, r1, o1⟩)
theorem ts_put {k : Str} {tk : Tok} {Q : Bool → Shared → Prop} (R : TS P w s.heap a l) (room : l.length + 1 < scanBound)
    (hQ : ∀ (b : Bool) (h2 : Heap), Heap.SameBut a s.heap h2 → TS P w h2 a (ins l k) → Q b { s with heap := h2 }) :
    wpAny (model P w) A (setAddHashed a (.str k tk) ((SK P w).hash k)) Q E s := by
  obtain ⟨ob, e0, epo, t0, g, x, d, els, pm0, nod, z0, f0, r0, o0⟩ := R
  have isk : (SK P w).is k (.str k tk) = true := strKind_is P w k tk
  have scn : (Value.str k tk).scannable = true := rfl
  unfold setAddHashed setAddHashedIn
  refine wpAny_holding (wpAny_bind (wpAny_setState_of g d f0 ?_))
  dsimp only
  rw [byScan_of scn z0 els]
  simp only [↓reduceIte]
  unfold setAddByScan
  refine wpAny_bind (wpAny_bind (wpAny_rule (wpAny_bind (wpAny_setScan_of isk g d f0 els ?_))))
  cases hit : List.findIdx? (fun e => (SK P w).is k e.2) e0.toList with
  | some j =>
    dsimp only
    obtain ⟨jl, js, _⟩ := List.findIdx?_eq_some_iff_getElem.mp hit
    have inl : k ∈ l := by
      rw [← pm0.mem_iff, List.mem_map]
      exact ⟨e0.toList[j], List.getElem_mem jl, sk_key js⟩
    have same : ins l k = l := if_pos inl
    refine wpAny_pure (wpAny_pure (hQ _ s.heap (Heap.SameBut.refl a s.heap) ?_))
    rw [same]
    exact ⟨ob, e0, epo, t0, g, x, d, els, pm0, nod, z0, f0, r0, o0⟩
  | none =>
    dsimp only
    have out : k ∉ l := by
      rw [← pm0.mem_iff, List.mem_map]
      rintro ⟨e, he, q⟩
      have no := List.findIdx?_eq_none_iff.mp hit e he
      rw [(el_key els he k).mpr q] at no
      cases no
    have more : ins l k = l ++ [k] := if_neg out
    have way : ∀ (b : Bool) {s1 : Shared} {Q1 : Unit → Shared → Prop}, Q1 () s1 → wpAny (model P w) A (match b with | true => rule "set.scan.the-table-gave-way" | false => pure ()) Q1 E s1 := by
      intro b s1 Q1 q
      cases b
      · exact wpAny_pure q
      · exact wpAny_rule q
    obtain ⟨perm_, fit_, ris_, led_⟩ : _ ∧ _ ∧ _ ∧ _ := ⟨layNew_perm t0 e0 ((SK P w).hash k) (.str k tk), layNew_fits t0 e0 ((SK P w).hash k) (.str k tk), layNew_ris t0 e0 ((SK P w).hash k) (.str k tk) r0, layNew_led t0 e0 ((SK P w).hash k) (.str k tk)⟩
    generalize layNew t0 e0 ((SK P w).hash k) (.str k tk) = made at perm_ fit_ ris_ led_ ⊢
    obtain ⟨e1, t1, dm, gave⟩ := made
    dsimp only at perm_ fit_ ris_ led_ ⊢
    rw [Array.toList_push] at perm_
    have k1 : ElemsOf (SK P w) e1.toList := fun e he => by
      rcases List.mem_append.mp (perm_.mem_iff.mp he) with he | he
      · exact els e he
      · simp only [List.mem_singleton] at he
        subst he
        exact ⟨⟨k, isk, rfl⟩, scn⟩
    have p1 : (e1.toList.map fun e => tkey e.2).Perm (l ++ [k]) := by
      refine (perm_.map fun e => tkey e.2).trans ?_
      rw [List.map_append]
      exact pm0.append_right _
    have n1 : (l ++ [k]).Nodup := by
      rw [List.nodup_append]
      refine ⟨nod, by simp, ?_⟩
      intro y hy y2 hy2
      simp only [List.mem_singleton] at hy2
      subst hy2
      exact fun z => out (z ▸ hy)
    have len1 : e1.size = l.length + 1 := by
      have := p1.length_eq
      rw [List.length_map, Array.length_toList, List.length_append] at this
      simpa using this
    have z1 : e1.size < scanBound := by omega
    have o1 : w.params.followText "set-order" = true ∨ t1.led = true := by
      rcases o0 with o0 | o0
      · exact .inl o0
      · exact .inr (led_.trans o0)
    have done_ : ∀ h2, Heap.SameBut a s.heap h2 → TS P w h2 a (l ++ [k]) → Q true { s with heap := h2 } := fun h2 sb r => hQ true h2 sb (by rw [more]; exact r)
    refine wpAny_bind (way _ ?_)
    split
    · refine wpAny_bind ?_
      rw [hashByValue_scannable 8 scn]
      refine wpAny_pure (ts_store (fun b s1 Q1 q => by cases b <;> first | exact wpAny_pure q | exact wpAny_rule q) g x d k1 p1 n1 z1 ?_ ?_ ?_ fun h2 sb r => ?_)
      · first | (split <;> first | exact fit_ | exact SetTable.fits_plain_off fit_) | exact fit_
      · first | (split <;> exact ris_) | exact ris_
      · first | (split <;> exact o1) | exact o1
      · dsimp only
        exact wpAny_pure (done_ h2 sb r)
    · refine wpAny_bind (wpAny_pure ?_)
      simp only [↓reduceIte]
      refine ts_store (fun b s1 Q1 q => by cases b <;> first | exact wpAny_pure q | exact wpAny_rule q) g x d k1 p1 n1 z1 fit_ ris_ o1 fun h2 sb r => ?_
      dsimp only
      exact wpAny_pure (done_ h2 sb r)
end
abbrev bare (w : World) : Obj := { cls := .type "set", dict := none, data := .set #[] 0 (.fresh 0 0 (!w.params.followText "set-order")) }
theorem ts_bare {P : Program} {w : World} {h : Heap} {a : Addr} (g : h.get? a = some (bare w)) : TS P w h a [] := by
  refine ⟨_, #[], 0, _, g, ⟨rfl, rfl, rfl⟩, rfl, fun e he => by simp at he, by simp, List.nodup_nil, by decide, by rfl, List.Pairwise.nil, ?_⟩
  show _ ∨ (!w.params.followText "set-order") = true
  cases w.params.followText "set-order"
  · exact .inr rfl
  · exact .inl rfl
def dist : List Str → List Str → List Str
  | acc, [] => acc
  | acc, x :: xs => dist (ins acc x) xs
theorem ins_len (l : List Str) (k : Str) : (ins l k).length ≤ l.length + 1 := by
  unfold ins
  split
  · omega
  · simp
theorem dist_take : ∀ (xs acc : List Str) (i : Nat) (x : Str), xs[i]? = some x → dist acc (xs.take (i + 1)) = ins (dist acc (xs.take i)) x
  | [], _, _, _, h => by simp at h
  | y :: xs, acc, 0, x, h => by
    simp only [List.getElem?_cons_zero, Option.some.injEq] at h
    subst h
    rfl
  | y :: xs, acc, i + 1, x, h => by
    simp only [List.getElem?_cons_succ] at h
    rw [List.take_succ_cons, List.take_succ_cons]
    exact dist_take xs (ins acc y) i x h
section
variable {P : Program} {w : World} {A : Around} {E : Value → Shared → Prop} {s : Shared}
theorem ts_loop {I : Addr} {fp wr : List Addr} {G : Array GenState → Array GenState → Prop} {n : Nat} {Pv : Nat → Value → Prop} {St : Nat → Shared → Prop} {R : Result → Shared → Prop}
    (W : WalksS P w A.in1 I fp wr G n Pv St) (S : Addr) (nf : S ∉ fp) (xs : List Str) (hn : n = xs.length) (few : xs.length + 1 < scanBound) (val : ∀ i v, Pv i v → ∃ k t, xs[i]? = some k ∧ v = .str k t) :
    ∀ (k i : Nat) (s : Shared), n - i = k → i ≤ n → St i s → (dist [] (xs.take i)).length ≤ i → TS P w s.heap S (dist [] (xs.take i)) →
      (∀ s', Moved (S :: wr) G s s' → TS P w s'.heap S (dist [] xs) → R (.ok (.ret .none)) s') →
      codeAny (model P w) A (.builtin "set.update.loop" ⟨[.ref S, .ref I], []⟩) R s := by
  have nw : S ∉ wr := fun q => nf (W.sub _ q)
  have wider : ∀ b ∈ wr, b ∈ S :: wr := fun b hb => List.mem_cons_of_mem _ hb
  intro k
  induction k with
  | zero =>
    intro i s hk hi st len hS hR
    obtain rfl : i = n := by omega
    refine codeAny_builtin F.entry_set_update_loop ?_
    rw [Around.under_plainId F.plain_set_update_loop _]
    show wpAny _ A.in1 (pyNext (.ref I) >>= _) _ _ s
    refine wpAny_bind (W.done s _ _ st fun s' mv => ?_)
    show wpAny _ A.in1 (ret Value.none) _ _ s'
    have all_ : xs.take i = xs := List.take_of_length_le (by omega)
    rw [all_] at hS
    exact wpAny_pure (hR s' (mv.mono wider) (hS.at fun o e => mv.heap S o nw e))
  | succ k ih =>
    intro i s hk hi st len hS hR
    have lt : i < n := by omega
    refine codeAny_builtin F.entry_set_update_loop ?_
    rw [Around.under_plainId F.plain_set_update_loop _]
    show wpAny _ A.in1 (pyNext (.ref I) >>= _) _ _ s
    refine wpAny_bind (W.item i s _ _ lt st fun v s' pv st' mv => ?_)
    obtain ⟨x, t, hx, rfl⟩ := val i v pv
    have hS' : TS P w s'.heap S (dist [] (xs.take i)) := hS.at fun o e => mv.heap S o nw e
    have step_ := dist_take xs [] i x hx
    show wpAny _ A.in1 (holding [Value.str x t] (setAdd S (.str x t)) >>= _) _ _ s'
    refine wpAny_bind (wpAny_holding ?_)
    unfold setAdd
    refine wpAny_holding (wpAny_bind ((SK P w).pyHash (k := x) (strKind_is _ _ _ _) ?_))
    refine ts_put (s := { s' with toks := s'.toks + 1 }) hS' (by omega) fun b h2 but hS2 => ?_
    rw [← step_] at hS2
    have len2 : (dist [] (xs.take (i + 1))).length ≤ i + 1 := by
      rw [step_]
      have := ins_len (dist [] (xs.take i)) x
      omega
    refine wpAny_pure ⟨plainId_quiet F.plain_set_update_loop _, ih (i + 1) _ (by omega) lt (W.frame _ s' _ _ st' (Nat.le_succ _) fun c hc o e => ?_) len2 hS2 fun s2 mv2 hS3 => ?_⟩
    · rw [but.2 c fun z => nf (z ▸ hc)]
      exact e
    · refine hR s2 (Moved.trans W.gtrans ((mv.mono wider).then_heap (Nat.le_succ _) fun c o hc e => ?_) mv2) hS3
      rw [but.2 c fun z => hc (z ▸ List.mem_cons_self)]
      exact e
end
section
variable {P : Program} {w : World} {A : Around} {E : Value → Shared → Prop} {s : Shared}
set_option maxHeartbeats 3200000 in
theorem set_of_tuple {l : Addr} {items : Array Value} (xs : List Str) {Q : Value → Shared → Prop} (hh : A.handled = none) (hl : s.heap.IsTuple l items) (are : StrsAre items.toList xs) (few : xs.length + 1 < scanBound)
    (hQ : ∀ (h2 : Heap) (tk : Nat), TS P w h2 s.heap.objs.size (dist [] xs) → (∀ b o, s.heap.get? b = some o → h2.get? b = some o) → Q (.ref s.heap.objs.size) { s with heap := h2, toks := tk }) :
    wpAny (model P w) A (call (.type "set") [.ref l]) Q E s := by
  have size_ : items.size = xs.length := by
    have q := StrsAre.len_eq are
    rwa [Array.length_toList] at q
  obtain ⟨top_, rest_, mro_⟩ := F.called_set.mro
  have made_ := F.called_set.made
  have sub_ := F.called_set.sub
  refine wpAny_call (codeAny_of_tree ?_)
  show wpAny _ _ (callAny (.type "set") _) _ _ _
  refine wpAny_pure ⟨Code.quiet_builtin _ (by decide +kernel), codeAny_builtin F.entry_type_call ?_⟩
  rw [Around.under_plain (weight_type_call_type "set" [.ref l] []) rfl]
  have a1 := F.called_set.notType
  have a2 := F.called_set.canCreate
  have a3 := F.typeCall_set_1 (.ref l)
  repeat (any_goals (first | assumption | wp_step))
  refine codeAny_mono (code_set_led1 (.ref l) (E := E) (Q₁ := fun z s1 => z = .ref s.heap.objs.size ∧ s1 = { s with heap := s.heap.push (bare w) }) ⟨rfl, rfl⟩) fun r s1 hr => ?_
  cases r with
  | error e => exact hr
  | ok fl =>
    cases fl with
    | ret z =>
      obtain ⟨rfl, rfl⟩ := hr
      have at_ : (s.heap.push (bare w)).get? s.heap.objs.size = some (bare w) := Heap.get?_push_size _ rfl
      have ty_ : Shared.TypeIs { s with heap := s.heap.push (bare w) } (.ref s.heap.objs.size) "set" := ⟨_, at_, rfl⟩
      have i1 := F.called_set.init.lookup
      have i2 := F.called_set.init.bind (.ref s.heap.objs.size)
      repeat (any_goals (first | assumption | wp_step))
      refine codeAny_mono (codeAny_call_builtin (R := wants (fun r s2 => r = .none ∧ ∃ h2 tk, s2 = { s with heap := h2, toks := tk } ∧ TS P w h2 s.heap.objs.size (dist [] xs) ∧
          (∀ b o, s.heap.get? b = some o → h2.get? b = some o)) E) F.called_set.init.plain F.entry_set_init (check_set_init_1 ty_ ?_)) fun r2 s2 hr2 => ?_
      · obtain ⟨ol, gl, cl, nl, dl⟩ := hl
        obtain ⟨oc, od, oda, os⟩ := ol
        simp only at cl dl
        subst cl; subst dl
        have gl2 : (s.heap.push (bare w)).get? l = some { cls := .type "tuple", dict := od, data := .seq items nl, slots := os } := Heap.get?_push_of_some _ gl
        have b1 := F.sub_tuple_set
        have b2 := F.sub_tuple_frozenset
        have b3 : (Value.type "tuple" == Value.type "dict") = false := by decide
        have hl2 : (s.heap.push (bare w)).IsTuple l items := ⟨_, gl2, rfl, nl, rfl⟩
        unfold Builtin.«set.__init__» noKeywords Builtin.Frozenset.updateFrom
        generalize hold : pyIter = PI
        wp_walk
        subst hold
        refine wpAny_pyIter_tuple hl2 (wpAny_bind (wpAny_runValue ?_))
        have low : l < s.heap.objs.size := Heap.lt_size gl
        have none_ : A.in1.in1.in1.handled = none := by simp [hh]
        have ne1 : l ≠ (s.heap.push (bare w)).objs.size := by
          rw [Heap.size_push]
          exact Nat.ne_of_lt (Nat.lt_succ_of_lt low)
        have ne2 : s.heap.objs.size ∉ [(s.heap.push (bare w)).objs.size, l] := by
          rw [Heap.size_push]
          simp only [List.mem_cons, List.not_mem_nil, or_false, not_or]
          exact ⟨Nat.ne_of_lt (Nat.lt_succ_self _), Nat.ne_of_gt low⟩
        have val_ : ∀ (i : Nat) (v : Value), items[i]? = some v → ∃ k t, xs[i]? = some k ∧ v = .str k t := fun i v hv => by
          have hi : i < xs.length := by
            rw [← size_]
            exact (Array.getElem?_eq_some_iff.mp hv).1
          obtain ⟨t, e⟩ := SS.strs_at are i v (by rw [Array.getElem?_toList]; exact hv)
          refine ⟨xs[i], t, List.getElem?_eq_getElem hi, ?_⟩
          rw [e, List.getD_eq_getElem?_getD, List.getElem?_eq_getElem hi]
          rfl
        refine ts_loop ((Walks.tuple none_ _ l ne1 items).toS) s.heap.objs.size ne2 xs size_ few val_ (items.size - 0) 0 _ (by omega) (Nat.zero_le _)
          ⟨⟨_, Heap.get?_push_size _ rfl, rfl, rfl⟩, (hl2.push _)⟩ (by simp [dist]) ?_ ?_
        · exact ts_bare (Heap.get?_push_of_some _ at_)
        · intro s3 mv hS
          obtain ⟨h3, g3, d3, t3, o3⟩ := s3
          have q1 : g3 = s.gens := mv.gens
          have q2 : d3 = s.drawn := mv.drawn
          have q3 : o3 = s.os := mv.os
          subst q1; subst q2; subst q3
          show wpAny _ _ _ _ _ _
          refine wpAny_pure ?_
          show wpAny _ _ (ret Value.none) _ _ _
          refine wpAny_pure ⟨rfl, h3, t3, rfl, hS, fun b o e => ?_⟩
          have lt_ : b < s.heap.objs.size := Heap.lt_size e
          refine mv.heap b o ?_ (Heap.get?_push_of_some _ (Heap.get?_push_of_some _ e))
          rw [Heap.size_push]
          simp only [List.mem_cons, List.not_mem_nil, or_false, not_or]
          exact ⟨Nat.ne_of_lt lt_, Nat.ne_of_lt (Nat.lt_succ_of_lt lt_)⟩
      · cases r2 with
        | error e => exact hr2
        | ok f2 =>
          cases f2 with
          | ret r =>
            obtain ⟨rfl, h2, tk, rfl, hS, kept⟩ := hr2
            repeat (any_goals (first | assumption | wp_step))
            exact hQ _ _ hS kept
          | _ => exact hr2.elim
    | _ => exact hr.elim
set_option maxHeartbeats 3200000 in
theorem set_of_list {l : Addr} {items : Array Value} (xs : List Str) {Q : Value → Shared → Prop} (hh : A.handled = none) (hl : s.heap.IsList l items) (are : StrsAre items.toList xs) (few : xs.length + 1 < scanBound)
    (hQ : ∀ (h2 : Heap) (tk : Nat), TS P w h2 s.heap.objs.size (dist [] xs) → (∀ b o, s.heap.get? b = some o → h2.get? b = some o) → Q (.ref s.heap.objs.size) { s with heap := h2, toks := tk }) :
    wpAny (model P w) A (call (.type "set") [.ref l]) Q E s := by
  have size_ : items.size = xs.length := by
    have q := StrsAre.len_eq are
    rwa [Array.length_toList] at q
  obtain ⟨top_, rest_, mro_⟩ := F.called_set.mro
  have made_ := F.called_set.made
  have sub_ := F.called_set.sub
  refine wpAny_call (codeAny_of_tree ?_)
  show wpAny _ _ (callAny (.type "set") _) _ _ _
  refine wpAny_pure ⟨Code.quiet_builtin _ (by decide +kernel), codeAny_builtin F.entry_type_call ?_⟩
  rw [Around.under_plain (weight_type_call_type "set" [.ref l] []) rfl]
  have a1 := F.called_set.notType
  have a2 := F.called_set.canCreate
  have a3 := F.typeCall_set_1 (.ref l)
  repeat (any_goals (first | assumption | wp_step))
  refine codeAny_mono (code_set_led1 (.ref l) (E := E) (Q₁ := fun z s1 => z = .ref s.heap.objs.size ∧ s1 = { s with heap := s.heap.push (bare w) }) ⟨rfl, rfl⟩) fun r s1 hr => ?_
  cases r with
  | error e => exact hr
  | ok fl =>
    cases fl with
    | ret z =>
      obtain ⟨rfl, rfl⟩ := hr
      have at_ : (s.heap.push (bare w)).get? s.heap.objs.size = some (bare w) := Heap.get?_push_size _ rfl
      have ty_ : Shared.TypeIs { s with heap := s.heap.push (bare w) } (.ref s.heap.objs.size) "set" := ⟨_, at_, rfl⟩
      have i1 := F.called_set.init.lookup
      have i2 := F.called_set.init.bind (.ref s.heap.objs.size)
      repeat (any_goals (first | assumption | wp_step))
      refine codeAny_mono (codeAny_call_builtin (R := wants (fun r s2 => r = .none ∧ ∃ h2 tk, s2 = { s with heap := h2, toks := tk } ∧ TS P w h2 s.heap.objs.size (dist [] xs) ∧
          (∀ b o, s.heap.get? b = some o → h2.get? b = some o)) E) F.called_set.init.plain F.entry_set_init (check_set_init_1 ty_ ?_)) fun r2 s2 hr2 => ?_
      · obtain ⟨ol, gl, cl, nl, dl⟩ := hl
        obtain ⟨oc, od, oda, os⟩ := ol
        simp only at cl dl
        subst cl; subst dl
        have gl2 : (s.heap.push (bare w)).get? l = some { cls := .type "list", dict := od, data := .seq items nl, slots := os } := Heap.get?_push_of_some _ gl
        have b1 := F.sub_list_set
        have b2 := F.sub_list_frozenset
        have b3 : (Value.type "list" == Value.type "dict") = false := by decide
        have hl2 : (s.heap.push (bare w)).IsList l items := ⟨_, gl2, rfl, nl, rfl⟩
        unfold Builtin.«set.__init__» noKeywords Builtin.Frozenset.updateFrom
        generalize hold : pyIter = PI
        wp_walk
        subst hold
        refine wpAny_pyIter_list hl2 (wpAny_bind (wpAny_runValue ?_))
        have low : l < s.heap.objs.size := Heap.lt_size gl
        have none_ : A.in1.in1.in1.handled = none := by simp [hh]
        have ne1 : l ≠ (s.heap.push (bare w)).objs.size := by
          rw [Heap.size_push]
          exact Nat.ne_of_lt (Nat.lt_succ_of_lt low)
        have ne2 : s.heap.objs.size ∉ [(s.heap.push (bare w)).objs.size, l] := by
          rw [Heap.size_push]
          simp only [List.mem_cons, List.not_mem_nil, or_false, not_or]
          exact ⟨Nat.ne_of_lt (Nat.lt_succ_self _), Nat.ne_of_gt low⟩
        have val_ : ∀ (i : Nat) (v : Value), items[i]? = some v → ∃ k t, xs[i]? = some k ∧ v = .str k t := fun i v hv => by
          have hi : i < xs.length := by
            rw [← size_]
            exact (Array.getElem?_eq_some_iff.mp hv).1
          obtain ⟨t, e⟩ := SS.strs_at are i v (by rw [Array.getElem?_toList]; exact hv)
          refine ⟨xs[i], t, List.getElem?_eq_getElem hi, ?_⟩
          rw [e, List.getD_eq_getElem?_getD, List.getElem?_eq_getElem hi]
          rfl
        refine ts_loop ((Walks.list none_ _ l ne1 items).toS) s.heap.objs.size ne2 xs size_ few val_ (items.size - 0) 0 _ (by omega) (Nat.zero_le _)
          ⟨⟨_, Heap.get?_push_size _ rfl, rfl, rfl⟩, (hl2.push _)⟩ (by simp [dist]) ?_ ?_
        · exact ts_bare (Heap.get?_push_of_some _ at_)
        · intro s3 mv hS
          obtain ⟨h3, g3, d3, t3, o3⟩ := s3
          have q1 : g3 = s.gens := mv.gens
          have q2 : d3 = s.drawn := mv.drawn
          have q3 : o3 = s.os := mv.os
          subst q1; subst q2; subst q3
          show wpAny _ _ _ _ _ _
          refine wpAny_pure ?_
          show wpAny _ _ (ret Value.none) _ _ _
          refine wpAny_pure ⟨rfl, h3, t3, rfl, hS, fun b o e => ?_⟩
          have lt_ : b < s.heap.objs.size := Heap.lt_size e
          refine mv.heap b o ?_ (Heap.get?_push_of_some _ (Heap.get?_push_of_some _ e))
          rw [Heap.size_push]
          simp only [List.mem_cons, List.not_mem_nil, or_false, not_or]
          exact ⟨Nat.ne_of_lt lt_, Nat.ne_of_lt (Nat.lt_succ_of_lt lt_)⟩
      · cases r2 with
        | error e => exact hr2
        | ok f2 =>
          cases f2 with
          | ret r =>
            obtain ⟨rfl, h2, tk, rfl, hS, kept⟩ := hr2
            repeat (any_goals (first | assumption | wp_step))
            exact hQ _ _ hS kept
          | _ => exact hr2.elim
    | _ => exact hr.elim
theorem ts_collect {a : Addr} {l : List Str} {Q : List Value → Shared → Prop} (R : TS P w s.heap a l) (hh : A.handled = none)
    (hQ : ∀ s' out, (∀ b o, s.heap.get? b = some o → s'.heap.get? b = some o) → s.heap.objs.size ≤ s'.heap.objs.size → s'.gens = s.gens → s'.os = s.os →
      (∀ v ∈ out, ∃ x t, v = Value.str x t) → (out.map tkey).Perm l → Q out s') : wpAny (model P w) A (collect (.ref a)) Q E s := by
  obtain ⟨ob, elts, epo, tab, g, x, d, els, pm, nod, z, f, r, o⟩ := R
  refine collect_set hh ⟨ob, g, x.1, d⟩ f z r o fun s' out k1 k2 k3 k4 pm2 => hQ s' out k1 k2 k3 k4 (fun v hv => ?_) ?_
  · obtain ⟨e, he, rfl⟩ := List.mem_map.mp (pm2.mem_iff.mp hv)
    obtain ⟨⟨k, q, _⟩, _⟩ := els e he
    obtain ⟨t, e⟩ := Value.isStrOf_shape q
    exact ⟨k, t, e⟩
  · have := pm2.map tkey
    rw [List.map_map] at this
    exact this.trans pm
end
end AGS
set_option Elab.async false
set_option linter.all false
set_option maxRecDepth 100000
namespace AG
open PySem L2
inductive D where
  | non | bl (b : Bool) | int (i : Int) | str (x : Str)
  | tup (l : List D) | lst (l : List D) | dct (t : Bool) (l : List (D × D)) | set (l : List D)
  | ins (c : Nat) (fs : List (Str × D))
  | hnd (n : Nat) | loc (i : Nat) | cls (c : Nat) | scr (ns : List Int) | exc (c : Nat)
inductive MO where
  | ml (l : List D) | md (t : Bool) (l : List (D × D)) | mi (c : Nat) (fs : List (Str × D))
inductive SV where
  | un | d (x : D) | own (m : MO)
structure S where
  rhz : List SV
  muz : List MO
structure Er where
  c : Nat
  arg : Option D := none
inductive O (α : Type) where
  | ok (a : α) (s : S)
  | err (e : Er) (s : S)
  | st
abbrev M (α : Type) := S → O α
def O.bind {α β : Type} : O α → (α → S → O β) → O β
  | .ok a s, f => f a s
  | .err e s, _ => .err e s
  | .st, _ => .st
@[simp] theorem O.bind_ok {α β : Type} (a : α) (s : S) (f : α → S → O β) : (O.ok a s).bind f = f a s := Eq.trans rfl rfl
@[simp] theorem O.bind_err {α β : Type} (e : Er) (s : S) (f : α → S → O β) : (O.err e s : O α).bind f = .err e s := Eq.trans rfl rfl
@[simp] theorem O.bind_st {α β : Type} (f : α → S → O β) : (O.st : O α).bind f = .st := Eq.trans rfl rfl
inductive R where
  | ok (d : D) (muz : List MO)
  | err (e : Er) (muz : List MO)
  | st
inductive Fl where
  | nx | rt (d : D) | bk | ct
def LIM : Nat := 1000000
end AG
set_option Elab.async false
set_option linter.all false
set_option maxRecDepth 100000
namespace AG
open PySem L2
structure Cfg where
  K : PySem.W.Frag
  CA : Nat → Addr
  P : Program
  w : World
  T : List (Addr × Str)
abbrev Adr := Nat → Option Addr
def setO (P : Program) (w : World) (a : Addr) (ts : List Str) : HO := .ext fun h => AGS.TS P w h a ts
def excO (D a : Addr) : HO := .ext fun h => ∃ oe vs, h.get? a = some oe ∧ Zc (.ref D) none oe ∧ oe.data = .fields vs
abbrev Nd : Type := {d : Option Addr // d = none}
def keyD : D → Option Key
  | .int i => some (.inl i)
  | .str x => some (.inr x)
  | _ => none
def keysD : List D → Option (List Key)
  | [] => some []
  | d :: ds => match keyD d, keysD ds with
    | some k, some ks => some (k :: ks)
    | _, _ => none
def keyT : D → Option (List Key)
  | .tup ds => keysD ds
  | _ => none
def DctAt (l : List (D × D)) (vs : List V) (t : Bool) (o : HO) : Prop := match t with
  | false => ∃ ks, o = .dK (List.zip ks vs) ∧ ks.map some = l.map (fun p => keyD p.1) ∧ ks.length = vs.length
  | true => ∃ ks, o = .dT (List.zip ks vs) ∧ ks.map some = l.map (fun p => keyT p.1) ∧ ks.length = vs.length
mutual
def Rep (G : Cfg) (F : Hp) (A : Adr) : D → V → Prop
  | .non, v => v = .non
  | .bl b, v => v = .bl b
  | .int i, v => v = .int i
  | .str x, v => v = .str x
  | .tup l, v => ∃ a vs, v = .ref a ∧ F a = some (.tup vs) ∧ RepL G F A l vs
  | .lst l, v => ∃ a vs, v = .ref a ∧ F a = some (.lst vs) ∧ RepL G F A l vs
  | .dct t l, v => ∃ a vs o, v = .ref a ∧ RepL2 G F A l vs ∧ F a = some o ∧ DctAt l vs t o
  | .set l, v => ∃ a ts, v = .ref a ∧ F a = some (setO G.P G.w a ts) ∧ l = ts.map D.str
  | .ins c fs, v => ∃ a dx vs, v = .ref a ∧ F a = some (.ins (G.CA c) dx (List.zip (fs.map (·.1)) vs)) ∧ RepLF G F A fs vs
  | .hnd n, v => ∃ a, A n = some a ∧ v = .ref a
  | .loc _, _ => False
  | .cls c, v => v = .ref (G.CA c)
  | .scr ns, v => ∃ a, v = .ref a ∧ SqL G.K F a (ns.map V.int)
  | .exc c, v => ∃ a, v = .ref a ∧ F a = some (excO (G.CA c) a)
def RepL (G : Cfg) (F : Hp) (A : Adr) : List D → List V → Prop
  | [], vs => vs = []
  | d :: ds, vs => ∃ v r, vs = v :: r ∧ Rep G F A d v ∧ RepL G F A ds r
def RepL2 (G : Cfg) (F : Hp) (A : Adr) : List (D × D) → List V → Prop
  | [], vs => vs = []
  | d :: ds, vs => ∃ v r, vs = v :: r ∧ Rep G F A d.2 v ∧ RepL2 G F A ds r
def RepLF (G : Cfg) (F : Hp) (A : Adr) : List (Str × D) → List V → Prop
  | [], vs => vs = []
  | d :: ds, vs => ∃ v r, vs = v :: r ∧ Rep G F A d.2 v ∧ RepLF G F A ds r
end
def FLe (F F' : Hp) : Prop := ∀ a o, F a = some o → F' a = some o
def ALe (A A' : Adr) : Prop := ∀ n a, A n = some a → A' n = some a
theorem FLe.refl (F : Hp) : FLe F F := fun _ _ h => h
theorem FLe.trans {F F1 F2 : Hp} (a : FLe F F1) (b : FLe F1 F2) : FLe F F2 := fun x o h => b x o (a x o h)
theorem ALe.refl (A : Adr) : ALe A A := fun _ _ h => h
theorem ALe.trans {A A1 A2 : Adr} (a : ALe A A1) (b : ALe A1 A2) : ALe A A2 := fun x o h => b x o (a x o h)
theorem FLe.sql {K : PySem.W.Frag} {F F' : Hp} (e : FLe F F') {a : Addr} {xs : List V} (h : SqL K F a xs) : SqL K F' a xs := by
  rcases h with (h | ⟨o, h⟩) | h
  · exact .inl (.inl (e _ _ h))
  · exact .inl (.inr ⟨o, e _ _ h⟩)
  · exact .inr h
section
variable {G : Cfg} {F F' : Hp} {A A' : Adr}
mutual
theorem Rep.mono (e : FLe F F') (f : ALe A A') : ∀ (d : D) (v : V), Rep G F A d v → Rep G F' A' d v
  | .non, v, h => by simpa [Rep] using h
  | .bl b, v, h => by simpa [Rep] using h
  | .int i, v, h => by simpa [Rep] using h
  | .str x, v, h => by simpa [Rep] using h
  | .tup l, v, h => by
    simp only [Rep] at h ⊢
    obtain ⟨a, vs, h1, h2, h3⟩ := h
    exact ⟨a, vs, h1, e _ _ h2, RepL.mono e f l vs h3⟩
  | .lst l, v, h => by
    simp only [Rep] at h ⊢
    obtain ⟨a, vs, h1, h2, h3⟩ := h
    exact ⟨a, vs, h1, e _ _ h2, RepL.mono e f l vs h3⟩
  | .dct t l, v, h => by
    simp only [Rep] at h ⊢
    obtain ⟨a, vs, o, h1, h2, h3, h4⟩ := h
    exact ⟨a, vs, o, h1, RepL2.mono e f l vs h2, e _ _ h3, h4⟩
  | .set l, v, h => by
    simp only [Rep] at h ⊢
    obtain ⟨a, ts, h1, h2, h3⟩ := h
    exact ⟨a, ts, h1, e _ _ h2, h3⟩
  | .ins c fs, v, h => by
    simp only [Rep] at h ⊢
    obtain ⟨a, dx, vs, h1, h2, h3⟩ := h
    exact ⟨a, dx, vs, h1, e _ _ h2, RepLF.mono e f fs vs h3⟩
  | .hnd n, v, h => by
    simp only [Rep] at h ⊢
    obtain ⟨a, h1, h2⟩ := h
    exact ⟨a, f _ _ h1, h2⟩
  | .loc i, v, h => by simp only [Rep] at h
  | .cls c, v, h => by simpa [Rep] using h
  | .scr ns, v, h => by
    simp only [Rep] at h ⊢
    obtain ⟨a, h1, h2⟩ := h
    exact ⟨a, h1, e.sql h2⟩
  | .exc c, v, h => by
    simp only [Rep] at h ⊢
    obtain ⟨a, h1, h2⟩ := h
    exact ⟨a, h1, e _ _ h2⟩
theorem RepL.mono (e : FLe F F') (f : ALe A A') : ∀ (l : List D) (vs : List V), RepL G F A l vs → RepL G F' A' l vs
  | [], vs, h => by simpa [RepL] using h
  | d :: ds, vs, h => by
    simp only [RepL] at h ⊢
    obtain ⟨v, r, h1, h2, h3⟩ := h
    exact ⟨v, r, h1, Rep.mono e f d v h2, RepL.mono e f ds r h3⟩
theorem RepL2.mono (e : FLe F F') (f : ALe A A') : ∀ (l : List (D × D)) (vs : List V), RepL2 G F A l vs → RepL2 G F' A' l vs
  | [], vs, h => by simpa [RepL2] using h
  | (k, d) :: ds, vs, h => by
    simp only [RepL2] at h ⊢
    obtain ⟨v, r, h1, h2, h3⟩ := h
    exact ⟨v, r, h1, Rep.mono e f d v h2, RepL2.mono e f ds r h3⟩
theorem RepLF.mono (e : FLe F F') (f : ALe A A') : ∀ (l : List (Str × D)) (vs : List V), RepLF G F A l vs → RepLF G F' A' l vs
  | [], vs, h => by simpa [RepLF] using h
  | (k, d) :: ds, vs, h => by
    simp only [RepLF] at h ⊢
    obtain ⟨v, r, h1, h2, h3⟩ := h
    exact ⟨v, r, h1, Rep.mono e f d v h2, RepLF.mono e f ds r h3⟩
end
end
def MoOk (G : Cfg) (F : Hp) (A : Adr) (H : Hp) (a : Addr) : MO → Prop
  | .ml l => ∃ vs, H a = some (.lst vs) ∧ RepL G F A l vs
  | .md t l => ∃ vs o, RepL2 G F A l vs ∧ H a = some o ∧ DctAt l vs t o
  | .mi c fs => ∃ dx vs, H a = some (.ins (G.CA c) dx (List.zip (fs.map (·.1)) vs)) ∧ RepLF G F A fs vs
theorem MoOk.mono {G : Cfg} {F F' : Hp} {A A' : Adr} {H H' : Hp} {a : Addr} {m : MO} (e : FLe F F') (f : ALe A A') (hh : ∀ o, H a = some o → H' a = some o) (h : MoOk G F A H a m) : MoOk G F' A' H' a m := by
  cases m with
  | ml l =>
    obtain ⟨vs, h1, h2⟩ := h
    exact ⟨vs, hh _ h1, RepL.mono e f _ _ h2⟩
  | md t l =>
    obtain ⟨vs, o, h2, h3, h4⟩ := h
    exact ⟨vs, o, RepL2.mono e f _ _ h2, hh _ h3, h4⟩
  | mi c fs =>
    obtain ⟨dx, vs, h1, h2⟩ := h
    exact ⟨dx, vs, hh _ h1, RepLF.mono e f _ _ h2⟩
theorem MoOk.some {G : Cfg} {F : Hp} {A : Adr} {H : Hp} {a : Addr} {m : MO} (h : MoOk G F A H a m) : ∃ o, H a = some o := by
  cases m with
  | ml l =>
    obtain ⟨vs, h1, h2⟩ := h
    exact ⟨_, h1⟩
  | md t l =>
    obtain ⟨vs, o, h2, h3, h4⟩ := h
    exact ⟨_, h3⟩
  | mi c fs =>
    obtain ⟨dx, vs, h1, h2⟩ := h
    exact ⟨_, h1⟩
def stuck : HO → Prop
  | .tbl _ => True
  | .ext _ => True
  | .tup _ => True
  | _ => False
theorem stuck_not {o : HO} (h : ¬ stuck o) : ∀ ps, o ≠ .tbl ps := fun ps e => h (by rw [e]; trivial)
theorem tabs_step {T : List (Addr × Str)} {H H' : Hp} (t : LamX.Tabs T H) (h : ∀ b o, H b = some o → stuck o → H' b = some o) : LamX.Tabs T H' := fun p hp => by
  obtain ⟨ps, h1, h2, h3⟩ := t p hp
  refine ⟨ps, h _ _ h1 trivial, h2, fun pos cv hc => ?_⟩
  obtain ⟨c, e1, e2⟩ := h3 pos cv hc
  exact ⟨c, e1, h _ _ e2 trivial⟩
theorem dct_solid {l : List (D × D)} {vs : List V} {t : Bool} {o : HO} (h : DctAt l vs t o) : ¬ stuck o := by
  cases t with
  | false => obtain ⟨ks, rfl, _⟩ := h; exact id
  | true => obtain ⟨ks, rfl, _⟩ := h; exact id
theorem MoOk.solid {G : Cfg} {F : Hp} {A : Adr} {H : Hp} {a : Addr} {m : MO} {o : HO} (h : MoOk G F A H a m) (e : H a = Option.some o) : ¬ stuck o := by
  cases m with
  | ml l =>
    obtain ⟨vs, h1, h2⟩ := h
    rw [e] at h1
    cases h1
    exact id
  | md t l =>
    obtain ⟨vs, o', h2, h3, h4⟩ := h
    rw [e] at h3
    cases h3
    exact dct_solid h4
  | mi c fs =>
    obtain ⟨dx, vs, h1, h2⟩ := h
    rw [e] at h1
    cases h1
    exact id
def isDict : HO → Prop
  | .dK _ => True
  | .dT _ => True
  | _ => False
def Sub (F H : Hp) : Prop := ∀ a o, F a = some o → H a = some o ∨ (isDict o ∧ ∃ od, H a = some (.frz od o))
structure Ent where
  H : Hp
  F : Hp
  A : Adr
  n : Nat
structure Cells (G : Cfg) (F : Hp) (A : Adr) (H : Hp) (muz : List MO) : Prop where
  at_ : ∀ (n : Nat) (m : MO), muz[n]? = some m → ∃ a, A n = some a ∧ MoOk G F A H a m ∧ F a = none
  dom : ∀ n a, A n = some a → n < muz.length
  inj : ∀ n m a, A n = some a → A m = some a → n = m
def isOwn : SV → Bool
  | .own _ => true
  | _ => false
def SlotOk (G : Cfg) (E : Ent) (F : Hp) (A : Adr) (H : Hp) (v : Option V) : SV → Prop
  | .un => True
  | .d x => ∃ u, v = some u ∧ Rep G F A x u
  | .own m => ∃ a, v = some (.ref a) ∧ MoOk G F A H a m ∧ F a = none ∧ E.H a = none ∧ ∀ n, A n ≠ some a
def isTup : HO → Prop
  | .tup _ => True
  | _ => False
theorem tup_stuck {o : HO} (h : isTup o) : stuck o := by cases o <;> first | trivial | cases h
theorem sub_tup {F H : Hp} {a : Addr} {o : HO} (h : Sub F H) (e : F a = some o) (t : isTup o) : H a = some o := by
  rcases h a o e with k | ⟨k, _⟩
  · exact k
  · cases o <;> first | exact t.elim | exact k.elim
structure Tabs2 (T : List (Addr × Str)) (F H : Hp) : Prop where
  t : LamX.Tabs T H
  n : ∀ a ps, F a ≠ some (.tbl ps)
structure Rel (G : Cfg) (E : Ent) (F : Hp) (A : Adr) (σ : L2.St) (H : Hp) (s : S) : Prop where
  sub : Sub F H
  len : σ.length = s.rhz.length
  slot : ∀ (i : Nat) (x : SV) (v : Option V), s.rhz[i]? = some x → σ[i]? = some v → SlotOk G E F A H v x
  dist : ∀ (i j : Nat) (a : Addr), i < s.rhz.length → j < s.rhz.length → isOwn (s.rhz.getD i .un) = true → isOwn (s.rhz.getD j .un) = true → σ[i]? = some (some (.ref a)) → σ[j]? = some (some (.ref a)) → i = j
  cells : Cells G F A H s.muz
  fle : FLe E.F F
  ale : ALe E.A A
  nle : E.n ≤ s.muz.length
  keep : ∀ a o, E.H a = some o → (∀ n, E.A n ≠ some a) → (∀ ps, o ≠ .tbl ps) → H a = some o
  tb : ∀ a ps, E.H a = some (.tbl ps) → ∃ qs, H a = some (.tbl qs)
  tabs : Tabs2 G.T F H
  fz : ∀ a o, F a = some o → E.F a = some o ∨ E.H a = none ∨ isTup o
  hz : ∀ n a, A n = some a → E.A n = some a ∨ E.H a = none
def VOk (G : Cfg) (σ : L2.St) (F : Hp) (A : Adr) (d : D) (v : V) : Prop := match d with
  | .loc i => σ[i]? = some (some v)
  | d => Rep G F A d v
theorem VOk.mono {G : Cfg} {σ : L2.St} {F F' : Hp} {A A' : Adr} {d : D} {v : V} (e : FLe F F') (f : ALe A A') (h : VOk G σ F A d v) : VOk G σ F' A' d v := by
  cases d <;> first | exact h | exact Rep.mono e f _ _ h
def sto : D → Bool
  | .loc _ => false
  | _ => true
theorem VOk.rep {G : Cfg} {σ : L2.St} {F : Hp} {A : Adr} {d : D} {v : V} (h : VOk G σ F A d v) (hs : sto d = true) : Rep G F A d v := by
  cases d <;> first | exact h | cases hs
theorem VOk.of {G : Cfg} {σ : L2.St} {F : Hp} {A : Adr} {d : D} {v : V} (h : Rep G F A d v) : VOk G σ F A d v := by
  cases d <;> first | exact h | (simp only [Rep] at h)
def PO {α : Type} (G : Cfg) (E : Ent) (W : WX) (σ : L2.St) (okP : α → S → Hp → Adr → Hp → Prop) (F : Hp) (A : Adr) : O α → Prop
  | .ok a s => ∀ F' A' H', FLe F F' → ALe A A' → Rel G E F' A' σ H' s → okP a s F' A' H'
  | .err e s => ∀ F' A' H' (dd : Nd), FLe F F' → ALe A A' → Rel G E F' A' σ H' s → W (.ref (G.CA e.c)) dd.1 σ H'
  | .st => False
abbrev okE (G : Cfg) (σ : L2.St) (Q : VK) : D → S → Hp → Adr → Hp → Prop := fun d _ F A H => ∀ v, VOk G σ F A d v → Q v H
abbrev okB (Q : Bool → Hp → Prop) : Bool → S → Hp → Adr → Hp → Prop := fun b _ _ _ H => Q b H
abbrev okL (G : Cfg) (σ : L2.St) (Q : List V → Hp → Prop) : List D → S → Hp → Adr → Hp → Prop := fun ds _ F A H => ∀ vs, Paired (VOk G σ F A) ds vs → Q vs H
structure New (G : Cfg) (E : Ent) (F : Hp) (A : Adr) (σ : L2.St) (H : Hp) (s : S) (p : Addr) (m : MO) : Prop where
  mo : MoOk G F A H p m
  nf : F p = none
  ne : E.H p = none
  nA : ∀ n, A n ≠ some p
  nσ : ∀ (i : Nat), isOwn (s.rhz.getD i .un) = true → σ[i]? ≠ some (some (.ref p))
abbrev okF (G : Cfg) (E : Ent) (σ : L2.St) (Q : VK) : MO → S → Hp → Adr → Hp → Prop := fun m s F A H => ∀ p, New G E F A σ H s p m → Q (.ref p) H
def TEof (G : Cfg) (W : WX) (f : M D) : TE := fun σ H Q => ∃ E F A s, Rel G E F A σ H s ∧ PO G E W σ (okE G σ Q) F A (f s)
def TFof (G : Cfg) (W : WX) (f : M MO) : TE := fun σ H Q => ∃ E F A s, Rel G E F A σ H s ∧ PO G E W σ (okF G E σ Q) F A (f s)
def TAof (G : Cfg) (W : WX) (f : M (List D)) : TA := fun σ H Q => ∃ E F A s, Rel G E F A σ H s ∧ PO G E W σ (okL G σ Q) F A (f s)
def TTof (G : Cfg) (W : WX) (f : M Bool) : TT := fun σ H Q => ∃ E F A s, Rel G E F A σ H s ∧ PO G E W σ (okB Q) F A (f s)
def PostS (G : Cfg) (E : Ent) (W : WX) (D : Ends) (F : Hp) (A : Adr) : O Fl → Prop
  | .ok .nx s => ∀ σ F' A' H, FLe F F' → ALe A A' → Rel G E F' A' σ H s → D.nx σ H
  | .ok .bk s => ∀ σ F' A' H, FLe F F' → ALe A A' → Rel G E F' A' σ H s → D.bk σ H
  | .ok .ct s => ∀ σ F' A' H, FLe F F' → ALe A A' → Rel G E F' A' σ H s → D.ct σ H
  | .ok (.rt d) s => ∀ v σ F' A' H, FLe F F' → ALe A A' → Rel G E F' A' σ H s → Rep G F' A' d v → D.rt v H
  | .err e s => ∀ σ F' A' H (dd : Nd), FLe F F' → ALe A A' → Rel G E F' A' σ H s → W (.ref (G.CA e.c)) dd.1 σ H
  | .st => False
def TSof (G : Cfg) (W : WX) (f : M Fl) : TS := fun D σ H => ∃ E F A s, Rel G E F A σ H s ∧ PostS G E W D F A (f s)
end AG
set_option Elab.async false
set_option linter.all false
set_option maxRecDepth 100000
namespace AG
open PySem L2
variable {G : Cfg} {E : Ent} {F F' : Hp} {A A' : Adr} {σ : L2.St} {H H' : Hp} {s : S} {p : Addr} {o : HO} {m : MO}
theorem Sub.none (h : Sub F H) (e : H p = none) : F p = none := by
  cases q : F p with
  | none => rfl
  | some u =>
    rcases h p u q with z | ⟨_, od, z⟩
    · rw [e] at z; cases z
    · rw [e] at z; cases z
theorem Cells.ne (c : Cells G F A H s.muz) (e : H p = none) (n : Nat) : A n ≠ some p := fun z => by
  have hl := c.dom n p z
  obtain ⟨a, h1, h2, h3⟩ := c.at_ n _ (List.getElem?_eq_getElem hl)
  rw [z] at h1
  cases h1
  obtain ⟨u, hu⟩ := h2.some
  rw [e] at hu
  cases hu
theorem Rel.fresh0 (R : Rel G E F A σ H s) (e : H p = none) : E.H p = none := by
  cases q : E.H p with
  | none => rfl
  | some u =>
    by_cases t : ∃ ps, u = .tbl ps
    · obtain ⟨ps, rfl⟩ := t
      obtain ⟨qs, k⟩ := R.tb p ps q
      rw [e] at k
      cases k
    · have k := R.keep p u q (fun n z => R.cells.ne e n (R.ale _ _ z)) (fun ps z => t ⟨ps, z⟩)
      rw [e] at k
      cases k
theorem upd_tb (e : H p = none) {a : Addr} (h : ∃ qs, H a = some (.tbl qs)) : ∃ qs, upd H p o a = some (.tbl qs) := by
  obtain ⟨qs, k⟩ := h
  exact ⟨qs, by rw [upd_ne (ne_of_none k e)]; exact k⟩
theorem upd_tabs {T : List (Addr × Str)} (e : H p = none) (t : LamX.Tabs T H) : LamX.Tabs T (upd H p o) := tabs_step t fun b u h _ => by rw [upd_ne (ne_of_none h e)]; exact h
theorem upd_tb2 {o0 : HO} (e : H p = some o0) (hs : ¬ stuck o0) {a : Addr} (h : ∃ qs, H a = some (.tbl qs)) : ∃ qs, upd H p o a = some (.tbl qs) := by
  obtain ⟨qs, k⟩ := h
  have q : a ≠ p := fun z => by
    rw [z, e] at k
    cases k
    exact hs trivial
  exact ⟨qs, by rw [upd_ne q]; exact k⟩
theorem upd_tabs2 {T : List (Addr × Str)} {o0 : HO} (e : H p = some o0) (hs : ¬ stuck o0) (t : LamX.Tabs T H) : LamX.Tabs T (upd H p o) := tabs_step t fun b u h st => by
  have q : b ≠ p := fun z => by
    rw [z, e] at h
    cases h
    exact hs st
  rw [upd_ne q]
  exact h
theorem fle_upd (e : F p = none) : FLe F (upd F p o) := fun a u h => by rw [upd_ne (ne_of_none h e)]; exact h
theorem Cells.mono {muz : List MO} (c : Cells G F A H muz) (e : FLe F F') (hf : ∀ n a, A n = some a → F' a = none) (hh : ∀ n a, A n = some a → ∀ o, H a = some o → H' a = some o) : Cells G F' A H' muz :=
  ⟨fun n m h => by
    obtain ⟨a, h1, h2, h3⟩ := c.at_ n m h
    exact ⟨a, h1, h2.mono e (ALe.refl _) (hh n a h1), hf n a h1⟩, c.dom, c.inj⟩
theorem SlotOk.mono {v : Option V} {x : SV} (h : SlotOk G E F A H v x) (e : FLe F F') (f : ALe A A') (hk : ∀ a m, v = some (.ref a) → x = .own m → F a = none → E.H a = none → (∀ n, A n ≠ some a) → F' a = none ∧ (∀ n, A' n ≠ some a) ∧ ∀ o, H a = some o → H' a = some o) : SlotOk G E F' A' H' v x := by
  cases x with
  | un => trivial
  | d x =>
    obtain ⟨u, h1, h2⟩ := h
    exact ⟨u, h1, Rep.mono e f _ _ h2⟩
  | own m =>
    obtain ⟨a, h1, h2, h3, h4, h5⟩ := h
    obtain ⟨k1, k2, k3⟩ := hk a m h1 rfl h3 h4 h5
    exact ⟨a, h1, h2.mono e f k3, k1, h4, k2⟩
theorem Rel.newFz (R : Rel G E F A σ H s) (e : H p = none) (nt : ∀ ps, o ≠ .tbl ps := by intro ps z; first | cases z | (unfold setO at z; cases z)) : Rel G E (upd F p o) A σ (upd H p o) s := by
  have fp := R.sub.none e
  have ep := R.fresh0 e
  have fl : FLe F (upd F p o) := fle_upd fp
  have hne : ∀ b u, H b = some u → b ≠ p := fun b u h => ne_of_none h e
  refine ⟨fun a u h => ?_, R.len, fun i x v h1 h2 => (R.slot i x v h1 h2).mono fl (ALe.refl _) fun a m h3 h4 h5 h6 h7 => ?_, R.dist, R.cells.mono fl (fun n a h => ?_) (fun n a h o' ho => ?_), R.fle.trans fl, R.ale, R.nle, fun a u h1 h2 h2' => ?_, fun a ps h => upd_tb e (R.tb a ps h), ⟨upd_tabs e R.tabs.t, fun a ps h => by
    by_cases q : a = p
    · rw [q, upd_same] at h
      exact nt ps (Option.some.inj h)
    · rw [upd_ne q] at h
      exact R.tabs.n a ps h⟩, fun a u h => ?_, R.hz⟩
  · by_cases q : a = p
    · subst q
      rw [upd_same] at h ⊢
      exact .inl h
    · rw [upd_ne q] at h ⊢
      exact R.sub a u h
  · have h8 := R.slot i x v h1 h2
    rw [h4] at h8
    obtain ⟨b, k1, k2, _⟩ := h8
    rw [h3] at k1
    cases k1
    obtain ⟨u, hu⟩ := k2.some
    have q := hne _ _ hu
    exact ⟨by rw [upd_ne q]; exact h5, h7, fun o' ho => by rw [upd_ne q]; exact ho⟩
  · have q : a ≠ p := fun z => R.cells.ne e n (by rw [h, z])
    rw [upd_ne q]
    have hl := R.cells.dom n a h
    obtain ⟨b, h1, h2, h3⟩ := R.cells.at_ n _ (List.getElem?_eq_getElem hl)
    rw [h] at h1
    cases h1
    exact h3
  · rw [upd_ne (hne _ _ ho)]
    exact ho
  · have k := R.keep a u h1 h2 h2'
    rw [upd_ne (hne _ _ k)]
    exact k
  · by_cases q : a = p
    · subst q
      exact .inr (.inl ep)
    · rw [upd_ne q] at h
      exact R.fz a u h
@[simp] def frzD : MO → D
  | .ml l => .lst l
  | .md t l => .dct t l
  | .mi c fs => .ins c fs
theorem Rel.freeze (R : Rel G E F A σ H s) (N : New G E F A σ H s p m) : ∃ F', FLe F F' ∧ Rel G E F' A σ H s ∧ Rep G F' A (frzD m) (.ref p) := by
  obtain ⟨o, ho⟩ := N.mo.some
  have fl : FLe F (upd F p o) := fle_upd N.nf
  refine ⟨upd F p o, fl, ⟨fun a u h => ?_, R.len, fun i x v h1 h2 => (R.slot i x v h1 h2).mono fl (ALe.refl _) fun a m h3 h4 h5 h6 h7 => ?_, R.dist, R.cells.mono fl (fun n a h => ?_) (fun n a h o' ho => ho), R.fle.trans fl, R.ale, R.nle, R.keep, R.tb, ⟨R.tabs.t, fun a ps h => by
    by_cases q : a = p
    · rw [q, upd_same] at h
      exact stuck_not (N.mo.solid ho) ps (Option.some.inj h)
    · rw [upd_ne q] at h
      exact R.tabs.n a ps h⟩, fun a u h => ?_, R.hz⟩, ?_⟩
  · by_cases q : a = p
    · subst q
      rw [upd_same] at h
      cases h
      exact .inl ho
    · rw [upd_ne q] at h
      exact R.sub a u h
  · have q : a ≠ p := fun z => by
      subst z
      have hi : i < s.rhz.length := (List.getElem?_eq_some_iff.mp h1).1
      refine N.nσ i ?_ (by rw [h2, h3])
      rw [List.getD_eq_getElem?_getD, h1, h4]
      rfl
    exact ⟨by rw [upd_ne q]; exact h5, h7, fun _ z => z⟩
  · have q : a ≠ p := fun z => N.nA n (by rw [h, z])
    rw [upd_ne q]
    have hl := R.cells.dom n a h
    obtain ⟨b, h1, h2, h3⟩ := R.cells.at_ n _ (List.getElem?_eq_getElem hl)
    rw [h] at h1
    cases h1
    exact h3
  · by_cases q : a = p
    · subst q
      exact .inr (.inl N.ne)
    · rw [upd_ne q] at h
      exact R.fz a u h
  · have mo := N.mo
    cases m with
    | ml l =>
      obtain ⟨vs, h1, h2⟩ := mo
      rw [ho] at h1
      cases h1
      show Rep G _ A (.lst l) _
      simp only [Rep]
      exact ⟨p, vs, rfl, upd_same, RepL.mono fl (ALe.refl _) _ _ h2⟩
    | md t l =>
      obtain ⟨vs, o2, h2, h3, h4⟩ := mo
      rw [ho] at h3
      cases h3
      show Rep G _ A (.dct t l) _
      simp only [Rep]
      exact ⟨p, vs, o, rfl, RepL2.mono fl (ALe.refl _) _ _ h2, upd_same, h4⟩
    | mi c fs =>
      obtain ⟨dx, vs, h1, h2⟩ := mo
      rw [ho] at h1
      cases h1
      show Rep G _ A (.ins c fs) _
      simp only [Rep]
      exact ⟨p, dx, vs, rfl, upd_same, RepLF.mono fl (ALe.refl _) _ _ h2⟩
theorem Rel.laid (R : Rel G E F A σ H s) (e : H p = none) : Rel G E F A σ (upd H p o) s ∧ F p = none ∧ E.H p = none ∧ (∀ n, A n ≠ some p) ∧ ∀ i : Nat, isOwn (s.rhz.getD i .un) = true → σ[i]? ≠ some (some (.ref p)) := by
  have fp := R.sub.none e
  have ep := R.fresh0 e
  have hne : ∀ b u, H b = some u → b ≠ p := fun b u h => ne_of_none h e
  refine ⟨⟨fun a u h => ?_, R.len, fun i x v h1 h2 => (R.slot i x v h1 h2).mono (FLe.refl _) (ALe.refl _) fun a m h3 h4 h5 h6 h7 => ⟨h5, h7, fun o' ho => ?_⟩, R.dist, R.cells.mono (FLe.refl _) (fun n a h => ?_) (fun n a h o' ho => ?_), R.fle, R.ale, R.nle, fun a u h1 h2 h2' => ?_, fun a ps h => upd_tb e (R.tb a ps h), ⟨upd_tabs e R.tabs.t, R.tabs.n⟩, R.fz, R.hz⟩, fp, ep, R.cells.ne e, fun i hi z => ?_⟩
  · rcases R.sub a u h with k | ⟨k, od, k2⟩
    · rw [upd_ne (hne _ _ k)]; exact .inl k
    · rw [upd_ne (hne _ _ k2)]; exact .inr ⟨k, od, k2⟩
  · rw [upd_ne (hne _ _ ho)]; exact ho
  · have hl := R.cells.dom n a h
    obtain ⟨b, h1, h2, h3⟩ := R.cells.at_ n _ (List.getElem?_eq_getElem hl)
    rw [h] at h1
    cases h1
    exact h3
  · rw [upd_ne (hne _ _ ho)]; exact ho
  · have k := R.keep a u h1 h2 h2'
    rw [upd_ne (hne _ _ k)]
    exact k
  · rw [List.getD_eq_getElem?_getD] at hi
    cases q : s.rhz[i]? with
    | none => rw [q] at hi; cases hi
    | some x =>
      rw [q] at hi
      have h8 := R.slot i x _ q z
      cases x with
      | own m =>
        obtain ⟨b, k1, k2, _⟩ := h8
        cases k1
        obtain ⟨u, hu⟩ := k2.some
        exact (hne _ _ hu) rfl
      | _ => cases hi
theorem RepL.length : ∀ {ds : List D} {vs : List V}, RepL G F A ds vs → vs.length = ds.length
  | [], vs, h => by simp only [RepL] at h; subst h; rfl
  | d :: ds, vs, h => by
    simp only [RepL] at h
    obtain ⟨v, r, rfl, h2, h3⟩ := h
    simp [RepL.length h3]
theorem RepL.get : ∀ {ds : List D} {vs : List V} {i : Nat} {d : D}, RepL G F A ds vs → ds[i]? = some d → ∃ v, vs[i]? = some v ∧ Rep G F A d v
  | [], _, _, _, _, e => by simp at e
  | d :: ds, vs, 0, x, h, e => by
    simp only [RepL] at h
    obtain ⟨v, r, rfl, h2, h3⟩ := h
    simp at e
    subst e
    exact ⟨v, rfl, h2⟩
  | d :: ds, vs, i + 1, x, h, e => by
    simp only [RepL] at h
    obtain ⟨v, r, rfl, h2, h3⟩ := h
    obtain ⟨u, h4, h5⟩ := RepL.get (i := i) h3 (by simpa using e)
    exact ⟨u, by simpa using h4, h5⟩
theorem RepL.append : ∀ {ds es : List D} {vs us : List V}, RepL G F A ds vs → RepL G F A es us → RepL G F A (ds ++ es) (vs ++ us)
  | [], _, vs, _, h, k => by simp only [RepL] at h; subst h; exact k
  | d :: ds, es, vs, us, h, k => by
    simp only [RepL] at h
    obtain ⟨v, r, rfl, h2, h3⟩ := h
    simp only [List.cons_append, RepL]
    exact ⟨v, r ++ us, rfl, h2, RepL.append h3 k⟩
theorem RepL.drop : ∀ {ds : List D} {vs : List V} (n : Nat), RepL G F A ds vs → RepL G F A (ds.drop n) (vs.drop n)
  | _, _, 0, h => h
  | [], _, _ + 1, h => by simp only [RepL] at h; subst h; simp [RepL]
  | d :: ds, _, n + 1, h => by
    simp only [RepL] at h
    obtain ⟨v, r, rfl, h2, h3⟩ := h
    exact RepL.drop n h3
theorem RepL.take : ∀ {ds : List D} {vs : List V} (n : Nat), RepL G F A ds vs → RepL G F A (ds.take n) (vs.take n)
  | _, _, 0, h => by simp [RepL]
  | [], _, _ + 1, h => by simp only [RepL] at h; subst h; simp [RepL]
  | d :: ds, _, n + 1, h => by
    simp only [RepL] at h
    obtain ⟨v, r, rfl, h2, h3⟩ := h
    simp only [List.take_succ_cons, RepL]
    exact ⟨v, _, rfl, h2, RepL.take n h3⟩
theorem RepL.strs : ∀ {ns : List Str} {vs : List V}, RepL G F A (ns.map D.str) vs → vs = ns.map V.str
  | [], vs, h => by simpa [RepL] using h
  | n :: ns, vs, h => by
    simp only [List.map_cons, RepL, Rep] at h
    obtain ⟨v, r, rfl, rfl, h3⟩ := h
    rw [RepL.strs h3]
    rfl
theorem RepL.bls : ∀ {ns : List Bool} {vs : List V}, RepL G F A (ns.map D.bl) vs → vs = ns.map V.bl
  | [], vs, h => by simpa [RepL] using h
  | n :: ns, vs, h => by
    simp only [List.map_cons, RepL, Rep] at h
    obtain ⟨v, r, rfl, rfl, h3⟩ := h
    rw [RepL.bls h3]
    rfl
end AG
set_option Elab.async false
set_option linter.all false
set_option maxRecDepth 100000
namespace AG
open PySem L2
section
variable {G : Cfg} {E : Ent} {W : WX} {σ : L2.St}
theorem PO.mono {α : Type} {okP okQ : α → S → Hp → Adr → Hp → Prop} {F F1 : Hp} {A A1 : Adr} {x : O α} (h : PO G E W σ okP F A x) (e : FLe F F1) (f : ALe A A1) (k : ∀ a s F' A' H', okP a s F' A' H' → okQ a s F' A' H') : PO G E W σ okQ F1 A1 x := by
  cases x with
  | ok a s => exact fun F' A' H' e' f' R => k _ _ _ _ _ (h F' A' H' (e.trans e') (f.trans f') R)
  | err er s => exact fun F' A' H' dd e' f' R => h F' A' H' dd (e.trans e') (f.trans f') R
  | st => exact h
theorem PO.bind {α β : Type} {okP : α → S → Hp → Adr → Hp → Prop} {okQ : β → S → Hp → Adr → Hp → Prop} {F : Hp} {A : Adr} {x : O α} {g : α → S → O β} (h : PO G E W σ okQ F A (x.bind g))
    (k : ∀ a s F' A' H', FLe F F' → ALe A A' → Rel G E F' A' σ H' s → PO G E W σ okQ F' A' (g a s) → okP a s F' A' H') : PO G E W σ okP F A x := by
  cases x with
  | ok a s => exact fun F' A' H' e f R => k a s F' A' H' e f R (PO.mono h e f fun _ _ _ _ _ q => q)
  | err er s => exact h
  | st => exact h
theorem PostS.mono {D : Ends} {F F1 : Hp} {A A1 : Adr} {x : O Fl} (h : PostS G E W D F A x) (e : FLe F F1) (f : ALe A A1) : PostS G E W D F1 A1 x := by
  cases x with
  | ok a s => cases a with
    | nx => exact fun σ F' A' H e' f' R => h σ F' A' H (e.trans e') (f.trans f') R
    | bk => exact fun σ F' A' H e' f' R => h σ F' A' H (e.trans e') (f.trans f') R
    | ct => exact fun σ F' A' H e' f' R => h σ F' A' H (e.trans e') (f.trans f') R
    | rt d => exact fun v σ F' A' H e' f' R => h v σ F' A' H (e.trans e') (f.trans f') R
  | err er s => exact fun σ F' A' H dd e' f' R => h σ F' A' H dd (e.trans e') (f.trans f') R
  | st => exact h
theorem PostS.bind {α : Type} {okP : α → S → Hp → Adr → Hp → Prop} {D : Ends} {F : Hp} {A : Adr} {x : O α} {g : α → S → O Fl} (h : PostS G E W D F A (x.bind g))
    (k : ∀ a s F' A' H', FLe F F' → ALe A A' → Rel G E F' A' σ H' s → PostS G E W D F' A' (g a s) → okP a s F' A' H') : PO G E W σ okP F A x := by
  cases x with
  | ok a s => exact fun F' A' H' e f R => k a s F' A' H' e f R (h.mono e f)
  | err er s => exact fun F' A' H' dd e f R => h σ F' A' H' dd e f R
  | st => exact h
theorem PO.ok_here {α : Type} {okP : α → S → Hp → Adr → Hp → Prop} {F : Hp} {A : Adr} {H : Hp} {a : α} {s : S} (h : PO G E W σ okP F A (.ok a s)) (R : Rel G E F A σ H s) : okP a s F A H :=
  h F A H (FLe.refl _) (ALe.refl _) R
end
section
variable {X : Cx} {e : Expr} {es : List Expr} {t t' : TE}
theorem PEimp (h : PE X e t) (k : ∀ σ H Q, t' σ H Q → t σ H Q) : PE X e t' := ⟨fun pins s σ H Q I hq => h.run pins s σ H Q I (k σ H Q hq)⟩
theorem PTimp {t t' : TT} (h : PT X e t) (k : ∀ σ H Q, t' σ H Q → t σ H Q) : PT X e t' := ⟨fun pins s σ H Q I hq => h.run pins s σ H Q I (k σ H Q hq)⟩
theorem PWimp {t t' : TT} (h : PW X e t) (k : ∀ σ H Q, t' σ H Q → t σ H Q) : PW X e t' := ⟨fun wh pins s σ H Q I hq => h.run wh pins s σ H Q I (k σ H Q hq)⟩
theorem PAimp {t t' : TA} (h : PA X es t) (k : ∀ σ H Q, t' σ H Q → t σ H Q) : PA X es t' := ⟨fun pos pins s σ H Q I hq => h.run pos pins s σ H Q I (k σ H Q hq)⟩
theorem PSimp {st : Stmt} {t t' : TS} (h : PS X st t) (k : ∀ D σ H, t' D σ H → t D σ H) : PS X st t' := ⟨fun pins s σ H D I hq => h.run pins s σ H D I (k D σ H hq)⟩
theorem PSsimp {st : List Stmt} {t t' : TS} (h : PSs X st t) (k : ∀ D σ H, t' D σ H → t D σ H) : PSs X st t' := ⟨fun pins s σ H D I hq => h.run pins s σ H D I (k D σ H hq)⟩
end
def cS (d : D) : M D := fun s => .ok d s
def varS (i : Nat) : M D := fun s => match s.rhz[i]? with
  | some (.d x) => .ok x s
  | some (.own _) => .ok (.loc i) s
  | _ => .st
def binS (op : S → D → D → Option D) (f g : M D) : M D := fun s => (f s).bind fun x s1 => (g s1).bind fun y s2 => match op s2 x y with
  | some d => .ok d s2
  | none => .st
def unS (op : S → D → Option D) (f : M D) : M D := fun s => (f s).bind fun x s1 => match op s1 x with
  | some d => .ok d s1
  | none => .st
def andS (f g : M D) : M D := fun s => (f s).bind fun x s1 => match x with
  | .bl true => g s1
  | .bl false => .ok (.bl false) s1
  | _ => .st
def orS (f g : M D) : M D := fun s => (f s).bind fun x s1 => match x with
  | .bl false => g s1
  | .bl true => .ok (.bl true) s1
  | _ => .st
def notS (f : M D) : M D := fun s => (f s).bind fun x s1 => match x with
  | .bl b => .ok (.bl (!b)) s1
  | _ => .st
def tstS (f : M D) : M Bool := fun s => (f s).bind fun x s1 => match x with
  | .bl b => .ok b s1
  | _ => .st
def tAndS (f g : M Bool) : M Bool := fun s => (f s).bind fun x s1 => if x = true then g s1 else .ok false s1
def tOrS (f g : M Bool) : M Bool := fun s => (f s).bind fun x s1 => if x = true then .ok true s1 else g s1
def tNotS (f : M Bool) : M Bool := fun s => (f s).bind fun x s1 => .ok (!x) s1
def iteS (t : M Bool) (f g : M D) : M D := fun s => (t s).bind fun b s1 => if b = true then f s1 else g s1
def chainS (op op' : S → D → D → Option D) (f g h : M D) : M D := fun s => (f s).bind fun x s1 => (g s1).bind fun y s2 => match op s2 x y with
  | some (.bl true) => (h s2).bind fun z s3 => match op' s3 y z with
    | some d => .ok d s3
    | none => .st
  | some (.bl false) => .ok (.bl false) s2
  | _ => .st
def nilS : M (List D) := fun s => .ok [] s
def consS (f : M D) (g : M (List D)) : M (List D) := fun s => (f s).bind fun x s1 => (g s1).bind fun xs s2 => .ok (x :: xs) s2
def tupS (g : M (List D)) : M D := fun s => (g s).bind fun xs s1 => if xs.all sto && decide (xs.length ≤ LIM) then .ok (.tup xs) s1 else .st
def lstF (g : M (List D)) : M MO := fun s => (g s).bind fun xs s1 => if xs.all sto && decide (xs.length ≤ LIM) then .ok (.ml xs) s1 else .st
def frzS (f : M MO) : M D := fun s => (f s).bind fun m s1 => .ok (frzD m) s1
def callV (op : S → List D → Option D) (g : M (List D)) : M D := fun s => (g s).bind fun xs s1 => match op s1 xs with
  | some d => .ok d s1
  | none => .st
def callN (op : S → List D → Option MO) (g : M (List D)) : M MO := fun s => (g s).bind fun xs s1 => match op s1 xs with
  | some d => .ok d s1
  | none => .st
def OpD (G : Cfg) (r : R2) (op : S → D → D → Option D) : Prop := ∀ (E : Ent) (F : Hp) (A : Adr) (σ : L2.St) (H : Hp) (s : S) (x y : V) (dx dy d : D) (Q : VK), Rel G E F A σ H s → VOk G σ F A dx x → VOk G σ F A dy y → op s dx dy = some d →
  (∀ v F' A' H', FLe F F' → ALe A A' → Rel G E F' A' σ H' s → VOk G σ F' A' d v → Q v H') → r x y H Q
def UnD (G : Cfg) (r : V → Hp → VK → Prop) (op : S → D → Option D) : Prop := ∀ (E : Ent) (F : Hp) (A : Adr) (σ : L2.St) (H : Hp) (s : S) (x : V) (dx d : D) (Q : VK), Rel G E F A σ H s → VOk G σ F A dx x → op s dx = some d →
  (∀ v F' A' H', FLe F F' → ALe A A' → Rel G E F' A' σ H' s → VOk G σ F' A' d v → Q v H') → r x H Q
def ClD (G : Cfg) (r : List V → Hp → VK → Prop) (op : S → List D → Option D) : Prop := ∀ (E : Ent) (F : Hp) (A : Adr) (σ : L2.St) (H : Hp) (s : S) (xs : List V) (ds : List D) (d : D) (Q : VK), Rel G E F A σ H s → Paired (VOk G σ F A) ds xs → op s ds = some d →
  (∀ v F' A' H', FLe F F' → ALe A A' → Rel G E F' A' σ H' s → VOk G σ F' A' d v → Q v H') → r xs H Q
def ClN (G : Cfg) (r : List V → Hp → VK → Prop) (op : S → List D → Option MO) : Prop := ∀ (E : Ent) (F : Hp) (A : Adr) (σ : L2.St) (H : Hp) (s : S) (xs : List V) (ds : List D) (m : MO) (Q : VK), Rel G E F A σ H s → Paired (VOk G σ F A) ds xs → op s ds = some m →
  (∀ p F' A' H', FLe F F' → ALe A A' → Rel G E F' A' σ H' s → New G E F' A' σ H' s p m → Q (.ref p) H') → r xs H Q
section
variable {G : Cfg} {E : Ent} {W : WX} {X : Cx} {e a b c : Expr} {es : List Expr} {f g h : M D} {pos : Pos}
theorem xc {d : D} {v : V} (h : PE X e (tC v)) (hd : ∀ σ F A, VOk G σ F A d v) : PE X e (TEof G W (cS d)) := PEimp h fun σ H Q ⟨E, F, A, s, R, P⟩ => P.ok_here R v (hd σ F A)
theorem x_int {i : Int} {j} : PE X (.Constant (.int i) j pos) (TEof G W (cS (.int i))) := xc pe_int fun _ _ _ => by simp [VOk, Rep]
theorem x_bl {i : Bool} {j} : PE X (.Constant (.bool i) j pos) (TEof G W (cS (.bl i))) := xc pe_bl fun _ _ _ => by simp [VOk, Rep]
theorem x_non {j} : PE X (.Constant .none j pos) (TEof G W (cS .non)) := xc pe_non fun _ _ _ => by simp [VOk, Rep]
theorem x_str {x : Str} {j} : PE X (.Constant (.str x) j pos) (TEof G W (cS (.str x))) := xc pe_str fun _ _ _ => by simp [VOk, Rep]
theorem xv (i : Nat) {x : Str} (hN : X.N[i]? = some x := by rfl) (hv : Vis X.env.scope x := by first | exact Or.inl rfl | exact Or.inr (Or.inl rfl) | exact Or.inr (Or.inr rfl)) (hd : (x == ("__debug__" : Str)) = false := by decide)
    (hcd : (x == ("__classdict__" : Str)) = false := by decide) : PE X (.Name x pos) (TEof G W (varS i)) := PEimp (pe_var hN hv hd hcd) fun σ H Q ⟨E, F, A, s, R, P⟩ => by
  unfold varS at P
  cases q : s.rhz[i]? with
  | none => rw [q] at P; exact P.elim
  | some x =>
    rw [q] at P
    have hl : i < s.rhz.length := (List.getElem?_eq_some_iff.mp q).1
    have hs : i < σ.length := by rw [R.len]; exact hl
    have k := R.slot i x σ[i] q (List.getElem?_eq_getElem hs)
    cases x with
    | un => exact P.elim
    | d x =>
      obtain ⟨u, h1, h2⟩ := k
      exact ⟨u, by rw [List.getElem?_eq_getElem hs, h1], P.ok_here R u (.of h2)⟩
    | own m =>
      obtain ⟨p, h1, _⟩ := k
      exact ⟨.ref p, by rw [List.getElem?_eq_getElem hs, h1], P.ok_here R (.ref p) (by show σ[i]? = _; rw [List.getElem?_eq_getElem hs, h1])⟩
theorem x_op {r : R2} {op : S → D → D → Option D} (hd : OpD G r op) (ha : PE X a (TEof G W f)) (hb : PE X b (TEof G W g)) {t : Expr} (k : PE X t (tOp r (TEof G W f) (TEof G W g))) : PE X t (TEof G W (binS op f g)) := by
  refine PEimp k fun σ H Q ⟨E, F, A, s, R, P⟩ => ⟨E, F, A, s, R, PO.bind P fun x s1 F1 A1 H1 e1 g1 R1 P1 u hu => ⟨E, F1, A1, s1, R1, PO.bind P1 fun y s2 F2 A2 H2 e2 g2 R2 P2 v hv => ?_⟩⟩
  cases q : op s2 x y with
  | none => rw [q] at P2; exact P2.elim
  | some d =>
    rw [q] at P2
    exact hd E F2 A2 σ H2 s2 u v x y d Q R2 (hu.mono e2 g2) hv q fun v F' A' H' e3 g3 R3 hv3 => P2 F' A' H' e3 g3 R3 v hv3
theorem x_bin {op : Operator} {r : R2} {opd : S → D → D → Option D} (hr : OpR X (binaryOp op) r) (hd : OpD G r opd) (ha : PE X a (TEof G W f)) (hb : PE X b (TEof G W g)) : PE X (.BinOp a op b pos) (TEof G W (binS opd f g)) := x_op hd ha hb (pe_op hr ha hb)
theorem x_cmp {op : CmpOp} {r : R2} {opd : S → D → D → Option D} (hr : OpR X (compareOp op) r) (hd : OpD G r opd) (ha : PE X a (TEof G W f)) (hb : PE X b (TEof G W g))
    (h1 : behindInMarks op b = false := by first | exact nobehind _ (by decide) (by decide) | rfl) : PE X (.Compare a [op] [b] pos) (TEof G W (binS opd f g)) := x_op hd ha hb (pe_cmpR hr ha hb h1)
theorem x_un {op : UnaryOp} {r : V → Hp → VK → Prop} {opd : S → D → Option D} (hr : UnR X (unaryOp op) r) (hd : UnD G r opd) (ha : PE X a (TEof G W f)) : PE X (.UnaryOp op a pos) (TEof G W (unS opd f)) := by
  refine PEimp (pe_un hr ha) fun σ H Q ⟨E, F, A, s, R, P⟩ => ⟨E, F, A, s, R, PO.bind P fun x s1 F1 A1 H1 e1 g1 R1 P1 u hu => ?_⟩
  cases q : opd s1 x with
  | none => rw [q] at P1; exact P1.elim
  | some d =>
    rw [q] at P1
    exact hd E F1 A1 σ H1 s1 u x d Q R1 hu q fun v F' A' H' e3 g3 R3 hv3 => P1 F' A' H' e3 g3 R3 v hv3
theorem x_one {op} (h : PE X a (TEof G W f)) : PE X (.BoolOp op [a] pos) (TEof G W f) := pe_one h
theorem VOk.bl {σ : L2.St} {F : Hp} {A : Adr} {b : Bool} {v : V} (h : VOk G σ F A (.bl b) v) : v = .bl b := by simpa [VOk, Rep] using h
theorem VOk.int {σ : L2.St} {F : Hp} {A : Adr} {b : Int} {v : V} (h : VOk G σ F A (.int b) v) : v = .int b := by simpa [VOk, Rep] using h
theorem VOk.str {σ : L2.St} {F : Hp} {A : Adr} {b : Str} {v : V} (h : VOk G σ F A (.str b) v) : v = .str b := by simpa [VOk, Rep] using h
theorem VOk.non {σ : L2.St} {F : Hp} {A : Adr} {v : V} (h : VOk G σ F A .non v) : v = .non := by simpa [VOk, Rep] using h
theorem vok_bl {σ : L2.St} {F : Hp} {A : Adr} {b : Bool} : VOk G σ F A (.bl b) (.bl b) := by simp [VOk, Rep]
theorem vok_int {σ : L2.St} {F : Hp} {A : Adr} {b : Int} : VOk G σ F A (.int b) (.int b) := by simp [VOk, Rep]
theorem vok_str {σ : L2.St} {F : Hp} {A : Adr} {b : Str} : VOk G σ F A (.str b) (.str b) := by simp [VOk, Rep]
theorem x_and {rest : List Expr} (ha : PE X a (TEof G W f)) (hb : PE X (.BoolOp .And (b :: rest) pos) (TEof G W g)) : PE X (.BoolOp .And (a :: b :: rest) pos) (TEof G W (andS f g)) := by
  refine PEimp (pe_and ha hb) fun σ H Q ⟨E, F, A, s, R, P⟩ => ⟨E, F, A, s, R, PO.bind P fun x s1 F1 A1 H1 e1 g1 R1 P1 u hu => ?_⟩
  cases x with
  | bl c =>
    refine ⟨c, hu.bl, ?_⟩
    cases c with
    | true => exact ⟨E, F1, A1, s1, R1, P1⟩
    | false => exact P1.ok_here R1 _ vok_bl
  | _ => exact P1.elim
theorem x_not (ha : PE X a (TEof G W f)) : PE X (.UnaryOp .Not a pos) (TEof G W (notS f)) := by
  refine PEimp (pe_not ha) fun σ H Q ⟨E, F, A, s, R, P⟩ => ⟨E, F, A, s, R, PO.bind P fun x s1 F1 A1 H1 e1 g1 R1 P1 u hu => ?_⟩
  cases x with
  | bl c => exact ⟨c, hu.bl, P1.ok_here R1 _ vok_bl⟩
  | _ => exact P1.elim
theorem t_val (ha : PE X a (TEof G W f)) (he : ∀ whole, isTrue a X.env whole = (do let v ← whole; standAt a.pos; holding [v] (truthy v)) := by intro _; rfl) : PT X a (TTof G W (tstS f)) := by
  refine PTimp (pt_val ha he) fun σ H Q ⟨E, F, A, s, R, P⟩ => ⟨E, F, A, s, R, PO.bind P fun x s1 F1 A1 H1 e1 g1 R1 P1 u hu => ?_⟩
  cases x with
  | bl c => exact ⟨c, hu.bl, P1.ok_here R1⟩
  | _ => exact P1.elim
theorem t_cmp {op : CmpOp} {r : R2} {opd : S → D → D → Option D} (hr : OpR X (compareOp op) r) (hd : OpD G r opd) (ha : PE X a (TEof G W f)) (hb : PE X b (TEof G W g))
    (h1 : behindInMarks op b = false := by first | exact nobehind _ (by decide) (by decide) | rfl) : PT X (.Compare a [op] [b] pos) (TTof G W (tstS (binS opd f g))) := by
  refine PTimp (pt_cmpR hr ha hb h1) fun σ H Q ⟨E, F, A, s, R, P⟩ => ⟨E, F, A, s, R, ?_⟩
  have P' : PO G E W σ (okB Q) F A ((f s).bind fun x s1 => (g s1).bind fun y s2 => match opd s2 x y with
    | some (.bl b) => .ok b s2
    | _ => .st) := by
    refine cast (congrArg _ ?_) P
    unfold tstS binS
    cases f s with
    | ok x s1 =>
      show ((g s1).bind _).bind _ = (g s1).bind _
      cases g s1 with
      | ok y s2 =>
        show O.bind (match opd s2 x y with | some d => .ok d s2 | none => .st) _ = _
        simp only [O.bind_ok]
        cases opd s2 x y with
        | none => rfl
        | some d => cases d <;> rfl
      | err _ _ => rfl
      | st => rfl
    | err _ _ => rfl
    | st => rfl
  refine PO.bind P' fun x s1 F1 A1 H1 e1 g1 R1 P1 u hu => ⟨E, F1, A1, s1, R1, PO.bind P1 fun y s2 F2 A2 H2 e2 g2 R2 P2 v hv => ?_⟩
  cases q : opd s2 x y with
  | none => rw [q] at P2; exact P2.elim
  | some d =>
    rw [q] at P2
    cases d with
    | bl k => exact hd E F2 A2 σ H2 s2 u v x y _ _ R2 (hu.mono e2 g2) hv q fun v F' A' H' e3 g3 R3 hv3 => ⟨k, hv3.bl, P2 F' A' H' e3 g3 R3⟩
    | _ => exact P2.elim
theorem t_and1 {t : M Bool} (ha : PT X a (TTof G W t)) : PW X (.BoolOp .And [a] pos) (TTof G W t) := pw_and1 ha
theorem t_or1 {t : M Bool} (ha : PT X a (TTof G W t)) : PW X (.BoolOp .Or [a] pos) (TTof G W t) := pw_or1 ha
theorem t_and {t u : M Bool} {rest : List Expr} (ha : PT X a (TTof G W t)) (hb : PW X (.BoolOp .And (b :: rest) pos) (TTof G W u)) : PW X (.BoolOp .And (a :: b :: rest) pos) (TTof G W (tAndS t u)) := by
  refine PWimp (pw_and ha hb) fun σ H Q ⟨E, F, A, s, R, P⟩ => ⟨E, F, A, s, R, PO.bind P fun x s1 F1 A1 H1 e1 g1 R1 P1 => ?_⟩
  cases x with
  | true => exact ⟨E, F1, A1, s1, R1, P1⟩
  | false => exact P1.ok_here R1
theorem t_or {t u : M Bool} {rest : List Expr} (ha : PT X a (TTof G W t)) (hb : PW X (.BoolOp .Or (b :: rest) pos) (TTof G W u)) : PW X (.BoolOp .Or (a :: b :: rest) pos) (TTof G W (tOrS t u)) := by
  refine PWimp (pw_or ha hb) fun σ H Q ⟨E, F, A, s, R, P⟩ => ⟨E, F, A, s, R, PO.bind P fun x s1 F1 A1 H1 e1 g1 R1 P1 => ?_⟩
  cases x with
  | true => exact P1.ok_here R1
  | false => exact ⟨E, F1, A1, s1, R1, P1⟩
theorem t_not {t : M Bool} (ha : PT X a (TTof G W t)) : PT X (.UnaryOp .Not a pos) (TTof G W (tNotS t)) :=
  PTimp (pt_not ha) fun σ H Q ⟨E, F, A, s, R, P⟩ => ⟨E, F, A, s, R, PO.bind P fun x s1 F1 A1 H1 e1 g1 R1 P1 => P1.ok_here R1⟩
theorem x_ite {t : M Bool} (hc : PT X c (TTof G W t)) (ha : PE X a (TEof G W f)) (hb : PE X b (TEof G W g)) : PE X (.IfExp c a b pos) (TEof G W (iteS t f g)) := by
  refine PEimp (pe_ifExp hc ha hb) fun σ H Q ⟨E, F, A, s, R, P⟩ => ⟨E, F, A, s, R, PO.bind P fun x s1 F1 A1 H1 e1 g1 R1 P1 => ?_⟩
  cases x with
  | true => exact ⟨E, F1, A1, s1, R1, P1⟩
  | false => exact ⟨E, F1, A1, s1, R1, P1⟩
theorem x_chain {op op' : CmpOp} {r r' : R2} {od od' : S → D → D → Option D} (hd : OpD G r od) (hd' : OpD G r' od')
    (k : PE X (.Compare a [op, op'] [b, c] pos) (tChain r r' (TEof G W f) (TEof G W g) (TEof G W h))) : PE X (.Compare a [op, op'] [b, c] pos) (TEof G W (chainS od od' f g h)) := by
  refine PEimp k fun σ H Q ⟨E, F, A, s, R, P⟩ => ⟨E, F, A, s, R, PO.bind P fun x s1 F1 A1 H1 e1 g1 R1 P1 u hu => ⟨E, F1, A1, s1, R1, PO.bind P1 fun y s2 F2 A2 H2 e2 g2 R2 P2 v hv => ?_⟩⟩
  cases q : od s2 x y with
  | none => rw [q] at P2; exact P2.elim
  | some d =>
    rw [q] at P2
    cases d with
    | bl k =>
      refine hd E F2 A2 σ H2 s2 u v x y _ _ R2 (hu.mono e2 g2) hv q fun z F3 A3 H3 e3 g3 R3 hz => ⟨k, hz.bl, ?_⟩
      cases k with
      | true =>
        refine iteT ⟨E, F3, A3, s2, R3, PO.bind (PO.mono P2 e3 g3 fun _ _ _ _ _ z => z) fun z s4 F4 A4 H4 e4 g4 R4 P4 zz hzz => ?_⟩
        cases q2 : od' s4 y z with
        | none => rw [q2] at P4; exact P4.elim
        | some d2 =>
          rw [q2] at P4
          exact hd' E F4 A4 σ H4 s4 v zz y z d2 Q R4 ((hv.mono e3 g3).mono e4 g4) hzz q2 fun v F' A' H' e5 g5 R5 hv5 => P4 F' A' H' e5 g5 R5 v hv5
      | false => exact iteF (P2 F3 A3 H3 e3 g3 R3 _ vok_bl)
    | _ => exact P2.elim
theorem a_nil : PA X [] (TAof G W nilS) := PAimp pa_nil fun σ H Q ⟨E, F, A, s, R, P⟩ => P.ok_here R [] .nil
theorem a_cons {ga : M (List D)} (ha : PE X e (TEof G W f)) (hr : PA X es (TAof G W ga)) (hs : starEach (e :: es) X.env = (false, eval e X.env) :: starEach es X.env := by rfl) : PA X (e :: es) (TAof G W (consS f ga)) :=
  PAimp (pa_cons ha hr hs) fun σ H Q ⟨E, F, A, s, R, P⟩ => ⟨E, F, A, s, R, PO.bind P fun x s1 F1 A1 H1 e1 g1 R1 P1 u hu => ⟨E, F1, A1, s1, R1, PO.bind P1 fun y s2 F2 A2 H2 e2 g2 R2 P2 vs hv => P2.ok_here R2 (u :: vs) (.cons (hu.mono e2 g2) hv)⟩⟩
theorem reps_of {σ : L2.St} {F : Hp} {A : Adr} : ∀ {ds : List D} {vs : List V}, Paired (VOk G σ F A) ds vs → ds.all sto = true → RepL G F A ds vs
  | [], _, .nil, _ => by simp only [RepL]
  | d :: ds, _, .cons h t, q => by
    simp only [List.all_cons, Bool.and_eq_true] at q
    simp only [RepL]
    exact ⟨_, _, rfl, h.rep q.1, reps_of t q.2⟩
theorem lim_line {n : Nat} (h : n ≤ LIM) : n ≤ sizeLine := Nat.le_trans h (by decide)
theorem paired_len {α β : Type} {R : α → β → Prop} {xs : List α} {ys : List β} (h : Paired R xs ys) : xs.length = ys.length := Paired.length h
theorem x_tup {ga : M (List D)} {x1} (ha : PA X es (TAof G W ga)) : PE X (.Tuple es x1 pos) (TEof G W (tupS ga)) := by
  refine PEimp (pe_tup ha) fun σ H Q ⟨E, F, A, s, R, P⟩ => ⟨E, F, A, s, R, PO.bind P fun xs s1 F1 A1 H1 e1 g1 R1 P1 us hu => ?_⟩
  cases q : xs.all sto && decide (xs.length ≤ LIM) with
  | false => rw [q] at P1; exact P1.elim
  | true =>
    rw [q] at P1
    simp only [Bool.and_eq_true, decide_eq_true_eq] at q
    refine ⟨by rw [← paired_len hu]; exact lim_line q.2, fun p hp => P1 _ _ _ (fle_upd (R1.sub.none hp)) (ALe.refl _) (R1.newFz hp) _ ?_⟩
    show Rep G _ _ (.tup xs) _
    simp only [Rep]
    exact ⟨p, us, rfl, upd_same, RepL.mono (fle_upd (R1.sub.none hp)) (ALe.refl _) _ _ (reps_of hu q.1)⟩
theorem f_lst {ga : M (List D)} (ha : PA X es (TAof G W ga)) : PE X (.List es pos) (TFof G W (lstF ga)) := by
  refine PEimp (pe_lst ha) fun σ H Q ⟨E, F, A, s, R, P⟩ => ⟨E, F, A, s, R, PO.bind P fun xs s1 F1 A1 H1 e1 g1 R1 P1 us hu => ?_⟩
  cases q : xs.all sto && decide (xs.length ≤ LIM) with
  | false => rw [q] at P1; exact P1.elim
  | true =>
    rw [q] at P1
    simp only [Bool.and_eq_true, decide_eq_true_eq] at q
    refine ⟨by rw [← paired_len hu]; exact lim_line q.2, fun p hp => ?_⟩
    obtain ⟨R2, k1, k2, k3, k4⟩ := R1.laid (o := .lst us) hp
    exact P1 _ _ _ (FLe.refl _) (ALe.refl _) R2 p ⟨⟨us, upd_same, reps_of hu q.1⟩, k1, k2, k3, k4⟩
theorem x_frz {m : M MO} (ha : PE X a (TFof G W m)) : PE X a (TEof G W (frzS m)) := by
  refine PEimp ha fun σ H Q ⟨E, F, A, s, R, P⟩ => ⟨E, F, A, s, R, PO.bind P fun m s1 F1 A1 H1 e1 g1 R1 P1 p N => ?_⟩
  obtain ⟨F2, e2, R2, r2⟩ := R1.freeze N
  exact P1 F2 A1 H1 e2 (ALe.refl _) R2 _ (.of r2)
theorem x_cb {r : List V → Hp → VK → Prop} {op : S → List D → Option D} {ga : M (List D)} {t : Expr} (hd : ClD G r op) (k : PE X t (tCB r (TAof G W ga))) : PE X t (TEof G W (callV op ga)) := by
  refine PEimp k fun σ H Q ⟨E, F, A, s, R, P⟩ => ⟨E, F, A, s, R, PO.bind P fun xs s1 F1 A1 H1 e1 g1 R1 P1 us hu => ?_⟩
  cases q : op s1 xs with
  | none => rw [q] at P1; exact P1.elim
  | some d =>
    rw [q] at P1
    exact hd E F1 A1 σ H1 s1 us xs d Q R1 hu q fun v F' A' H' e3 g3 R3 hv3 => P1 F' A' H' e3 g3 R3 v hv3
theorem f_cb {r : List V → Hp → VK → Prop} {op : S → List D → Option MO} {ga : M (List D)} {t : Expr} (hd : ClN G r op) (k : PE X t (tCB r (TAof G W ga))) : PE X t (TFof G W (callN op ga)) := by
  refine PEimp k fun σ H Q ⟨E, F, A, s, R, P⟩ => ⟨E, F, A, s, R, PO.bind P fun xs s1 F1 A1 H1 e1 g1 R1 P1 us hu => ?_⟩
  cases q : op s1 xs with
  | none => rw [q] at P1; exact P1.elim
  | some d =>
    rw [q] at P1
    exact hd E F1 A1 σ H1 s1 us xs d Q R1 hu q fun p F' A' H' e3 g3 R3 hv3 => P1 F' A' H' e3 g3 R3 p hv3
end
end AG
set_option Elab.async false
set_option linter.all false
set_option maxRecDepth 100000
namespace AG
open PySem L2
section
variable {G : Cfg} {E : Ent} {F F' : Hp} {A A' : Adr} {σ : L2.St} {H H' : Hp} {s : S} {p : Addr} {m : MO}
theorem getD_set {rhz : List SV} {i j : Nat} {x : SV} (h : i ≠ j) : (rhz.set i x).getD j .un = rhz.getD j .un := by
  rw [List.getD_eq_getElem?_getD, List.getD_eq_getElem?_getD, List.getElem?_set_ne h]
theorem Rel.setD (R : Rel G E F A σ H s) {i : Nat} {x : D} {v : V} (h : Rep G F A x v) : Rel G E F A (σ.set i (some v)) H { s with rhz := s.rhz.set i (.d x) } := by
  refine ⟨R.sub, by simp [R.len], fun j y u h1 h2 => ?_, fun j k a h1 h2 h3 h4 h5 h6 => ?_, R.cells, R.fle, R.ale, R.nle, R.keep, R.tb, R.tabs, R.fz, R.hz⟩
  · by_cases e : i = j
    · subst e
      have hl : i < s.rhz.length := by
        have := (List.getElem?_eq_some_iff.mp h1).1
        simpa using this
      have hs : i < σ.length := by rw [R.len]; exact hl
      rw [List.getElem?_set_self hl] at h1
      rw [List.getElem?_set_self hs] at h2
      cases h1
      cases h2
      exact ⟨v, rfl, h⟩
    · rw [List.getElem?_set_ne e] at h1 h2
      exact R.slot j y u h1 h2
  · have nj : i ≠ j := fun e => by
      subst e
      have hl : i < s.rhz.length := by simpa using h1
      rw [List.getD_eq_getElem?_getD, List.getElem?_set_self hl] at h3
      cases h3
    have nk : i ≠ k := fun e => by
      subst e
      have hl : i < s.rhz.length := by simpa using h2
      rw [List.getD_eq_getElem?_getD, List.getElem?_set_self hl] at h4
      cases h4
    rw [getD_set nj] at h3
    rw [getD_set nk] at h4
    rw [List.getElem?_set_ne nj] at h5
    rw [List.getElem?_set_ne nk] at h6
    exact R.dist j k a (by simpa using h1) (by simpa using h2) h3 h4 h5 h6
theorem Rel.setN (R : Rel G E F A σ H s) {i : Nat} (N : New G E F A σ H s p m) : Rel G E F A (σ.set i (some (.ref p))) H { s with rhz := s.rhz.set i (.own m) } := by
  refine ⟨R.sub, by simp [R.len], fun j y u h1 h2 => ?_, fun j k a h1 h2 h3 h4 h5 h6 => ?_, R.cells, R.fle, R.ale, R.nle, R.keep, R.tb, R.tabs, R.fz, R.hz⟩
  · by_cases e : i = j
    · subst e
      have hl : i < s.rhz.length := by
        have := (List.getElem?_eq_some_iff.mp h1).1
        simpa using this
      have hs : i < σ.length := by rw [R.len]; exact hl
      rw [List.getElem?_set_self hl] at h1
      rw [List.getElem?_set_self hs] at h2
      cases h1
      cases h2
      exact ⟨p, rfl, N.mo, N.nf, N.ne, N.nA⟩
    · rw [List.getElem?_set_ne e] at h1 h2
      exact R.slot j y u h1 h2
  · by_cases nj : i = j
    · by_cases nk : i = k
      · exact nj.symm.trans nk
      · subst nj
        have hl : i < s.rhz.length := by simpa using h1
        rw [List.getElem?_set_self (by rw [R.len]; exact hl)] at h5
        cases h5
        rw [getD_set nk] at h4
        rw [List.getElem?_set_ne nk] at h6
        exact absurd h6 (N.nσ k h4)
    · by_cases nk : i = k
      · subst nk
        have hl : i < s.rhz.length := by simpa using h2
        rw [List.getElem?_set_self (by rw [R.len]; exact hl)] at h6
        cases h6
        rw [getD_set nj] at h3
        rw [List.getElem?_set_ne nj] at h5
        exact absurd h5 (N.nσ j h3)
      · rw [getD_set nj] at h3
        rw [getD_set nk] at h4
        rw [List.getElem?_set_ne nj] at h5
        rw [List.getElem?_set_ne nk] at h6
        exact R.dist j k a (by simpa using h1) (by simpa using h2) h3 h4 h5 h6
theorem Rel.forget (R : Rel G E F A σ H s) (i : Nat) : Rel G E F A σ H { s with rhz := s.rhz.set i .un } := by
  refine ⟨R.sub, by simp [R.len], fun j y u h1 h2 => ?_, fun j k a h1 h2 h3 h4 h5 h6 => ?_, R.cells, R.fle, R.ale, R.nle, R.keep, R.tb, R.tabs, R.fz, R.hz⟩
  · by_cases e : i = j
    · subst e
      have hl : i < s.rhz.length := by
        have := (List.getElem?_eq_some_iff.mp h1).1
        simpa using this
      rw [List.getElem?_set_self hl] at h1
      cases h1
      trivial
    · rw [List.getElem?_set_ne e] at h1
      exact R.slot j y u h1 h2
  · have nj : i ≠ j := fun e => by
      subst e
      have hl : i < s.rhz.length := by simpa using h1
      rw [List.getD_eq_getElem?_getD, List.getElem?_set_self hl] at h3
      cases h3
    have nk : i ≠ k := fun e => by
      subst e
      have hl : i < s.rhz.length := by simpa using h2
      rw [List.getD_eq_getElem?_getD, List.getElem?_set_self hl] at h4
      cases h4
    rw [getD_set nj] at h3
    rw [getD_set nk] at h4
    exact R.dist j k a (by simpa using h1) (by simpa using h2) h3 h4 h5 h6
theorem Rel.own (R : Rel G E F A σ H s) {i : Nat} (h : s.rhz[i]? = some (.own m)) : ∃ p, σ[i]? = some (some (.ref p)) ∧ MoOk G F A H p m ∧ F p = none ∧ E.H p = none ∧ ∀ n, A n ≠ some p := by
  have hl : i < s.rhz.length := (List.getElem?_eq_some_iff.mp h).1
  have hs : i < σ.length := by rw [R.len]; exact hl
  obtain ⟨p, h1, h2⟩ := R.slot i _ _ h (List.getElem?_eq_getElem hs)
  exact ⟨p, by rw [List.getElem?_eq_getElem hs, h1], h2⟩
theorem Rel.take (R : Rel G E F A σ H s) {i : Nat} (h : s.rhz[i]? = some (.own m)) : ∃ p, σ[i]? = some (some (.ref p)) ∧ New G E F A σ H { s with rhz := s.rhz.set i .un } p m := by
  obtain ⟨p, h1, h2, h3, h4, h5⟩ := R.own h
  have hl : i < s.rhz.length := (List.getElem?_eq_some_iff.mp h).1
  refine ⟨p, h1, h2, h3, h4, h5, fun j hj hq => ?_⟩
  by_cases e : i = j
  · subst e
    change isOwn ((s.rhz.set i .un).getD i .un) = true at hj
    rw [List.getD_eq_getElem?_getD, List.getElem?_set_self hl] at hj
    cases hj
  · change isOwn ((s.rhz.set i .un).getD j .un) = true at hj
    rw [getD_set e] at hj
    have hjl : j < s.rhz.length := by
      cases q : s.rhz[j]? with
      | none => rw [List.getD_eq_getElem?_getD, q] at hj; cases hj
      | some x => exact (List.getElem?_eq_some_iff.mp q).1
    refine e (R.dist i j p hl hjl ?_ hj h1 hq)
    rw [List.getD_eq_getElem?_getD, h]
    rfl
end
def exS (f : M D) : M Fl := fun s => (f s).bind fun _ s1 => .ok .nx s1
def setS (i : Nat) (f : M D) : M Fl := fun s => (f s).bind fun x s1 => if sto x then .ok .nx { s1 with rhz := s1.rhz.set i (.d x) } else .st
def ownS (i : Nat) (f : M MO) : M Fl := fun s => (f s).bind fun m s1 => .ok .nx { s1 with rhz := s1.rhz.set i (.own m) }
def retS (f : M D) : M Fl := fun s => (f s).bind fun x s1 => match x with
  | .loc i => (match s1.rhz[i]? with
    | some (.own m) => .ok (.rt (frzD m)) { s1 with rhz := s1.rhz.set i .un }
    | _ => .st)
  | x => .ok (.rt x) s1
def nxS : M Fl := fun s => .ok .nx s
def bkS : M Fl := fun s => .ok .bk s
def ctS : M Fl := fun s => .ok .ct s
def seqS (f g : M Fl) : M Fl := fun s => (f s).bind fun fl s1 => match fl with
  | .nx => g s1
  | fl => .ok fl s1
def ifS (t : M Bool) (f g : M Fl) : M Fl := fun s => (t s).bind fun b s1 => if b = true then f s1 else g s1
def raiseS (c : Nat) : M Fl := fun s => .err { c := c } s
def fzS (i : Nat) : M Fl := fun s => match s.rhz[i]? with
  | some (.own m) => .ok .nx { s with rhz := s.rhz.set i (.d (frzD m)) }
  | _ => .ok .nx s
def forL (tg : D → M Unit) (body : M Fl) : List D → M Fl
  | [] => fun s => .ok .nx s
  | d :: ds => fun s => (tg d s).bind fun _ s1 => (body s1).bind fun fl s2 => match fl with
    | .nx => forL tg body ds s2
    | .ct => forL tg body ds s2
    | .bk => .ok .nx s2
    | .rt x => .ok (.rt x) s2
def forS (it : M (List D)) (tg : D → M Unit) (body : M Fl) : M Fl := fun s => (it s).bind fun ds s1 => forL tg body ds s1
def whN (c : M Bool) (body : M Fl) : Nat → M Fl
  | 0 => fun _ => .st
  | n + 1 => fun s => (c s).bind fun b s1 => if b = true then (body s1).bind fun fl s2 => match fl with
    | .nx => whN c body n s2
    | .ct => whN c body n s2
    | .bk => .ok .nx s2
    | .rt x => .ok (.rt x) s2
    else .ok .nx s1
open Classical in
noncomputable def whS (c : M Bool) (body : M Fl) : M Fl := fun s => if h : ∃ n, whN c body n s ≠ .st then whN c body (Classical.choose h) s else .st
def tgN (i : Nat) : D → M Unit := fun d s => .ok () { s with rhz := s.rhz.set i (.d d) }
def tgsS : List (D → M Unit) → List D → M Unit
  | [], [] => fun s => .ok () s
  | t :: ts, d :: ds => fun s => (t d s).bind fun _ s1 => tgsS ts ds s1
  | _, _ => fun _ => .st
def tgT (ts : List (D → M Unit)) : D → M Unit := fun d s => match d with
  | .tup ds => tgsS ts ds s
  | _ => .st
def seqD : D → Option (List D)
  | .lst l => some l
  | .tup l => some l
  | .scr ns => some (ns.map .int)
  | _ => none
def itS (f : M D) : M (List D) := fun s => (f s).bind fun d s1 => match seqD d with
  | some l => .ok l s1
  | none => .st
def wipeR (rhz : List SV) : List Nat → List SV
  | [] => rhz
  | v :: vs => (wipeR rhz vs).set v .un
def lcL (tg : D → M Unit) (c : M Bool) (e : M D) (vs : List Nat) : List D → List D → M (List D)
  | [], acc => fun s => .ok acc s
  | d :: ds, acc => fun s => (tg d s).bind fun _ s1 => (c s1).bind fun b s2 => if b = true then (e s2).bind fun y s3 => if sto y && decide (acc.length < LIM) then lcL tg c e vs ds (acc ++ [y]) { s3 with rhz := wipeR s3.rhz vs } else .st
    else lcL tg c e vs ds acc { s2 with rhz := wipeR s2.rhz vs }
def backR (rhz rhz' : List SV) : List Nat → List SV
  | [] => rhz'
  | v :: vs => (backR rhz rhz' vs).set v (rhz.getD v .un)
def lcF (it : M (List D)) (tg : D → M Unit) (c : M Bool) (e : M D) (vs : List Nat) : M MO := fun s => (it s).bind fun ds s1 =>
  if vs.any (fun v => isOwn (s1.rhz.getD v .un)) then .st else match lcL tg c e vs ds [] { s1 with rhz := wipeR s1.rhz vs } with
    | .ok acc s2 => .ok (.ml acc) { s2 with rhz := backR s1.rhz s2.rhz vs }
    | _ => .st
def callF (call : List D → List MO → R) (g : M (List D)) : M D := fun s => (g s).bind fun ds s1 => if ds.all sto then match call ds s1.muz with
  | .ok d muz => .ok d { s1 with muz := muz }
  | .err e muz => .err e { s1 with muz := muz }
  | .st => .st
  else .st
def runD (n a : Nat) (body : M Fl) (ds : List D) (muz : List MO) : R := if ds.length = a then match body ⟨ds.map .d ++ List.replicate (n - a) .un, muz⟩ with
  | .ok .nx s => .ok .non s.muz
  | .ok (.rt d) s => .ok d s.muz
  | .err e s => .err e s.muz
  | _ => .st
  else .st
end AG
set_option Elab.async false
set_option linter.all false
set_option maxRecDepth 100000
namespace AG
open PySem L2
section
variable {G : Cfg} {E : Ent} {W : WX} {X : Cx} {e a b c : Expr} {es : List Expr} {f g h : M D} {m : M MO} {pos : Pos} {st : Stmt} {sts : List Stmt} {sf sg : M Fl} {t : M Bool}
theorem s_ex (k : PS X st (tDrop (TEof G W f))) : PS X st (TSof G W (exS f)) :=
  PSimp k fun D σ H ⟨E, F, A, s, R, P⟩ => ⟨E, F, A, s, R, PostS.bind P fun d s1 F1 A1 H1 e1 g1 R1 P1 v hv => P1 σ F1 A1 H1 (FLe.refl _) (ALe.refl _) R1⟩
theorem s_set {i : Nat} (k : PS X st (tAsg (TEof G W f) (gName i))) : PS X st (TSof G W (setS i f)) :=
  PSimp k fun D σ H ⟨E, F, A, s, R, P⟩ => ⟨E, F, A, s, R, PostS.bind P fun d s1 F1 A1 H1 e1 g1 R1 P1 v hv => by
    cases q : sto d with
    | false =>
      rw [q] at P1
      exact P1.elim
    | true =>
      rw [q] at P1
      exact P1 _ F1 A1 H1 (FLe.refl _) (ALe.refl _) (R1.setD (hv.rep q))⟩
theorem s_own {i : Nat} (k : PS X st (tAsg (TFof G W m) (gName i))) : PS X st (TSof G W (ownS i m)) :=
  PSimp k fun D σ H ⟨E, F, A, s, R, P⟩ => ⟨E, F, A, s, R, PostS.bind P fun m s1 F1 A1 H1 e1 g1 R1 P1 p N => P1 _ F1 A1 H1 (FLe.refl _) (ALe.refl _) (R1.setN N)⟩
theorem s_ret (k : PS X st (tRet (TEof G W f))) : PS X st (TSof G W (retS f)) :=
  PSimp k fun D σ H ⟨E, F, A, s, R, P⟩ => ⟨E, F, A, s, R, PostS.bind P fun d s1 F1 A1 H1 e1 g1 R1 P1 v hv => by
    cases d with
    | loc i =>
      cases q : s1.rhz[i]? with
      | none =>
        simp only [q] at P1
        exact P1.elim
      | some x =>
        simp only [q] at P1
        cases x with
        | own m =>
          obtain ⟨p, h1, N⟩ := R1.take q
          obtain ⟨F2, e2, R2, r2⟩ := (R1.forget i).freeze N
          have hv' : σ[i]? = some (some v) := hv
          rw [h1] at hv'
          cases hv'
          exact P1 _ σ F2 A1 H1 e2 (ALe.refl _) R2 r2
        | un => exact P1.elim
        | d x => exact P1.elim
    | _ => exact P1 v σ F1 A1 H1 (FLe.refl _) (ALe.refl _) R1 (hv.rep rfl)⟩
theorem s_nil : PSs X [] (TSof G W nxS) := PSsimp pss_nil fun D σ H ⟨E, F, A, s, R, P⟩ => P σ F A H (FLe.refl _) (ALe.refl _) R
theorem s_one (k : PS X st (TSof G W sf)) : PSs X [st] (TSof G W sf) := pss_one k
theorem s_cons (k : PS X st (TSof G W sf)) (r : PSs X sts (TSof G W sg)) : PSs X (st :: sts) (TSof G W (seqS sf sg)) :=
  PSsimp (pss_cons k r) fun D σ H ⟨E, F, A, s, R, P⟩ => by
    refine ⟨E, F, A, s, R, ?_⟩
    show PostS G E W { D with nx := TSof G W sg D } F A (sf s)
    unfold seqS at P
    cases q : sf s with
    | st => rw [q] at P; exact P
    | err er s1 => rw [q] at P; exact P
    | ok fl s1 =>
      rw [q] at P
      cases fl with
      | nx => exact fun σ F' A' H e g R => ⟨E, F', A', s1, R, PostS.mono P e g⟩
      | bk => exact P
      | ct => exact P
      | rt d => exact P
theorem s_if (hc : PT X c (TTof G W t)) (ha : PSs X sts (TSof G W sf)) {sts' : List Stmt} (hb : PSs X sts' (TSof G W sg)) : PS X (.If c sts sts' pos) (TSof G W (ifS t sf sg)) :=
  PSimp (ps_if hc ha hb) fun D σ H ⟨E, F, A, s, R, P⟩ => ⟨E, F, A, s, R, PostS.bind P fun b s1 F1 A1 H1 e1 g1 R1 P1 => by
    cases b with
    | true => exact ⟨E, F1, A1, s1, R1, P1⟩
    | false => exact ⟨E, F1, A1, s1, R1, P1⟩⟩
theorem s_raise {n : Nat} (k : PS X st (fun _ σ H => W (.ref (G.CA n)) none σ H)) : PS X st (TSof G W (raiseS n)) :=
  PSimp k fun D σ H ⟨E, F, A, s, R, P⟩ => P σ F A H ⟨none, rfl⟩ (FLe.refl _) (ALe.refl _) R
def ItOk (G : Cfg) (F : Hp) (A : Adr) (J : It) (ds : List D) : Prop := ∀ (E : Ent) (F' : Hp) (A' : Adr) (σ : L2.St) (H : Hp) (s : S), FLe F F' → ALe A A' → Rel G E F' A' σ H s →
  (∀ i, ds.length ≤ i → J.stop i H) ∧ ∀ i d, ds[i]? = some d → J.go i H ∧ ∀ x H', J.yld i H x H' → ∃ F'', FLe F' F'' ∧ Rel G E F'' A' σ H' s ∧ Rep G F'' A' d x
def TIof (G : Cfg) (W : WX) (f : M (List D)) : TI := fun σ H Q => ∃ E F A s, Rel G E F A σ H s ∧ PO G E W σ (fun ds _ F A H => ∀ J, ItOk G F A J ds → Q J H) F A (f s)
def TGof (G : Cfg) (ws : List Nat) (g : D → M Unit) : TG := fun v σ H Q => ∃ E F A s d, Rel G E F A σ H s ∧ Rep G F A d v ∧ (match g d s with
  | .ok _ s' => ∀ σ', Rel G E F A σ' H s' → wipe σ' ws = wipe σ ws → Q σ' H
  | _ => False)
theorem wipe_set {σ : L2.St} {i : Nat} {x : Option V} : ∀ {ws : List Nat}, i ∈ ws → wipe (σ.set i x) ws = wipe σ ws
  | [], h => absurd h (by simp)
  | v :: vs, h => by
    by_cases hv : i ∈ vs
    · unfold wipe
      rw [wipe_set hv]
    · have e : v = i := by
        rcases List.mem_cons.mp h with z | z
        · exact z.symm
        · exact absurd z hv
      subst e
      unfold wipe
      have key : ∀ (ws : List Nat), wipe (σ.set v x) ws = (wipe σ ws).set v ((wipe (σ.set v x) ws).getD v none) := by
        intro ws
        apply List.ext_getElem?
        intro j
        have hw : ∀ (ws : List Nat) (τ : L2.St) (j : Nat), (wipe τ ws)[j]? = if j ∈ ws then (τ[j]?).map (fun _ => none) else τ[j]? := by
          intro ws
          induction ws with
          | nil => intro τ j; simp [wipe]
          | cons w ws ih =>
            intro τ j
            unfold wipe
            by_cases q : w = j
            · subst q
              rw [if_pos List.mem_cons_self, List.getElem?_set]
              simp [wipe_length]
              by_cases hl : w < τ.length
              · simp [hl]
              · simp [hl]
            · rw [List.getElem?_set_ne q, ih]
              have : (j ∈ w :: ws) ↔ j ∈ ws := by simp [Ne.symm q]
              simp only [this]
        by_cases q : v = j
        · subst q
          rw [List.getElem?_set]
          simp only [if_true]
          by_cases hl : v < (wipe σ ws).length
          · rw [if_pos hl]
            have hl2 : v < (wipe (σ.set v x) ws).length := by simpa [wipe_length] using hl
            rw [List.getD_eq_getElem?_getD, List.getElem?_eq_getElem hl2]
            rfl
          · rw [if_neg hl]
            apply List.getElem?_eq_none_iff.mpr
            simpa [wipe_length] using hl
        · rw [List.getElem?_set_ne q, hw, hw]
          rw [List.getElem?_set_ne q]
      rw [key vs, List.set_set]
theorem ItOk.mono {F F' : Hp} {A A' : Adr} {J : It} {ds : List D} (h : ItOk G F A J ds) (e : FLe F F') (g : ALe A A') : ItOk G F' A' J ds := fun E F2 A2 σ H s e2 g2 R => h E F2 A2 σ H s (e.trans e2) (g.trans g2) R
theorem g_name {ws : List Nat} {i : Nat} {x : Str} (k : PG X (.Name x pos) (gName i)) (hi : i ∈ ws := by decide) : PG X (.Name x pos) (TGof G ws (tgN i)) :=
  ⟨fun pins s σ H v u Q I r ⟨E, F, A, s', d, R, hr, P⟩ => k.run pins s σ H v u Q I r (P _ (R.setD hr) (wipe_set hi))⟩
def TGsof (G : Cfg) (ws : List Nat) (g : List D → M Unit) : TGs := fun vs σ H Q => ∃ E F A s ds, Rel G E F A σ H s ∧ RepL G F A ds vs ∧ (match g ds s with
  | .ok _ s' => ∀ σ', Rel G E F A σ' H s' → wipe σ' ws = wipe σ ws → Q σ' H
  | _ => False)
theorem PGimp {t t' : TG} (h : PG X e t) (k : ∀ v σ H Q, t' v σ H Q → t v σ H Q) : PG X e t' := ⟨fun pins s σ H v u Q I r hq => h.run pins s σ H v u Q I r (k v σ H Q hq)⟩
theorem PGsimp {t t' : TGs} (h : PGs X es t) (k : ∀ v σ H Q, t' v σ H Q → t v σ H Q) : PGs X es t' := ⟨fun pins s σ H v u Q I r hq => h.run pins s σ H v u Q I r (k v σ H Q hq)⟩
theorem gs_nil {ws : List Nat} : PGs X [] (TGsof G ws (tgsS [])) := PGsimp pgs_nil fun vs σ H Q ⟨E, F, A, s, ds, R, hr, P⟩ => by
  cases ds with
  | nil =>
    simp only [RepL] at hr
    exact ⟨hr, P σ R rfl⟩
  | cons d ds => exact P.elim
theorem gs_cons {ws : List Nat} {g1 : D → M Unit} {ts : List (D → M Unit)} {x : Expr} {xs : List Expr} (h1 : PG X x (TGof G ws g1)) (h2 : PGs X xs (TGsof G ws (tgsS ts)))
    (hs : (assignEach (x :: xs) X.env).map (·.2) = assign x X.env :: (assignEach xs X.env).map (·.2) := by rfl) : PGs X (x :: xs) (TGsof G ws (tgsS (g1 :: ts))) := PGsimp (pgs_cons h1 h2 hs) fun vs σ H Q ⟨E, F, A, s, ds, R, hr, P⟩ => by
  cases ds with
  | nil => exact P.elim
  | cons d ds =>
    simp only [RepL] at hr
    obtain ⟨v, r, e, h3, h4⟩ := hr
    refine ⟨v, r, e, E, F, A, s, d, R, h3, ?_⟩
    simp only [tgsS] at P
    cases q : g1 d s with
    | ok u s1 =>
      rw [q] at P
      cases q2 : tgsS ts ds s1 with
      | ok u2 s2 =>
        rw [O.bind_ok, q2] at P
        exact fun σ' R' hw => ⟨E, F, A, s1, ds, R', h4, by rw [q2]; exact fun σ2 R2 hw2 => P σ2 R2 (hw2.trans hw)⟩
      | err er s2 => rw [O.bind_ok, q2] at P; exact P.elim
      | st => rw [O.bind_ok, q2] at P; exact P.elim
    | err er s1 => rw [q] at P; exact P
    | st => rw [q] at P; exact P
theorem Rel.tup {F : Hp} {A : Adr} {σ : L2.St} {H : Hp} {s : S} (R : Rel G E F A σ H s) {a : Addr} {vs : List V} (h : F a = some (.tup vs)) : H a = some (.tup vs) := by
  rcases R.sub a _ h with k | ⟨k, _⟩
  · exact k
  · exact k.elim
theorem Rel.lst {F : Hp} {A : Adr} {σ : L2.St} {H : Hp} {s : S} (R : Rel G E F A σ H s) {a : Addr} {vs : List V} (h : F a = some (.lst vs)) : H a = some (.lst vs) := by
  rcases R.sub a _ h with k | ⟨k, _⟩
  · exact k
  · exact k.elim
theorem g_tup {ws : List Nat} {ts : List (D → M Unit)} {xs : List Expr} {k : Nat} (hc : X.calm = true) (h : PGs X xs (TGsof G ws (tgsS ts))) (hl : xs.length = ts.length := by rfl)
    (hn : (assignEach xs X.env).length = xs.length := by rfl) (hst : (assignEach xs X.env).findIdx? (·.1) = none := by rfl) : PG X (.Tuple xs k pos) (TGof G ws (tgT ts)) := PGimp (pg_tup hc h hn hst) fun v σ H Q ⟨E, F, A, s, d, R, hr, P⟩ => by
  cases d with
  | tup ds =>
    simp only [Rep] at hr
    obtain ⟨a, vs, e, h1, h2⟩ := hr
    have hl2 : ds.length = ts.length := by
      have key : ∀ (ts : List (D → M Unit)) (ds : List D) (s : S), (match tgsS ts ds s with
        | .ok _ s' => True
        | _ => False) → ds.length = ts.length := by
        intro ts
        induction ts with
        | nil => intro ds s h; cases ds with
          | nil => rfl
          | cons _ _ => exact h.elim
        | cons t ts ih => intro ds s h; cases ds with
          | nil => exact h.elim
          | cons d ds =>
            simp only [tgsS] at h
            cases q : t d s with
            | ok u s1 => rw [q] at h; simp [ih ds s1 h]
            | err _ _ => rw [q] at h; exact h.elim
            | st => rw [q] at h; exact h.elim
      refine key ts ds s ?_
      simp only [tgT] at P
      cases q : tgsS ts ds s with
      | ok u s1 => trivial
      | err _ _ => rw [q] at P; exact P
      | st => rw [q] at P; exact P
    refine ⟨a, vs, e, .of (R.tup h1), ?_, E, F, A, s, ds, R, h2, P⟩
    rw [RepL.length h2, hl2, hl]
  | _ => exact P.elim
theorem i_seq (kl : PI X a b (iList X.K (TEof G W f))) (kt : PI X a b (iTup X.K (TEof G W f))) (hK : X.K = G.K) : PI X a b (TIof G W (itS f)) := by
  refine ⟨fun pins s σ H R I hw => ?_⟩
  obtain ⟨E, F, A, s0, Rl, P⟩ := hw
  have ol : ∀ (a : Addr) (vs : List V) (ds : List D) (F A), F a = some (.lst vs) → RepL G F A ds vs → ItOk G F A (Itl X.K a) ds := fun a vs ds F A h1 h2 E F' A' σ H s e g R => by
    have hs : SqL X.K H a vs := .of (R.lst (e _ _ h1))
    have h3 := RepL.mono e g _ _ h2
    refine ⟨fun i hi => ⟨vs, hs, by rw [RepL.length h2]; exact hi⟩, fun i d hd => ?_⟩
    obtain ⟨v, h4, h5⟩ := RepL.get h3 hd
    exact ⟨⟨vs, v, hs, h4⟩, fun x H' ⟨e1, h6⟩ => by
      subst e1
      have h7 := h6 vs hs
      rw [h4] at h7
      cases h7
      exact ⟨F', FLe.refl _, R, h5⟩⟩
  have ot : ∀ (a : Addr) (vs : List V) (ds : List D) (F A), F a = some (.tup vs) → RepL G F A ds vs → ItOk G F A (Itt X.K a) ds := fun a vs ds F A h1 h2 E F' A' σ H s e g R => by
    have hs : SqT X.K H a vs := .of (R.tup (e _ _ h1))
    have h3 := RepL.mono e g _ _ h2
    refine ⟨fun i hi => ⟨vs, hs, by rw [RepL.length h2]; exact hi⟩, fun i d hd => ?_⟩
    obtain ⟨v, h4, h5⟩ := RepL.get h3 hd
    exact ⟨⟨vs, v, hs, h4⟩, fun x H' ⟨e1, h6⟩ => by
      subst e1
      have h7 := h6 vs hs
      rw [h4] at h7
      cases h7
      exact ⟨F', FLe.refl _, R, h5⟩⟩
  have os : ∀ (a : Addr) (ns : List Int) (F A), SqL G.K F a (ns.map V.int) → (∀ F' H, FLe F F' → Sub F' H → SqL G.K H a (ns.map V.int)) → ItOk G F A (Itl X.K a) (ns.map D.int) := fun a ns F A h1 hh E F' A' σ H s e g R => by
    have hs : SqL X.K H a (ns.map V.int) := by rw [hK]; exact hh F' H e R.sub
    refine ⟨fun i hi => ⟨_, hs, by simpa using hi⟩, fun i d hd => ?_⟩
    rw [List.getElem?_map] at hd
    cases q : ns[i]? with
    | none => rw [q] at hd; cases hd
    | some n =>
      rw [q] at hd
      cases hd
      have h4 : (ns.map V.int)[i]? = some (V.int n) := by rw [List.getElem?_map, q]; rfl
      exact ⟨⟨_, _, hs, h4⟩, fun x H' ⟨e1, h6⟩ => by
        subst e1
        have h7 := h6 _ hs
        rw [h4] at h7
        cases h7
        exact ⟨F', FLe.refl _, R, by simp [Rep]⟩⟩
  cases q : f s0 with
  | st => unfold itS at P; rw [q] at P; exact P.elim
  | err er s1 =>
    unfold itS at P
    rw [q] at P
    exact kl.run pins s σ H R I ⟨E, F, A, s0, Rl, by rw [q]; exact P⟩
  | ok d s1 =>
    unfold itS at P
    rw [q] at P
    cases d with
    | lst l =>
      refine kl.run pins s σ H R I ⟨E, F, A, s0, Rl, ?_⟩
      rw [q]
      intro F1 A1 H1 e1 g1 R1 v hv
      have hv : Rep G F1 A1 (.lst l) v := hv
      simp only [Rep] at hv
      obtain ⟨a, vs, e, h1, h2⟩ := hv
      exact ⟨a, e, ⟨vs, .of (R1.lst h1)⟩, P F1 A1 H1 e1 g1 R1 _ (ol a vs l F1 A1 h1 h2)⟩
    | scr ns =>
      refine kl.run pins s σ H R I ⟨E, F, A, s0, Rl, ?_⟩
      rw [q]
      intro F1 A1 H1 e1 g1 R1 v hv
      have hv : Rep G F1 A1 (.scr ns) v := hv
      simp only [Rep] at hv
      obtain ⟨a, e, h1⟩ := hv
      have hh : ∀ F' H, FLe F1 F' → Sub F' H → SqL G.K H a (ns.map V.int) := fun F' H e sb => by
        rcases h1 with (h | ⟨o, h⟩) | h
        · rcases sb _ _ (e _ _ h) with k | ⟨k, _⟩
          · exact .inl (.inl k)
          · exact k.elim
        · rcases sb _ _ (e _ _ h) with k | ⟨k, _⟩
          · exact .inl (.inr ⟨o, k⟩)
          · exact k.elim
        · exact .inr h
      exact ⟨a, e, ⟨_, by rw [hK]; exact hh F1 H1 (FLe.refl _) R1.sub⟩, P F1 A1 H1 e1 g1 R1 _ (os a ns F1 A1 h1 hh)⟩
    | tup l =>
      refine kt.run pins s σ H R I ⟨E, F, A, s0, Rl, ?_⟩
      rw [q]
      intro F1 A1 H1 e1 g1 R1 v hv
      have hv : Rep G F1 A1 (.tup l) v := hv
      simp only [Rep] at hv
      obtain ⟨a, vs, e, h1, h2⟩ := hv
      exact ⟨a, e, ⟨vs, .of (R1.tup h1)⟩, P F1 A1 H1 e1 g1 R1 _ (ot a vs l F1 A1 h1 h2)⟩
    | _ => exact P.elim
theorem s_for {ws : List Nat} {it : M (List D)} {tg : D → M Unit} (hT : ∀ d s e s', tg d s ≠ .err e s') (k : PS X st (tFor (TIof G W it) (TGof G ws tg) (TSof G W sf))) : PS X st (TSof G W (forS it tg sf)) := by
  refine PSimp k fun D σ H ⟨E, F, A, s, R, P⟩ => ⟨E, F, A, s, R, PostS.bind P fun ds s1 F1 A1 H1 e1 g1 R1 P1 J hJ => ?_⟩
  refine ⟨fun i m σ H => m + i = ds.length ∧ ∃ F A s, FLe F1 F ∧ ALe A1 A ∧ Rel G E F A σ H s ∧ PostS G E W D F A (forL tg sf (ds.drop i) s), ⟨ds.length, by omega, F1, A1, s1, FLe.refl _, ALe.refl _, R1, P1⟩, ?_⟩
  rintro i m σ2 H2 ⟨hm, F2, A2, s2, e2, g2, R2, P2⟩
  obtain ⟨h1, h2⟩ := hJ E F2 A2 σ2 H2 s2 e2 g2 R2
  cases q : ds[i]? with
  | none =>
    have hl : ds.length ≤ i := List.getElem?_eq_none_iff.mp q
    rw [List.drop_eq_nil_of_le hl] at P2
    exact .inl ⟨h1 i hl, P2 _ _ _ _ (FLe.refl _) (ALe.refl _) R2⟩
  | some d =>
    have hl := (List.getElem?_eq_some_iff.mp q).1
    obtain ⟨h3, h4⟩ := h2 i d q
    have ed : ds.drop i = d :: ds.drop (i + 1) := by
      rw [List.drop_eq_getElem_cons hl, (List.getElem?_eq_some_iff.mp q).2]
    rw [ed] at P2
    refine .inr ⟨h3, fun σ' H' => ∃ F A s, FLe F1 F ∧ ALe A1 A ∧ Rel G E F A σ' H' s ∧ PostS G E W D F A (forL tg sf (ds.drop (i + 1)) s), fun σ' H' h => ⟨m - 1, by omega, by omega, h⟩, fun x H3 y => ?_⟩
    obtain ⟨F3, e3, R3, r3⟩ := h4 x H3 y
    refine ⟨E, F3, A2, s2, d, R3, r3, ?_⟩
    simp only [forL] at P2
    cases qt : tg d s2 with
    | st => rw [qt] at P2; exact P2
    | err er s3 =>
      rw [qt] at P2
      exact (hT d s2 er s3 qt).elim
    | ok u s3 =>
      rw [qt] at P2
      intro σ4 R4 _
      refine ⟨E, F3, A2, s3, R4, ?_⟩
      have P3 := PostS.mono P2 e3 (ALe.refl _)
      simp only [O.bind_ok] at P3
      cases qb : sf s3 with
      | st => rw [qb] at P3; exact P3
      | err er s4 => rw [qb] at P3; exact P3
      | ok fl s4 =>
        rw [qb] at P3
        cases fl with
        | nx => exact fun σ5 F5 A5 H5 e5 g5 R5 => ⟨F5, A5, s4, e2.trans (e3.trans e5), g2.trans g5, R5, PostS.mono P3 e5 g5⟩
        | ct => exact fun σ5 F5 A5 H5 e5 g5 R5 => ⟨F5, A5, s4, e2.trans (e3.trans e5), g2.trans g5, R5, PostS.mono P3 e5 g5⟩
        | bk => exact fun σ5 F5 A5 H5 e5 g5 R5 => P3 σ5 F5 A5 H5 e5 g5 R5
        | rt x => exact fun v σ5 F5 A5 H5 e5 g5 R5 => P3 v σ5 F5 A5 H5 e5 g5 R5
theorem whN_more {c : M Bool} {body : M Fl} : ∀ (n : Nat) (s : S), whN c body n s ≠ .st → ∀ m, n ≤ m → whN c body m s = whN c body n s
  | 0, s, h, m, hm => absurd rfl h
  | n + 1, s, h, 0, hm => absurd hm (by omega)
  | n + 1, s, h, m + 1, hm => by
    simp only [whN] at h ⊢
    cases qc : c s with
    | st => rfl
    | err er s1 => rfl
    | ok b s1 =>
      rw [qc] at h
      simp only [O.bind_ok] at h ⊢
      cases b with
      | false => rfl
      | true =>
        simp only [if_true] at h ⊢
        cases qb : body s1 with
        | st => rfl
        | err er s2 => rfl
        | ok fl s2 =>
          rw [qb] at h
          simp only [O.bind_ok] at h ⊢
          cases fl with
          | nx => exact whN_more n s2 h m (by omega)
          | ct => exact whN_more n s2 h m (by omega)
          | bk => rfl
          | rt d => rfl
theorem whS_eq {c : M Bool} {body : M Fl} {n : Nat} {s : S} {o : O Fl} (h : whN c body n s = o) (ho : o ≠ .st) : whS c body s = o := by
  have ex : ∃ n, whN c body n s ≠ .st := ⟨n, by rw [h]; exact ho⟩
  unfold whS
  rw [dif_pos ex]
  have h1 := Classical.choose_spec ex
  rcases Nat.le_total (Classical.choose ex) n with q | q
  · rw [← whN_more _ s h1 n q, h]
  · rw [whN_more n s (by rw [h]; exact ho) _ q, h]
theorem whS_unf (c : M Bool) (body : M Fl) (s : S) : whS c body s = (c s).bind fun b s1 => if b = true then (body s1).bind fun fl s2 => match fl with
    | .nx => whS c body s2
    | .ct => whS c body s2
    | .bk => .ok .nx s2
    | .rt x => .ok (.rt x) s2
    else .ok .nx s1 := by
  cases qc : c s with
  | st =>
    unfold whS
    rw [dif_neg]
    · rfl
    · rintro ⟨n, h⟩
      cases n with
      | zero => exact h rfl
      | succ n => exact h (by simp only [whN, qc]; rfl)
  | err er s1 => exact whS_eq (n := 1) (by simp only [whN, qc]; rfl) (by simp)
  | ok b s1 =>
    cases b with
    | false => exact whS_eq (n := 1) (by simp only [whN, qc]; rfl) (by simp)
    | true =>
      simp only [O.bind_ok, if_true]
      cases qb : body s1 with
      | st =>
        unfold whS
        rw [dif_neg]
        · rfl
        · rintro ⟨n, h⟩
          cases n with
          | zero => exact h rfl
          | succ n => exact h (by simp only [whN, qc, O.bind_ok, if_true, qb]; rfl)
      | err er s2 => exact whS_eq (n := 1) (by simp only [whN, qc, O.bind_ok, if_true, qb]; rfl) (by simp)
      | ok fl s2 =>
        simp only [O.bind_ok]
        have go : (∀ n, whN c body (n + 1) s = whN c body n s2) → whS c body s = whS c body s2 := fun hn => by
          by_cases ex : ∃ n, whN c body n s2 ≠ .st
          · obtain ⟨n, h⟩ := ex
            rw [whS_eq (n := n) (s := s2) rfl h, whS_eq (n := n + 1) (s := s) (hn n) h]
          · have ex2 : ¬ ∃ n, whN c body n s ≠ .st := by
              rintro ⟨n, h⟩
              cases n with
              | zero => exact h rfl
              | succ n => exact ex ⟨n, by rw [← hn n]; exact h⟩
            unfold whS
            rw [dif_neg ex, dif_neg ex2]
        cases fl with
        | nx => exact go fun n => by simp only [whN, qc, O.bind_ok, if_true, qb]
        | ct => exact go fun n => by simp only [whN, qc, O.bind_ok, if_true, qb]
        | bk => exact whS_eq (n := 1) (by simp only [whN, qc, O.bind_ok, if_true, qb]) (by simp)
        | rt d => exact whS_eq (n := 1) (by simp only [whN, qc, O.bind_ok, if_true, qb]) (by simp)
theorem whS_some {c : M Bool} {body : M Fl} {s : S} (h : whS c body s ≠ .st) : ∃ n, whN c body n s = whS c body s := by
  by_cases ex : ∃ n, whN c body n s ≠ .st
  · obtain ⟨n, q⟩ := ex
    exact ⟨n, (whS_eq rfl q).symm⟩
  · unfold whS at h
    rw [dif_neg ex] at h
    exact absurd rfl h
theorem s_while (k : PS X st (tWhile (TTof G W t) (TSof G W sf))) : PS X st (TSof G W (whS t sf)) := by
  refine PSimp k fun D σ H ⟨E, F, A, s, R, P⟩ => ?_
  have hne : whS t sf s ≠ .st := fun z => by rw [z] at P; exact P
  obtain ⟨n, hn⟩ := whS_some hne
  rw [← hn] at P
  refine ⟨fun m σ H => ∃ F A s, Rel G E F A σ H s ∧ PostS G E W D F A (whN t sf m s), ⟨n, F, A, s, R, P⟩, ?_⟩
  rintro m σ2 H2 ⟨F2, A2, s2, R2, P2⟩
  cases m with
  | zero => exact P2.elim
  | succ m =>
    simp only [whN] at P2
    refine ⟨E, F2, A2, s2, R2, PostS.bind P2 fun b s3 F3 A3 H3 e3 g3 R3 P3 => ?_⟩
    cases b with
    | false => exact P3 _ _ _ _ (FLe.refl _) (ALe.refl _) R3
    | true =>
      show if true = true then _ else _
      rw [if_pos rfl]
      simp only [if_true] at P3
      refine ⟨fun σ' H' => ∃ F A s, Rel G E F A σ' H' s ∧ PostS G E W D F A (whN t sf m s), fun σ' H' h => ⟨m, Nat.lt_succ_self m, h⟩, E, F3, A3, s3, R3, ?_⟩
      cases qb : sf s3 with
      | st => rw [qb] at P3; exact P3
      | err er s4 => rw [qb] at P3; exact P3
      | ok fl s4 =>
        rw [qb] at P3
        cases fl with
        | nx => exact fun σ5 F5 A5 H5 e5 g5 R5 => ⟨F5, A5, s4, R5, PostS.mono P3 e5 g5⟩
        | ct => exact fun σ5 F5 A5 H5 e5 g5 R5 => ⟨F5, A5, s4, R5, PostS.mono P3 e5 g5⟩
        | bk => exact fun σ5 F5 A5 H5 e5 g5 R5 => P3 σ5 F5 A5 H5 e5 g5 R5
        | rt x => exact fun v σ5 F5 A5 H5 e5 g5 R5 => P3 v σ5 F5 A5 H5 e5 g5 R5
end
end AG
set_option Elab.async false
set_option linter.all false
set_option maxRecDepth 100000
namespace AG
open PySem L2
abbrev W0 : WX := fun _ _ _ _ => False
section
variable {G : Cfg} {E : Ent} {F F' : Hp} {A A' : Adr} {σ : L2.St} {H H' : Hp} {s : S} {p : Addr} {o : HO} {m : MO}
theorem Rel.unset (R : Rel G E F A σ H s) (i : Nat) : Rel G E F A (σ.set i none) H { s with rhz := s.rhz.set i .un } := by
  have R' := R.forget i
  refine ⟨R.sub, by simp [R.len], fun j y u h1 h2 => ?_, fun j k a h1 h2 h3 h4 h5 h6 => ?_, R.cells, R.fle, R.ale, R.nle, R.keep, R.tb, R.tabs, R.fz, R.hz⟩
  · by_cases e : i = j
    · subst e
      have hl : i < s.rhz.length := by
        have := (List.getElem?_eq_some_iff.mp h1).1
        simpa using this
      rw [List.getElem?_set_self hl] at h1
      cases h1
      trivial
    · rw [List.getElem?_set_ne e] at h2
      exact R'.slot j y u h1 h2
  · have nj : i ≠ j := fun e => by
      subst e
      have hl : i < s.rhz.length := by simpa using h1
      rw [List.getD_eq_getElem?_getD, List.getElem?_set_self hl] at h3
      cases h3
    have nk : i ≠ k := fun e => by
      subst e
      have hl : i < s.rhz.length := by simpa using h2
      rw [List.getD_eq_getElem?_getD, List.getElem?_set_self hl] at h4
      cases h4
    rw [List.getElem?_set_ne nj] at h5
    rw [List.getElem?_set_ne nk] at h6
    exact R'.dist j k a h1 h2 h3 h4 h5 h6
theorem Rel.wipe (R : Rel G E F A σ H s) : ∀ ws : List Nat, Rel G E F A (L2.wipe σ ws) H { s with rhz := wipeR s.rhz ws }
  | [] => R
  | v :: vs => (Rel.wipe R vs).unset v
theorem wipe_at : ∀ (ws : List Nat) (τ : L2.St) (j : Nat), (L2.wipe τ ws)[j]? = if j ∈ ws then (τ[j]?).map (fun _ => none) else τ[j]?
  | [], τ, j => by simp [L2.wipe]
  | w :: ws, τ, j => by
    unfold L2.wipe
    by_cases q : w = j
    · subst q
      rw [if_pos List.mem_cons_self, List.getElem?_set]
      simp [wipe_length]
      by_cases hl : w < τ.length
      · simp [hl]
      · simp [hl]
    · rw [List.getElem?_set_ne q, wipe_at ws]
      have : (j ∈ w :: ws) ↔ j ∈ ws := by simp [Ne.symm q]
      simp only [this]
theorem wipeR_length (rhz : List SV) : ∀ ws : List Nat, (wipeR rhz ws).length = rhz.length
  | [] => rfl
  | v :: vs => by unfold wipeR; rw [List.length_set, wipeR_length rhz vs]
theorem wipeR_at : ∀ (ws : List Nat) (τ : List SV) (j : Nat), (wipeR τ ws)[j]? = if j ∈ ws then (τ[j]?).map (fun _ => SV.un) else τ[j]?
  | [], τ, j => by simp [wipeR]
  | w :: ws, τ, j => by
    unfold wipeR
    by_cases q : w = j
    · subst q
      rw [if_pos List.mem_cons_self, List.getElem?_set]
      simp [wipeR_length]
      by_cases hl : w < τ.length
      · simp [hl]
      · simp [hl]
    · rw [List.getElem?_set_ne q, wipeR_at ws]
      have : (j ∈ w :: ws) ↔ j ∈ ws := by simp [Ne.symm q]
      simp only [this]
theorem wipe_idem (σ : L2.St) (ws : List Nat) : L2.wipe (L2.wipe σ ws) ws = L2.wipe σ ws := by
  apply List.ext_getElem?
  intro j
  rw [wipe_at, wipe_at]
  by_cases h : j ∈ ws
  · simp only [h, if_true]
    cases σ[j]? <;> rfl
  · simp only [h, if_false]
theorem own_wipe {rhz : List SV} {ws : List Nat} {i : Nat} (h : isOwn ((wipeR rhz ws).getD i .un) = true) : i ∉ ws ∧ isOwn (rhz.getD i .un) = true := by
  rw [List.getD_eq_getElem?_getD, wipeR_at] at h
  by_cases q : i ∈ ws
  · rw [if_pos q] at h
    cases hq : rhz[i]? with
    | none => rw [hq] at h; cases h
    | some x => rw [hq] at h; cases h
  · rw [if_neg q] at h
    exact ⟨q, by rw [List.getD_eq_getElem?_getD]; exact h⟩
theorem New.wipe (N : New G E F A σ H s p m) (ws : List Nat) : New G E F A (L2.wipe σ ws) H { s with rhz := wipeR s.rhz ws } p m :=
  ⟨N.mo, N.nf, N.ne, N.nA, fun i hi z => by
    obtain ⟨h1, h2⟩ := own_wipe hi
    rw [wipe_at, if_neg h1] at z
    exact N.nσ i h2 z⟩
theorem Rel.write {o0 : HO} (R : Rel G E F A σ H s) (at0 : H p = some o0) (sol : ¬ stuck o0) (nf : F p = none) (ne : E.H p = none) (nA : ∀ n, A n ≠ some p) (nσ : ∀ (i : Nat), isOwn (s.rhz.getD i .un) = true → σ[i]? ≠ some (some (.ref p))) : Rel G E F A σ (upd H p o) s := by
  refine ⟨fun a u h => ?_, R.len, fun i x v h1 h2 => (R.slot i x v h1 h2).mono (FLe.refl _) (ALe.refl _) fun a m h3 h4 h5 h6 h7 => ⟨h5, h7, fun o' ho => ?_⟩, R.dist, R.cells.mono (FLe.refl _) (fun n a h => ?_) (fun n a h o' ho => ?_), R.fle, R.ale, R.nle, fun a u h1 h2 h2' => ?_, fun a ps h => upd_tb2 at0 sol (R.tb a ps h), ⟨upd_tabs2 at0 sol R.tabs.t, R.tabs.n⟩, R.fz, R.hz⟩
  · have q : a ≠ p := fun z => by rw [z, nf] at h; cases h
    rw [upd_ne q]
    exact R.sub a u h
  · have q : a ≠ p := fun z => by
      subst z
      refine nσ i ?_ (by rw [h2, h3])
      rw [List.getD_eq_getElem?_getD, h1, h4]
      rfl
    rw [upd_ne q]
    exact ho
  · have hl := R.cells.dom n a h
    obtain ⟨b, h1, h2, h3⟩ := R.cells.at_ n _ (List.getElem?_eq_getElem hl)
    rw [h] at h1
    cases h1
    exact h3
  · have q : a ≠ p := fun z => nA n (by rw [h, z])
    rw [upd_ne q]
    exact ho
  · have q : a ≠ p := fun z => by rw [z, ne] at h1; cases h1
    rw [upd_ne q]
    exact R.keep a u h1 h2 h2'
abbrev Ent.pin (E : Ent) (p : Addr) (o : HO) : Ent := { E with H := upd E.H p o }
theorem Rel.pin (R : Rel G E F A σ H s) (N : New G E F A σ H s p m) (ho : H p = some o) : Rel G (E.pin p o) F A σ H s := by
  have ne : ∀ a, E.H a = none → a ≠ p → (E.pin p o).H a = none := fun a h q => by show upd E.H p o a = none; rw [upd_ne q]; exact h
  refine ⟨R.sub, R.len, fun i x v h1 h2 => ?_, R.dist, R.cells, R.fle, R.ale, R.nle, fun a u h1 h2 h2' => ?_, fun a ps h => ?_, R.tabs, fun a u h => ?_, fun n a h => ?_⟩
  · have k := R.slot i x v h1 h2
    cases x with
    | un => trivial
    | d x => exact k
    | own m' =>
      obtain ⟨a, k1, k2, k3, k4, k5⟩ := k
      refine ⟨a, k1, k2, k3, ne a k4 ?_, k5⟩
      intro z
      subst z
      refine N.nσ i ?_ (by rw [h2, k1])
      rw [List.getD_eq_getElem?_getD, h1]
      rfl
  · by_cases q : a = p
    · subst q
      change upd E.H a o a = some u at h1
      rw [upd_same] at h1
      cases h1
      exact ho
    · change upd E.H p o a = some u at h1
      rw [upd_ne q] at h1
      exact R.keep a u h1 h2 h2'
  · by_cases q : a = p
    · subst q
      change upd E.H a o a = _ at h
      rw [upd_same] at h
      cases h
      exact absurd trivial (N.mo.solid ho)
    · change upd E.H p o a = _ at h
      rw [upd_ne q] at h
      exact R.tb a ps h
  · rcases R.fz a u h with k | k | k
    · exact .inl k
    · exact .inr (.inl (ne a k fun z => by rw [z, N.nf] at h; cases h))
    · exact .inr (.inr k)
  · rcases R.hz n a h with k | k
    · exact .inl k
    · exact .inr (ne a k fun z => N.nA n (by rw [h, z]))
theorem Rel.unpin (R : Rel G (E.pin p o) F A σ H s) (so : ¬ stuck o) (ep : E.H p = none) (ef : E.F p = none) (ea : ∀ n, E.A n ≠ some p) :
    Rel G E F A σ H s ∧ H p = some o ∧ F p = none ∧ (∀ n, A n ≠ some p) ∧ ∀ (i : Nat), isOwn (s.rhz.getD i .un) = true → σ[i]? ≠ some (some (.ref p)) := by
  have at_ : (E.pin p o).H p = some o := upd_same
  have back : ∀ a, (E.pin p o).H a = none → E.H a = none := fun a h => by
    by_cases q : a = p
    · rw [q]; exact ep
    · change upd E.H p o a = none at h
      rw [upd_ne q] at h
      exact h
  have fwd : ∀ a u, E.H a = some u → (E.pin p o).H a = some u := fun a u h => by
    show upd E.H p o a = some u
    rw [upd_ne (ne_of_none h ep)]
    exact h
  refine ⟨⟨R.sub, R.len, fun i x v h1 h2 => ?_, R.dist, R.cells, R.fle, R.ale, R.nle, fun a u h1 h2 h2' => R.keep a u (fwd a u h1) h2 h2', fun a ps h => R.tb a ps (fwd a _ h), R.tabs, fun a u h => ?_, fun n a h => ?_⟩, R.keep p o at_ ea (stuck_not so), ?_, fun n h => ?_, fun i hi z => ?_⟩
  · have k := R.slot i x v h1 h2
    cases x with
    | un => trivial
    | d x => exact k
    | own m' =>
      obtain ⟨a, k1, k2, k3, k4, k5⟩ := k
      exact ⟨a, k1, k2, k3, back a k4, k5⟩
  · rcases R.fz a u h with k | k | k
    · exact .inl k
    · exact .inr (.inl (back a k))
    · exact .inr (.inr k)
  · rcases R.hz n a h with k | k
    · exact .inl k
    · exact .inr (back a k)
  · cases q : F p with
    | none => rfl
    | some u =>
      rcases R.fz p u q with k | k | k
      · change E.F p = some u at k
        rw [ef] at k
        cases k
      · rw [at_] at k
        cases k
      · have k2 := sub_tup R.sub q k
        rw [R.keep p o at_ ea (stuck_not so)] at k2
        cases k2
        exact absurd (tup_stuck k) so
  · rcases R.hz n p h with k | k
    · exact ea n k
    · rw [at_] at k
      cases k
  · rw [List.getD_eq_getElem?_getD] at hi
    cases q : s.rhz[i]? with
    | none => rw [q] at hi; cases hi
    | some x =>
      rw [q] at hi
      have k := R.slot i x _ q z
      cases x with
      | own m =>
        obtain ⟨a, k1, k2, k3, k4, k5⟩ := k
        cases k1
        rw [at_] at k4
        cases k4
      | _ => cases hi
theorem backR_length (rhz rhz' : List SV) : ∀ ws : List Nat, (backR rhz rhz' ws).length = rhz'.length
  | [] => rfl
  | v :: vs => by unfold backR; rw [List.length_set, backR_length rhz rhz' vs]
theorem backR_at (rhz rhz' : List SV) : ∀ (ws : List Nat) (j : Nat), (backR rhz rhz' ws)[j]? = if j ∈ ws then (rhz'[j]?).map (fun _ => rhz.getD j .un) else rhz'[j]?
  | [], j => by simp [backR]
  | w :: ws, j => by
    unfold backR
    by_cases q : w = j
    · subst q
      rw [if_pos List.mem_cons_self, List.getElem?_set]
      simp [backR_length]
      by_cases hl : w < rhz'.length
      · simp [hl]
      · simp [hl]
    · rw [List.getElem?_set_ne q, backR_at rhz rhz' ws]
      have : (j ∈ w :: ws) ↔ j ∈ ws := by simp [Ne.symm q]
      simp only [this]
theorem Rel.back {F1 : Hp} {A1 : Adr} {H1 : Hp} {s1 : S} {ws : List Nat} (R1 : Rel G E F1 A1 σ H1 s1) (R : Rel G E F A (L2.wipe σ ws) H s) (e : FLe F1 F) (g : ALe A1 A) (hn : ws.any (fun v => isOwn (s1.rhz.getD v .un)) = false) :
    Rel G E F A σ H { s with rhz := backR s1.rhz s.rhz ws } := by
  have hno : ∀ v ∈ ws, isOwn (s1.rhz.getD v .un) = false := fun v hv => by
    rw [List.any_eq_false] at hn
    simpa using hn v hv
  have own_out : ∀ i, isOwn ((backR s1.rhz s.rhz ws).getD i .un) = true → i ∉ ws ∧ isOwn (s.rhz.getD i .un) = true := fun i h => by
    rw [List.getD_eq_getElem?_getD, backR_at] at h
    by_cases q : i ∈ ws
    · rw [if_pos q] at h
      cases hq : s.rhz[i]? with
      | none => rw [hq] at h; cases h
      | some x =>
        rw [hq] at h
        have := hno i q
        change isOwn (s1.rhz.getD i .un) = true at h
        rw [this] at h
        cases h
    · rw [if_neg q] at h
      exact ⟨q, by rw [List.getD_eq_getElem?_getD]; exact h⟩
  refine ⟨R.sub, by show σ.length = (backR s1.rhz s.rhz ws).length; rw [backR_length, ← R.len, wipe_length], fun j x v h1 h2 => ?_, fun i j a h1 h2 h3 h4 h5 h6 => ?_, R.cells, R.fle, R.ale, R.nle, R.keep, R.tb, R.tabs, R.fz, R.hz⟩
  · change (backR s1.rhz s.rhz ws)[j]? = some x at h1
    rw [backR_at] at h1
    by_cases q : j ∈ ws
    · rw [if_pos q] at h1
      cases hq : s.rhz[j]? with
      | none => rw [hq] at h1; cases h1
      | some y =>
        rw [hq] at h1
        have h1' : s1.rhz.getD j .un = x := Option.some.inj h1
        have hj : j < s1.rhz.length := by
          rw [← R1.len]
          exact (List.getElem?_eq_some_iff.mp h2).1
        have k := R1.slot j _ v (List.getElem?_eq_getElem hj) h2
        have e2 : s1.rhz[j] = x := by
          rw [← h1', List.getD_eq_getElem?_getD, List.getElem?_eq_getElem hj]
          rfl
        rw [e2] at k
        have no := hno j q
        rw [h1'] at no
        cases x with
        | un => trivial
        | d x =>
          obtain ⟨u, k1, k2⟩ := k
          exact ⟨u, k1, Rep.mono e g _ _ k2⟩
        | own m => cases no
    · rw [if_neg q] at h1
      exact R.slot j x v h1 (by rw [wipe_at, if_neg q]; exact h2)
  · obtain ⟨q1, o1⟩ := own_out i h3
    obtain ⟨q2, o2⟩ := own_out j h4
    refine R.dist i j a (by simpa [backR_length] using h1) (by simpa [backR_length] using h2) o1 o2 ?_ ?_
    · rw [wipe_at, if_neg q1]; exact h5
    · rw [wipe_at, if_neg q2]; exact h6
theorem New.back {s1 : S} {ws : List Nat} (N : New G E F A (L2.wipe σ ws) H s p m) (hn : ws.any (fun v => isOwn (s1.rhz.getD v .un)) = false) : New G E F A σ H { s with rhz := backR s1.rhz s.rhz ws } p m :=
  ⟨N.mo, N.nf, N.ne, N.nA, fun i h z => by
    change isOwn ((backR s1.rhz s.rhz ws).getD i .un) = true at h
    rw [List.getD_eq_getElem?_getD, backR_at] at h
    by_cases q : i ∈ ws
    · rw [if_pos q] at h
      cases hq : s.rhz[i]? with
      | none => rw [hq] at h; cases h
      | some x =>
        rw [hq] at h
        rw [List.any_eq_false] at hn
        exact hn i q h
    · rw [if_neg q] at h
      exact N.nσ i (by rw [List.getD_eq_getElem?_getD]; exact h) (by rw [wipe_at, if_neg q]; exact z)⟩
end
def yesS : M Bool := fun s => .ok true s
section
variable {G : Cfg} {W : WX} {X : Cx} {t : Expr} {st : Stmt}
theorem lc_post {E : Ent} {tg : D → M Unit} {c : M Bool} {el : M D} {vs : List Nat} {tt : TT} {σ : L2.St} {F1 H1 : Hp} {A1 : Adr} {s1 s2 : S} {ds acc : List D} {Qf : V → Hp → Prop} (htt : ∀ σ H Q, TTof G W0 c σ H Q → tt σ H Q) {J : It}
    (hJ : ItOk G F1 A1 J ds) (R1 : Rel G E F1 A1 σ H1 s1) (hn : vs.any (fun v => isOwn (s1.rhz.getD v .un)) = false) (hl : lcL tg c el vs ds [] { s1 with rhz := wipeR s1.rhz vs } = .ok acc s2)
    (P1 : PO G E W σ (okF G E σ Qf) F1 A1 (.ok (.ml acc) { s2 with rhz := backR s1.rhz s2.rhz vs })) (Dd : Addr) (hD : H1 Dd = none) :
    ∃ Wv : Nat → Nat → Hp → Prop, (∃ m, Wv 0 m (upd H1 Dd (.lst []))) ∧ ∀ i m H, Wv i m H →
      (J.stop i H ∧ Qf (.ref Dd) H) ∨ (J.go i H ∧ ∃ Nx : Hp → Prop, (∀ H', Nx H' → ∃ m', m' < m ∧ Wv (i + 1) m' H') ∧ ∀ x H', J.yld i H x H' → TGof G vs tg x (L2.wipe σ vs) H' fun σ2 H2 => L2.wipe σ2 vs = L2.wipe σ vs ∧ tt σ2 H2 fun b H3 =>
        if b = true then TEof G W0 el σ2 H3 fun y H4 => ∃ acc, H4 Dd = some (.lst acc) ∧ acc.length < sizeLine ∧ Nx (upd H4 Dd (.lst (acc ++ [y]))) else Nx H3) := by
  have RW := R1.wipe vs
  obtain ⟨R0, n1, n2, n3, n4⟩ := RW.laid (o := .lst []) hD
  refine ⟨fun i m H => m + i = ds.length ∧ ∃ F A s ac, FLe F1 F ∧ ALe A1 A ∧ Rel G E F A (L2.wipe σ vs) H s ∧ New G E F A (L2.wipe σ vs) H s Dd (.ml ac) ∧ lcL tg c el vs (ds.drop i) ac s = .ok acc s2,
    ⟨ds.length, by omega, F1, A1, _, [], FLe.refl _, ALe.refl _, R0, ⟨⟨[], upd_same, by simp [RepL]⟩, n1, n2, n3, n4⟩, hl⟩, ?_⟩
  rintro i m H ⟨hm, F, A, s, ac, e, g, R, N, hs⟩
  obtain ⟨h1, h2⟩ := hJ E F A _ H s e g R
  cases q : ds[i]? with
  | none =>
    have hlen : ds.length ≤ i := List.getElem?_eq_none_iff.mp q
    rw [List.drop_eq_nil_of_le hlen] at hs
    simp only [lcL, O.ok.injEq] at hs
    obtain ⟨rfl, rfl⟩ := hs
    exact .inl ⟨h1 i hlen, P1 F A H e g (R1.back R e g hn) Dd (N.back hn)⟩
  | some d =>
    have hlen := (List.getElem?_eq_some_iff.mp q).1
    obtain ⟨h3, h4⟩ := h2 i d q
    have ed : ds.drop i = d :: ds.drop (i + 1) := by
      rw [List.drop_eq_getElem_cons hlen, (List.getElem?_eq_some_iff.mp q).2]
    rw [ed] at hs
    refine .inr ⟨h3, fun H' => ∃ F A s ac, FLe F1 F ∧ ALe A1 A ∧ Rel G E F A (L2.wipe σ vs) H' s ∧ New G E F A (L2.wipe σ vs) H' s Dd (.ml ac) ∧ lcL tg c el vs (ds.drop (i + 1)) ac s = .ok acc s2, fun H' h => ⟨m - 1, by omega, by omega, h⟩, fun x H' y => ?_⟩
    obtain ⟨va, hva, rva⟩ := N.mo
    have ef : E.F Dd = none := by
      cases qf : E.F Dd with
      | none => rfl
      | some u =>
        have k := R.fle _ _ qf
        rw [N.nf] at k
        cases k
    have ea : ∀ n, E.A n ≠ some Dd := fun n z => N.nA n (R.ale _ _ z)
    have Rp := R.pin N hva
    obtain ⟨_, h2p⟩ := hJ _ F A _ H s e g Rp
    obtain ⟨_, h4p⟩ := h2p i d q
    obtain ⟨F2, e2, R2, r2⟩ := h4p x H' y
    refine ⟨_, F2, A, s, d, R2, r2, ?_⟩
    simp only [lcL] at hs
    cases qt : tg d s with
    | st => rw [qt] at hs; cases hs
    | err er s3 => rw [qt] at hs; cases hs
    | ok u s3 =>
      rw [qt] at hs
      simp only [O.bind_ok] at hs
      intro σ2 R3 hw
      have hw' : L2.wipe σ2 vs = L2.wipe σ vs := by rw [hw, wipe_idem]
      refine ⟨hw', htt _ _ _ ⟨_, F2, A, s3, R3, ?_⟩⟩
      cases qc : c s3 with
      | st => rw [qc] at hs; cases hs
      | err er s4 => rw [qc] at hs; cases hs
      | ok b s4 =>
        rw [qc] at hs
        simp only [O.bind_ok] at hs
        intro F4 A4 H4 e4 g4 R4
        cases b with
        | false =>
          simp only [Bool.false_eq_true, if_false] at hs
          show if false = true then _ else _
          rw [if_neg Bool.false_ne_true]
          obtain ⟨R5, k1, k2, k3, k4⟩ := R4.unpin id N.ne ef ea
          have RW := R5.wipe vs
          rw [hw'] at RW
          refine ⟨F4, A4, _, ac, e.trans (e2.trans e4), g.trans g4, RW, ⟨⟨va, k1, RepL.mono (e2.trans e4) g4 _ _ rva⟩, k2, N.ne, k3, fun i hi z => ?_⟩, hs⟩
          obtain ⟨o1, o2⟩ := own_wipe hi
          rw [← hw', wipe_at, if_neg o1] at z
          exact k4 i o2 z
        | true =>
          simp only [if_true] at hs
          show if true = true then _ else _
          rw [if_pos rfl]
          refine ⟨_, F4, A4, s4, R4, ?_⟩
          cases qe : el s4 with
          | st => rw [qe] at hs; cases hs
          | err er s5 => rw [qe] at hs; cases hs
          | ok y s5 =>
            rw [qe] at hs
            simp only [O.bind_ok] at hs
            intro F5 A5 H5 e5 g5 R5 v hv
            cases qq : (sto y && decide (ac.length < LIM)) with
            | false => rw [qq] at hs; cases hs
            | true =>
              rw [qq] at hs
              simp only [if_true] at hs
              simp only [Bool.and_eq_true, decide_eq_true_eq] at qq
              obtain ⟨R6, k1, k2, k3, k4⟩ := R5.unpin id N.ne ef ea
              have RW := (R6.write (o := .lst (va ++ [v])) k1 id k2 N.ne k3 k4).wipe vs
              rw [hw'] at RW
              have hr : RepL G F5 A5 ac va := RepL.mono (e2.trans (e4.trans e5)) (g4.trans g5) _ _ rva
              refine ⟨va, k1, ?_, F5, A5, _, ac ++ [y], e.trans (e2.trans (e4.trans e5)), g.trans (g4.trans g5), RW, ⟨⟨va ++ [v], upd_same, RepL.append hr ?_⟩, k2, N.ne, k3, fun i hi z => ?_⟩, hs⟩
              · rw [RepL.length hr]
                exact Nat.lt_of_lt_of_le qq.2 (by decide)
              · simp only [RepL]
                exact ⟨v, [], rfl, hv.rep qq.1, rfl⟩
              · obtain ⟨o1, o2⟩ := own_wipe hi
                rw [← hw', wipe_at, if_neg o1] at z
                exact k4 i o2 z
theorem f_lc {it : M (List D)} {tg : D → M Unit} {c : M Bool} {el : M D} {vs : List Nat} {tt : TT} (htt : ∀ σ H Q, TTof G W0 c σ H Q → tt σ H Q) (k : PE X t (tLc (TIof G W it) (TGof G vs tg) tt (TEof G W0 el) vs)) : PE X t (TFof G W (lcF it tg c el vs)) := by
  refine PEimp k fun σ H Q ⟨E, F, A, s, R, P⟩ => ⟨E, F, A, s, R, PO.bind P fun ds s1 F1 A1 H1 e1 g1 R1 P1 J hJ Dd hD => ?_⟩
  cases hn : vs.any (fun v => isOwn (s1.rhz.getD v .un)) with
  | true => simp only [hn, if_true] at P1; exact P1.elim
  | false =>
    simp only [hn, Bool.false_eq_true, if_false] at P1
    cases hl : lcL tg c el vs ds [] { s1 with rhz := wipeR s1.rhz vs } with
    | st => simp only [hl] at P1; exact P1.elim
    | err er s2 => simp only [hl] at P1; exact P1.elim
    | ok acc s2 =>
      simp only [hl] at P1
      exact lc_post htt hJ R1 hn hl P1 Dd hD
theorem s_setLc {it : M (List D)} {tg : D → M Unit} {c : M Bool} {el : M D} {vs : List Nat} {tt : TT} {i : Nat} (htt : ∀ σ H Q, TTof G W0 c σ H Q → tt σ H Q) (k : PS X st (tAsg (tLc (TIof G W it) (TGof G vs tg) tt (TEof G W0 el) vs) (gName i))) :
    PS X st (TSof G W (setS i (frzS (lcF it tg c el vs)))) := by
  refine PSimp k fun D σ H ⟨E, F, A, s, R, P⟩ => ?_
  have P2 : PostS G E W D F A ((lcF it tg c el vs s).bind fun m s1 => .ok .nx { s1 with rhz := s1.rhz.set i (.d (frzD m)) }) := by
    refine cast (congrArg _ ?_) P
    unfold setS frzS
    cases lcF it tg c el vs s with
    | ok m s1 => cases m <;> rfl
    | err _ _ => rfl
    | st => rfl
  refine ⟨E, F, A, s, R, PostS.bind (D := D) (g := fun ds s1 => O.bind (if vs.any (fun v => isOwn (s1.rhz.getD v .un)) then .st else match lcL tg c el vs ds [] { s1 with rhz := wipeR s1.rhz vs } with
    | .ok acc s2 => .ok (.ml acc) { s2 with rhz := backR s1.rhz s2.rhz vs }
    | _ => .st) fun m s1 => .ok .nx { s1 with rhz := s1.rhz.set i (.d (frzD m)) }) ?_ fun ds s1 F1 A1 H1 e1 g1 R1 P1 J hJ Dd hD => ?_⟩
  · refine cast (congrArg _ ?_) P2
    unfold lcF
    cases it s <;> rfl
  · cases hn : vs.any (fun v => isOwn (s1.rhz.getD v .un)) with
    | true => simp only [hn, if_true] at P1; exact P1.elim
    | false =>
      simp only [hn, Bool.false_eq_true, if_false] at P1
      cases hl : lcL tg c el vs ds [] { s1 with rhz := wipeR s1.rhz vs } with
      | st => simp only [hl] at P1; exact P1.elim
      | err er s2 => simp only [hl] at P1; exact P1.elim
      | ok acc s2 =>
        simp only [hl] at P1
        have P3 : PO G E W σ (okF G E σ fun x H1 => gName i x σ H1 D.nx) F1 A1 (.ok (.ml acc) { s2 with rhz := backR s1.rhz s2.rhz vs }) := PostS.bind P1 fun m s3 F3 A3 H3 e3 g3 R3 P4 p N => by
          obtain ⟨F4, e4, R4, r4⟩ := R3.freeze N
          exact P4 _ F4 A3 H3 e4 (ALe.refl _) (R4.setD r4)
        exact lc_post htt hJ R1 hn hl P3 Dd hD
theorem yes_tt (σ : L2.St) (H : Hp) (Q : Bool → Hp → Prop) (h : TTof G W0 yesS σ H Q) : tYes σ H Q := by
  obtain ⟨E, F, A, s, R, P⟩ := h
  exact P.ok_here R
def Fin (G : Cfg) (F : Hp) (A : Adr) (H : Hp) (muz : List MO) (F' : Hp) (A' : Adr) (H' : Hp) (muz' : List MO) : Prop := ∃ σ rhz, Rel G ⟨H, F, A, muz.length⟩ F' A' σ H' ⟨rhz, muz'⟩
def spOf (G : Cfg) (call : List D → List MO → R) : Sp := fun vs H Q E => ∃ F A ds muz, (Sub F H ∧ Tabs2 G.T F H) ∧ Cells G F A H muz ∧ RepL G F A ds vs ∧ (match call ds muz with
  | .ok d muz' => ∀ v F' A' H', Fin G F A H muz F' A' H' muz' → Rep G F' A' d v → Q v H'
  | .err e muz' => ∀ F' A' H' (dd : Nd), Fin G F A H muz F' A' H' muz' → E (.ref (G.CA e.c)) dd.1 H'
  | .st => False)
theorem Rel.call {E : Ent} {F F' : Hp} {A A' : Adr} {σ : L2.St} {H H' : Hp} {s : S} {muz' : List MO} (R : Rel G E F A σ H s) (h : Fin G F A H s.muz F' A' H' muz') : FLe F F' ∧ ALe A A' ∧ Rel G E F' A' σ H' { s with muz := muz' } := by
  obtain ⟨σ', rhz', R'⟩ := h
  have fl : FLe F F' := R'.fle
  have al : ALe A A' := R'.ale
  refine ⟨fl, al, R'.sub, R.len, fun i x v h1 h2 => (R.slot i x v h1 h2).mono fl al fun a m h3 h4 h5 h6 h7 => ?_, R.dist, R'.cells, R.fle.trans fl, R.ale.trans al, Nat.le_trans R.nle R'.nle, fun a o h1 h2 h2' => ?_, fun a ps h => ?_, R'.tabs, fun a o h1 => ?_, fun n a h1 => ?_⟩
  · have k := R.slot i x v h1 h2
    rw [h4] at k
    obtain ⟨b, k1, k2, k3, k4, k5⟩ := k
    rw [h3] at k1
    cases k1
    obtain ⟨u, hu⟩ := k2.some
    refine ⟨?_, fun n z => ?_, fun o ho => R'.keep a o ho h7 (stuck_not (k2.solid ho))⟩
    · cases q : F' a with
      | none => rfl
      | some u2 =>
        rcases R'.fz a u2 q with k | k | k
        · change F a = some u2 at k
          rw [h5] at k
          cases k
        · change H a = none at k
          rw [hu] at k
          cases k
        · have so := k2.solid hu
          have y := sub_tup R'.sub q k
          rw [R'.keep a u hu h7 (stuck_not so)] at y
          cases y
          exact absurd (tup_stuck k) so
    · rcases R'.hz n a z with k | k
      · exact h7 n k
      · change H a = none at k
        rw [hu] at k
        cases k
  · have k := R.keep a o h1 h2 h2'
    refine R'.keep a o k (fun n z => ?_) h2'
    rcases R.hz n a z with q | q
    · exact h2 n q
    · rw [h1] at q
      cases q
  · obtain ⟨qs, k⟩ := R.tb a ps h
    exact R'.tb a qs k
  · rcases R'.fz a o h1 with k | k | k
    · exact R.fz a o k
    · refine .inr (.inl ?_)
      change H a = none at k
      exact R.fresh0 k
    · exact .inr (.inr k)
  · rcases R'.hz n a h1 with k | k
    · exact R.hz n a k
    · refine .inr ?_
      change H a = none at k
      exact R.fresh0 k
theorem x_call {call : List D → List MO → R} {ga : M (List D)} (k : PE X t (tCallS (spOf G call) (WE W) (TAof G W ga))) : PE X t (TEof G W (callF call ga)) := by
  refine PEimp k fun σ H Q ⟨E, F, A, s, R, P⟩ => ⟨E, F, A, s, R, PO.bind P fun ds s1 F1 A1 H1 e1 g1 R1 P1 vs hv => ?_⟩
  cases q : ds.all sto with
  | false => rw [q] at P1; exact P1.elim
  | true =>
    rw [q] at P1
    simp only [if_true] at P1
    refine ⟨F1, A1, ds, s1.muz, ⟨R1.sub, R1.tabs⟩, R1.cells, reps_of hv q, ?_⟩
    cases qc : call ds s1.muz with
    | st => rw [qc] at P1; exact P1.elim
    | ok d muz' =>
      rw [qc] at P1
      intro v F' A' H' hf hr
      obtain ⟨fl, al, R2⟩ := R1.call hf
      exact P1 F' A' H' fl al R2 v (.of hr)
    | err er muz' =>
      rw [qc] at P1
      intro F' A' H' dd hf
      obtain ⟨fl, al, R2⟩ := R1.call hf
      exact P1 F' A' H' dd fl al R2
end
section
variable {P : Program} {w : World} {G : Cfg} {mg : Str → Option Value} {base : Heap} {k : Nat}
theorem Rel.start {F : Hp} {A : Adr} {H : Hp} {ds : List D} {vs : List V} {muz : List MO} {N : List Str} {n a : Nat} (h1 : Sub F H ∧ Tabs2 G.T F H) (h2 : Cells G F A H muz) (h3 : RepL G F A ds vs) (hn : N.length = n) (ha : ds.length = a) (hna : a ≤ n) :
    Rel G ⟨H, F, A, muz.length⟩ F A (L2.start N vs) H ⟨ds.map SV.d ++ List.replicate (n - a) SV.un, muz⟩ := by
  have hl := RepL.length h3
  have at_ : ∀ j, j < ds.length → (ds.map SV.d ++ List.replicate (n - a) SV.un)[j]? = (ds[j]?).map SV.d := fun j hj => by
    rw [List.getElem?_append_left (by simpa using hj), List.getElem?_map]
  have noown : ∀ j, isOwn ((ds.map SV.d ++ List.replicate (n - a) SV.un).getD j .un) = false := fun j => by
    rw [List.getD_eq_getElem?_getD]
    by_cases hj : j < ds.length
    · rw [at_ j hj, List.getElem?_eq_getElem hj]
      rfl
    · rw [List.getElem?_append_right (by simp; omega), List.getElem?_replicate]
      split <;> rfl
  refine ⟨h1.1, ?_, fun j x v q1 q2 => ?_, fun i j a _ _ o1 _ _ _ => ?_, h2, FLe.refl _, ALe.refl _, Nat.le_refl _, fun _ _ h _ _ => h, fun _ ps h => ⟨ps, h⟩, h1.2, fun _ _ h => .inl h, fun _ _ h => .inl h⟩
  · unfold L2.start
    simp [hl, hn, ha]
  · by_cases hj : j < ds.length
    · rw [at_ j hj, List.getElem?_eq_getElem hj] at q1
      cases q1
      obtain ⟨u, hu, ru⟩ := RepL.get h3 (List.getElem?_eq_getElem hj)
      unfold L2.start at q2
      rw [List.getElem?_append_left (by simp [hl]; exact hj), List.getElem?_map, hu] at q2
      cases q2
      exact ⟨u, rfl, ru⟩
    · rw [List.getElem?_append_right (by simp; omega), List.getElem?_replicate] at q1
      split at q1
      · cases q1
        trivial
      · cases q1
  · rw [noown i] at o1
    cases o1
theorem len_of {call : List D → List MO → R} {a : Nat} (hc : ∀ ds muz, ds.length ≠ a → call ds muz = .st) (vs : List V) (H : Hp) (Q : VK) (E : XK) (h : spOf G call vs H Q E) : vs.length = a := by
  obtain ⟨F, A, ds, muz, _, _, h3, h4⟩ := h
  rw [RepL.length h3]
  by_cases q : ds.length = a
  · exact q
  · rw [hc ds muz q] at h4
    exact h4.elim
theorem runD_len {n a : Nat} {body : M Fl} : ∀ ds muz, ds.length ≠ a → runD n a body ds muz = .st := fun ds muz h => by
  unfold runD
  rw [if_neg h]
theorem body_ok {N : List Str} {n a : Nat} {bf : M Fl} {vs : List V} {H : Hp} {Q : VK} {E : XK} (hN : N.length = n) (hna : a ≤ n) (h : spOf G (runD n a bf) vs H Q E) : TSof G (fun cls d _ H => E cls d H) bf { nx := fun _ H' => Q .non H', rt := Q } (L2.start N vs) H := by
  obtain ⟨F, A, ds, muz, h1, h2, h3, h4⟩ := h
  unfold runD at h4
  by_cases q : ds.length = a
  · rw [if_pos q] at h4
    refine ⟨_, F, A, _, Rel.start h1 h2 h3 hN q hna, ?_⟩
    cases qb : bf ⟨ds.map .d ++ List.replicate (n - a) .un, muz⟩ with
    | st => rw [qb] at h4; exact h4
    | err er s => rw [qb] at h4; exact fun σ F' A' H' dd _ _ R => h4 F' A' H' dd ⟨σ, s.rhz, R⟩
    | ok fl s =>
      rw [qb] at h4
      cases fl with
      | nx => exact fun σ F' A' H' _ _ R => h4 .non F' A' H' ⟨σ, s.rhz, R⟩ (by simp [Rep])
      | rt d => exact fun v σ F' A' H' _ _ R r => h4 v F' A' H' ⟨σ, s.rhz, R⟩ r
      | bk => exact h4.elim
      | ct => exact h4.elim
  · rw [if_neg q] at h4
    exact h4.elim
end
end AG
set_option Elab.async false
set_option linter.all false
set_option maxRecDepth 100000
namespace AG
open PySem L2 PyProof.Rows
def vw (s : S) : D → D
  | .loc i => (match s.rhz[i]? with
    | some (.own m) => frzD m
    | _ => .loc i)
  | .hnd n => (match s.muz[n]? with
    | some m => frzD m
    | _ => .hnd n)
  | d => d
mutual
def pyOf : D → Option PyData
  | .non => some .none
  | .bl b => some (.bool b)
  | .int i => some (.int i)
  | .str x => some (.str x)
  | .tup l => (pyL l).map .tuple
  | .lst l => (pyL l).map .list
  | _ => none
def pyL : List D → Option (List PyData)
  | [] => some []
  | d :: ds => match pyOf d, pyL ds with
    | some e, some es => some (e :: es)
    | _, _ => none
end
section
variable {G : Cfg} {E : Ent} {F : Hp} {A : Adr} {σ : L2.St} {H : Hp} {s : S}
theorem hs_tup (hs : Sub F H) {a : Addr} {vs : List V} (h : F a = some (.tup vs)) : H a = some (.tup vs) := by
  rcases hs _ _ h with k | ⟨k, _⟩
  · exact k
  · exact k.elim
theorem hs_lst (hs : Sub F H) {a : Addr} {vs : List V} (h : F a = some (.lst vs)) : H a = some (.lst vs) := by
  rcases hs _ _ h with k | ⟨k, _⟩
  · exact k
  · exact k.elim
mutual
theorem dp_rep (hs : Sub F H) : ∀ (d : D) (v : V) (e : PyData), Rep G F A d v → pyOf d = some e → Dp G.K H v e
  | .non, v, e, h, q => by
    simp only [pyOf, Option.some.injEq] at q
    simp only [Rep] at h
    subst q h
    exact .non
  | .bl b, v, e, h, q => by
    simp only [pyOf, Option.some.injEq] at q
    simp only [Rep] at h
    subst q h
    exact .bl b
  | .int b, v, e, h, q => by
    simp only [pyOf, Option.some.injEq] at q
    simp only [Rep] at h
    subst q h
    exact .int b
  | .str b, v, e, h, q => by
    simp only [pyOf, Option.some.injEq] at q
    simp only [Rep] at h
    subst q h
    exact .str b
  | .tup l, v, e, h, q => by
    simp only [pyOf, Option.map_eq_some_iff] at q
    obtain ⟨es, q1, q2⟩ := q
    simp only [Rep] at h
    obtain ⟨a, vs, h1, h2, h3⟩ := h
    subst q2 h1
    exact .tup (.of (hs_tup hs h2)) (dp_repL hs l vs es h3 q1)
  | .lst l, v, e, h, q => by
    simp only [pyOf, Option.map_eq_some_iff] at q
    obtain ⟨es, q1, q2⟩ := q
    simp only [Rep] at h
    obtain ⟨a, vs, h1, h2, h3⟩ := h
    subst q2 h1
    exact .lst (.of (hs_lst hs h2)) (dp_repL hs l vs es h3 q1)
  | .dct t l, v, e, h, q => by simp [pyOf] at q
  | .set l, v, e, h, q => by simp [pyOf] at q
  | .ins c l, v, e, h, q => by simp [pyOf] at q
  | .hnd l, v, e, h, q => by simp [pyOf] at q
  | .loc l, v, e, h, q => by simp [pyOf] at q
  | .cls l, v, e, h, q => by simp [pyOf] at q
  | .scr l, v, e, h, q => by simp [pyOf] at q
theorem dp_repL (hs : Sub F H) : ∀ (l : List D) (vs : List V) (es : List PyData), RepL G F A l vs → pyL l = some es → DpAll G.K H vs es
  | [], vs, es, h, q => by
    simp only [pyL, Option.some.injEq] at q
    simp only [RepL] at h
    subst q h
    exact .nil
  | d :: ds, vs, es, h, q => by
    simp only [RepL] at h
    obtain ⟨v, r, h1, h2, h3⟩ := h
    simp only [pyL] at q
    cases q1 : pyOf d with
    | none => rw [q1] at q; cases q
    | some e =>
      rw [q1] at q
      cases q2 : pyL ds with
      | none => rw [q2] at q; cases q
      | some es' =>
        rw [q2] at q
        cases q
        subst h1
        exact .cons (dp_rep hs d v e h2 q1) (dp_repL hs ds r es' h3 q2)
end
theorem vw_loc (R : Rel G E F A σ H s) {i : Nat} {v : V} {m : MO} (h : VOk G σ F A (.loc i) v) (q : s.rhz[i]? = some (.own m)) : ∃ a, v = .ref a ∧ MoOk G F A H a m := by
  obtain ⟨p, h1, h2, _⟩ := R.own q
  have h : σ[i]? = some (some v) := h
  rw [h1] at h
  cases h
  exact ⟨p, rfl, h2⟩
theorem vw_hnd (R : Rel G E F A σ H s) {n : Nat} {v : V} {m : MO} (h : VOk G σ F A (.hnd n) v) (q : s.muz[n]? = some m) : ∃ a, v = .ref a ∧ MoOk G F A H a m := by
  have h : Rep G F A (.hnd n) v := h
  simp only [Rep] at h
  obtain ⟨a, h1, rfl⟩ := h
  obtain ⟨b, h2, h3, _⟩ := R.cells.at_ n m q
  rw [h1] at h2
  cases h2
  exact ⟨a, rfl, h3⟩
theorem dp_view (R : Rel G E F A σ H s) {d : D} {v : V} {e : PyData} (h : VOk G σ F A d v) (q : pyOf (vw s d) = some e) : Dp G.K H v e := by
  have mo : ∀ (a : Addr) (m : MO), MoOk G F A H a m → pyOf (frzD m) = some e → Dp G.K H (.ref a) e := fun a m hm q => by
    cases m with
    | ml l =>
      obtain ⟨vs, h1, h2⟩ := hm
      simp only [frzD, pyOf, Option.map_eq_some_iff] at q
      obtain ⟨es, q1, q2⟩ := q
      subst q2
      exact .lst (.of h1) (dp_repL R.sub l vs es h2 q1)
    | md t l => simp [frzD, pyOf] at q
    | mi c fs => simp [frzD, pyOf] at q
  cases d with
  | loc i =>
    simp only [vw] at q
    cases qi : s.rhz[i]? with
    | none => rw [qi] at q; simp [pyOf] at q
    | some x =>
      rw [qi] at q
      cases x with
      | own m =>
        obtain ⟨a, rfl, hm⟩ := vw_loc R h qi
        exact mo a m hm q
      | _ => simp [pyOf] at q
  | hnd n =>
    simp only [vw] at q
    cases qi : s.muz[n]? with
    | none => rw [qi] at q; simp [pyOf] at q
    | some m =>
      rw [qi] at q
      obtain ⟨a, rfl, hm⟩ := vw_hnd R h qi
      exact mo a m hm q
  | _ => exact dp_rep R.sub _ _ _ (h.rep rfl) q
theorem lst_view (R : Rel G E F A σ H s) {d : D} {v : V} {l : List D} (h : VOk G σ F A d v) (q : vw s d = .lst l) : ∃ a vs, v = .ref a ∧ H a = some (.lst vs) ∧ RepL G F A l vs := by
  have mo : ∀ (a : Addr) (m : MO), MoOk G F A H a m → frzD m = .lst l → ∃ vs, H a = some (.lst vs) ∧ RepL G F A l vs := fun a m hm q => by
    cases m with
    | ml l' =>
      simp only [frzD, D.lst.injEq] at q
      subst q
      exact hm
    | md t l => cases q
    | mi c fs => cases q
  cases d with
  | loc i =>
    simp only [vw] at q
    cases qi : s.rhz[i]? with
    | none => rw [qi] at q; cases q
    | some x =>
      rw [qi] at q
      cases x with
      | own m =>
        obtain ⟨a, rfl, hm⟩ := vw_loc R h qi
        obtain ⟨vs, h1, h2⟩ := mo a m hm q
        exact ⟨a, vs, rfl, h1, h2⟩
      | _ => cases q
  | hnd n =>
    simp only [vw] at q
    cases qi : s.muz[n]? with
    | none => rw [qi] at q; cases q
    | some m =>
      rw [qi] at q
      obtain ⟨a, rfl, hm⟩ := vw_hnd R h qi
      obtain ⟨vs, h1, h2⟩ := mo a m hm q
      exact ⟨a, vs, rfl, h1, h2⟩
  | lst l' =>
    simp only [vw, D.lst.injEq] at q
    subst q
    have h : Rep G F A (.lst l') v := h
    simp only [Rep] at h
    obtain ⟨a, vs, h1, h2, h3⟩ := h
    exact ⟨a, vs, h1, hs_lst R.sub h2, h3⟩
  | _ => cases q
theorem frz_tup {m : MO} {l : List D} : frzD m ≠ .tup l := by cases m <;> simp [frzD]
theorem tup_view (R : Rel G E F A σ H s) {d : D} {v : V} {l : List D} (h : VOk G σ F A d v) (q : vw s d = .tup l) : ∃ a vs, v = .ref a ∧ F a = some (.tup vs) ∧ H a = some (.tup vs) ∧ RepL G F A l vs := by
  cases d with
  | loc i =>
    simp only [vw] at q
    cases qi : s.rhz[i]? with
    | none => rw [qi] at q; cases q
    | some x => rw [qi] at q; cases x with
      | own m => exact absurd q frz_tup
      | _ => cases q
  | hnd n =>
    simp only [vw] at q
    cases qi : s.muz[n]? with
    | none => rw [qi] at q; cases q
    | some m => rw [qi] at q; exact absurd q frz_tup
  | tup l' =>
    simp only [vw, D.tup.injEq] at q
    subst q
    have h : Rep G F A (.tup l') v := h
    simp only [Rep] at h
    obtain ⟨a, vs, h1, h2, h3⟩ := h
    exact ⟨a, vs, h1, h2, hs_tup R.sub h2, h3⟩
  | _ => cases q
end
def addD (s : S) (x y : D) : Option D := match vw s x, vw s y with
  | .int a, .int b => some (.int (a + b))
  | .str a, .str b => if a.length + b.length ≤ LIM then some (.str (a ++ b)) else none
  | .tup a, .tup b => if a.length + b.length ≤ LIM then some (.tup (a ++ b)) else none
  | .lst a, .lst b => if a.length + b.length ≤ LIM then some (.lst (a ++ b)) else none
  | _, _ => none
def subD (_ : S) (x y : D) : Option D := match x, y with
  | .int a, .int b => some (.int (a - b))
  | _, _ => none
def mulD (s : S) (x y : D) : Option D := match vw s x, y with
  | .int a, .int b => if a.natAbs.log2 + b.natAbs.log2 < 1000000 then some (.int (a * b)) else none
  | .lst a, .int k => if -(2 ^ 63) ≤ k ∧ k < 2 ^ 63 ∧ a.length * k.toNat ≤ LIM then some (.lst (List.replicate k.toNat a).flatten) else none
  | _, _ => none
def modD (_ : S) (x y : D) : Option D := match x, y with
  | .int a, .int b => if 0 < b then some (.int (a % b)) else none
  | _, _ => none
def fdivD (_ : S) (x y : D) : Option D := match x, y with
  | .int a, .int b => if 0 < b ∧ b.natAbs.log2 < 9000 then some (.int (a / b)) else none
  | _, _ => none
def powD (_ : S) (x y : D) : Option D := match x, y with
  | .int a, .int b => if 0 ≤ b ∧ (Builtin.Int.intBits a : Int) * b ≤ 2 ^ 27 then some (.int (a ^ b.toNat)) else none
  | _, _ => none
def cmpI (p : Int → Int → Bool) (_ : S) (x y : D) : Option D := match x, y with
  | .int a, .int b => some (.bl (p a b))
  | _, _ => none
def ltD (s : S) (x y : D) : Option D := match x, y with
  | .int a, .int b => some (.bl (decide (a < b)))
  | .str a, .str b => some (.bl (decide (a.cps.toList < b.cps.toList)))
  | _, _ => none
def gtD (s : S) (x y : D) : Option D := match x, y with
  | .int a, .int b => some (.bl (decide (b < a)))
  | .str a, .str b => some (.bl (decide (b.cps.toList < a.cps.toList)))
  | _, _ => none
def eqB (s : S) (x y : D) : Option Bool := match vw s x, vw s y with
  | .str a, .str b => some (decide (a = b))
  | .int a, .int b => some (decide (a = b))
  | .bl a, .bl b => some (decide (a = b))
  | dx, dy => match pyOf dx, pyOf dy with
    | some a, some b => if SeqAt.shaped a && SeqAt.shaped b then some (PyData.eqv a b) else none
    | _, _ => none
def eqD (s : S) (x y : D) : Option D := (eqB s x y).map .bl
def neD (s : S) (x y : D) : Option D := (eqB s x y).map fun b => .bl (!b)
def isNonD (_ : S) (x y : D) : Option D := match y with
  | .non => (match x with
    | .non => some (.bl true)
    | .loc _ => none
    | _ => some (.bl false))
  | _ => none
def isNotNonD (_ : S) (x y : D) : Option D := match y with
  | .non => (match x with
    | .non => some (.bl false)
    | .loc _ => none
    | _ => some (.bl true))
  | _ => none
def inB (s : S) (x y : D) : Option Bool := match vw s y with
  | .lst l => (match pyOf (vw s x), pyL l with
    | some a, some es => if SeqAt.shaped a && SeqAt.shaped (.list es) then some (es.any fun z => PyData.eqv z a) else none
    | _, _ => none)
  | .tup l => (match pyOf (vw s x), pyL l with
    | some a, some es => if SeqAt.shaped a && SeqAt.shaped (.tuple es) then some (es.any fun z => PyData.eqv z a) else none
    | _, _ => none)
  | .str b => (match x with
    | .str a => some (!(Builtin.Str.occurrences b a 0 b.length 1).isEmpty)
    | _ => none)
  | _ => none
def inD (s : S) (x y : D) : Option D := (inB s x y).map .bl
def notInD (s : S) (x y : D) : Option D := (inB s x y).map fun b => .bl (!b)
def ixD (s : S) (x y : D) : Option D := match vw s x, y with
  | .lst l, .int i => atI l i
  | .tup l, .int i => atI l i
  | .str z, .int i => if z.length ≤ LIM then (atI z.cps.toList i).map fun c => .str ⟨#[c]⟩ else none
  | _, _ => none
section
variable {G : Cfg} {X : Cx}
def rAddD (K : PySem.W.Frag) : R2 := fun x y H Q => (((∃ i j, x = .int i ∧ y = .int j ∧ Q (.int (i + j)) H) ∨ (∃ i j, x = .str i ∧ y = .str j ∧ i.length + j.length ≤ sizeLine ∧ Q (.str (i ++ j)) H)) ∨ rCatA K x y H Q) ∨ rCat x y H Q
theorem or_add : OpR X (binaryOp .Add) (rAddD X.K) := OpR.or (OpR.or (OpR.or op_add op_add_str) op_catA) op_cat
theorem VOk.int' {σ : L2.St} {F : Hp} {A : Adr} {b : Int} {d : D} {v : V} {s : S} (h : VOk G σ F A d v) (q : vw s d = .int b) : v = .int b := by
  cases d with
  | int i => cases q; exact VOk.int h
  | loc i =>
    simp only [vw] at q
    split at q
    · rename_i m _; cases m <;> cases q
    · cases q
  | hnd i =>
    simp only [vw] at q
    split at q
    · rename_i m _; cases m <;> cases q
    · cases q
  | _ => cases q
theorem VOk.str' {σ : L2.St} {F : Hp} {A : Adr} {b : Str} {d : D} {v : V} {s : S} (h : VOk G σ F A d v) (q : vw s d = .str b) : v = .str b := by
  cases d with
  | str i => cases q; exact VOk.str h
  | loc i =>
    simp only [vw] at q
    split at q
    · rename_i m _; cases m <;> cases q
    · cases q
  | hnd i =>
    simp only [vw] at q
    split at q
    · rename_i m _; cases m <;> cases q
    · cases q
  | _ => cases q
theorem VOk.bl' {σ : L2.St} {F : Hp} {A : Adr} {b : Bool} {d : D} {v : V} {s : S} (h : VOk G σ F A d v) (q : vw s d = .bl b) : v = .bl b := by
  cases d with
  | bl i => cases q; exact VOk.bl h
  | loc i =>
    simp only [vw] at q
    split at q
    · rename_i m _; cases m <;> cases q
    · cases q
  | hnd i =>
    simp only [vw] at q
    split at q
    · rename_i m _; cases m <;> cases q
    · cases q
  | _ => cases q
theorem od_add (hK : X.K = G.K) : OpD G (rAddD X.K) addD := by
  intro E F A σ H s x y dx dy d Q R hx hy q k
  unfold addD at q
  split at q
  · rename_i a b q1 q2
    cases q
    exact .inl (.inl (.inl ⟨a, b, hx.int' q1, hy.int' q2, k _ F A H (FLe.refl _) (ALe.refl _) R vok_int⟩))
  · rename_i a b q1 q2
    split at q
    · rename_i hl
      cases q
      exact .inl (.inl (.inr ⟨a, b, hx.str' q1, hy.str' q2, lim_line hl, k _ F A H (FLe.refl _) (ALe.refl _) R vok_str⟩))
    · cases q
  · rename_i a b q1 q2
    split at q
    · rename_i hl
      cases q
      obtain ⟨p, vs, rfl, f1, h1, r1⟩ := tup_view R hx q1
      obtain ⟨p2, vs2, rfl, f2, h2, r2⟩ := tup_view R hy q2
      have l1 := RepL.length r1
      have l2 := RepL.length r2
      refine .inl (.inr ⟨p, p2, vs, vs2, rfl, rfl, .of h1, .of h2, by rw [l1, l2]; exact lim_line hl, fun e => ?_, fun e1 e2 => ?_, fun e1 e2 t ht => ?_⟩)
      · subst e
        have ea : a = [] := List.eq_nil_of_length_eq_zero (by simpa using l1.symm)
        subst ea
        refine k _ F A H (FLe.refl _) (ALe.refl _) R ?_
        show Rep G F A (.tup ([] ++ b)) _
        simp only [List.nil_append, Rep]
        exact ⟨p2, vs2, rfl, f2, r2⟩
      · subst e2
        have eb : b = [] := List.eq_nil_of_length_eq_zero (by simpa using l2.symm)
        subst eb
        refine k _ F A H (FLe.refl _) (ALe.refl _) R ?_
        show Rep G F A (.tup (a ++ [])) _
        simp only [List.append_nil, Rep]
        exact ⟨p, vs, rfl, f1, r1⟩
      · have fl := fle_upd (o := .tup (vs ++ vs2)) (R.sub.none ht)
        refine k _ _ A _ fl (ALe.refl _) (R.newFz ht) ?_
        show Rep G _ A (.tup (a ++ b)) _
        simp only [Rep]
        exact ⟨t, _, rfl, upd_same, RepL.mono fl (ALe.refl _) _ _ (RepL.append r1 r2)⟩
    · cases q
  · rename_i a b q1 q2
    split at q
    · rename_i hl
      cases q
      obtain ⟨p, vs, rfl, h1, r1⟩ := lst_view R hx q1
      obtain ⟨p2, vs2, rfl, h2, r2⟩ := lst_view R hy q2
      refine .inr ⟨p, p2, vs, vs2, rfl, rfl, h1, h2, by rw [RepL.length r1, RepL.length r2]; exact lim_line hl, fun t ht => ?_⟩
      have fl := fle_upd (o := .lst (vs ++ vs2)) (R.sub.none ht)
      refine k _ _ A _ fl (ALe.refl _) (R.newFz ht) ?_
      show Rep G _ A (.lst (a ++ b)) _
      simp only [Rep]
      exact ⟨t, _, rfl, upd_same, RepL.mono fl (ALe.refl _) _ _ (RepL.append r1 r2)⟩
    · cases q
  · cases q
theorem or_sub : OpR X (binaryOp .Sub) (rI0 fun i j => .int (i - j)) := op_sub
theorem od_sub : OpD G (rI0 fun i j => .int (i - j)) subD := by
  intro E F A σ H s x y dx dy d Q R hx hy q k
  unfold subD at q
  split at q
  · cases q
    exact ⟨_, _, hx.int, hy.int, k _ F A H (FLe.refl _) (ALe.refl _) R vok_int⟩
  · cases q
def rMulD : R2 := fun x y H Q => rI CMulW (fun i j => .int (i * j)) x y H Q ∨ rRep x y H Q
theorem or_mul : OpR X (binaryOp .Mult) rMulD := OpR.or op_mulW op_rep
theorem od_mul : OpD G rMulD mulD := by
  intro E F A σ H s x y dx dy d Q R hx hy q k
  unfold mulD at q
  split at q
  · rename_i a b q1
    split at q
    · rename_i hl
      cases q
      exact .inl ⟨_, _, hx.int' q1, hy.int, hl, k _ F A H (FLe.refl _) (ALe.refl _) R vok_int⟩
    · cases q
  · rename_i a b q1
    split at q
    · rename_i hl
      cases q
      obtain ⟨p, vs, rfl, h1, r1⟩ := lst_view R hx q1
      refine .inr ⟨p, b, vs, rfl, hy.int, h1, hl.1, hl.2.1, by rw [RepL.length r1]; exact lim_line hl.2.2, fun t ht => ?_⟩
      have fl := fle_upd (o := .lst (List.replicate b.toNat vs).flatten) (R.sub.none ht)
      refine k _ _ A _ fl (ALe.refl _) (R.newFz ht) ?_
      show Rep G _ A (.lst _) _
      simp only [Rep]
      refine ⟨t, _, rfl, upd_same, RepL.mono fl (ALe.refl _) _ _ ?_⟩
      generalize b.toNat = n
      induction n with
      | zero => simp [RepL]
      | succ n ih =>
        rw [List.replicate_succ, List.replicate_succ, List.flatten_cons, List.flatten_cons]
        exact RepL.append r1 ih
    · cases q
  · cases q
theorem or_mod : OpR X (binaryOp .Mod) (rI (fun _ j => 0 < j) fun i j => .int (i % j)) := op_mod
theorem od_mod : OpD G (rI (fun _ j => 0 < j) fun i j => .int (i % j)) modD := by
  intro E F A σ H s x y dx dy d Q R hx hy q k
  unfold modD at q
  split at q
  · split at q
    · rename_i hl
      cases q
      exact ⟨_, _, hx.int, hy.int, hl, k _ F A H (FLe.refl _) (ALe.refl _) R vok_int⟩
    · cases q
  · cases q
theorem or_fdiv : OpR X (binaryOp .FloorDiv) (rI CDivW fun i j => .int (i / j)) := op_fdivW
theorem od_fdiv : OpD G (rI CDivW fun i j => .int (i / j)) fdivD := by
  intro E F A σ H s x y dx dy d Q R hx hy q k
  unfold fdivD at q
  split at q
  · split at q
    · rename_i hl
      cases q
      exact ⟨_, _, hx.int, hy.int, hl, k _ F A H (FLe.refl _) (ALe.refl _) R vok_int⟩
    · cases q
  · cases q
def CPowW (i j : Int) : Prop := 0 ≤ j ∧ (Builtin.Int.intBits i : Int) * j ≤ 2 ^ 27
theorem or_pow : OpR X (binaryOp .Pow) (rI CPowW fun i j => .int (i ^ j.toNat)) := opI fun _ _ _ _ _ _ _ hc q => pow_int hc.1 hc.2 q
theorem od_pow : OpD G (rI CPowW fun i j => .int (i ^ j.toNat)) powD := by
  intro E F A σ H s x y dx dy d Q R hx hy q k
  unfold powD at q
  split at q
  · split at q
    · rename_i hl
      cases q
      exact ⟨_, _, hx.int, hy.int, hl, k _ F A H (FLe.refl _) (ALe.refl _) R vok_int⟩
    · cases q
  · cases q
def negD (_ : S) : D → Option D
  | .int a => some (.int (-a))
  | _ => none
theorem ud_neg : UnD G (rU fun i => .int (-i)) negD := by
  intro E F A σ H s x dx d Q R hx q k
  unfold negD at q
  split at q
  · cases q
    exact ⟨_, hx.int, k _ F A H (FLe.refl _) (ALe.refl _) R vok_int⟩
  · cases q
theorem od_cmpI (p : Int → Int → Bool) : OpD G (rI0 fun i j => .bl (p i j)) (cmpI p) := by
  intro E F A σ H s x y dx dy d Q R hx hy q k
  unfold cmpI at q
  split at q
  · cases q
    exact ⟨_, _, hx.int, hy.int, k _ F A H (FLe.refl _) (ALe.refl _) R vok_bl⟩
  · cases q
def rGtD : R2 := fun x y H Q => (∃ i j, x = .int i ∧ y = .int j ∧ Q (.bl (decide (j < i))) H) ∨ (∃ i j, x = .str i ∧ y = .str j ∧ Q (.bl (decide (j.cps.toList < i.cps.toList))) H)
theorem or_gt : OpR X (compareOp .Gt) rGtD := OpR.or op_gt op_gt_str
theorem od_gt : OpD G rGtD gtD := by
  intro E F A σ H s x y dx dy d Q R hx hy q k
  unfold gtD at q
  split at q
  · cases q
    exact .inl ⟨_, _, hx.int, hy.int, k _ F A H (FLe.refl _) (ALe.refl _) R vok_bl⟩
  · cases q
    exact .inr ⟨_, _, hx.str, hy.str, k _ F A H (FLe.refl _) (ALe.refl _) R vok_bl⟩
  · cases q
def rEqA (K : PySem.W.Frag) : R2 := fun x y H Q => rEq x y H Q ∨ rEqD K x y H Q
def rNeA (K : PySem.W.Frag) : R2 := fun x y H Q => rNe x y H Q ∨ rNeD K x y H Q
theorem or_eq (hu : X.A.units + 64 < cLine) : OpR X (compareOp .Eq) (rEqA X.K) := OpR.or op_eq (op_eqD hu)
theorem or_ne (hu : X.A.units + 64 < cLine) : OpR X (compareOp .NotEq) (rNeA X.K) := OpR.or op_ne (op_neD hu)
theorem eqB_cases {s : S} {x y : D} {b : Bool} (h : eqB s x y = some b) : (∃ a c, vw s x = .str a ∧ vw s y = .str c ∧ b = decide (a = c)) ∨ (∃ a c, vw s x = .int a ∧ vw s y = .int c ∧ b = decide (a = c)) ∨ (∃ a c, vw s x = .bl a ∧ vw s y = .bl c ∧ b = decide (a = c)) ∨
    ∃ a c, pyOf (vw s x) = some a ∧ pyOf (vw s y) = some c ∧ SeqAt.shaped a = true ∧ SeqAt.shaped c = true ∧ b = PyData.eqv a c := by
  unfold eqB at h
  split at h
  · rename_i a c h1 h2
    cases h
    exact .inl ⟨a, c, h1, h2, rfl⟩
  · rename_i a c h1 h2
    cases h
    exact .inr (.inl ⟨a, c, h1, h2, rfl⟩)
  · rename_i a c h1 h2
    cases h
    exact .inr (.inr (.inl ⟨a, c, h1, h2, rfl⟩))
  · split at h
    · rename_i a c h1 h2
      split at h
      · rename_i h3
        cases h
        simp only [Bool.and_eq_true] at h3
        exact .inr (.inr (.inr ⟨a, c, h1, h2, h3.1, h3.2, rfl⟩))
      · cases h
    · cases h
theorem dec_V {α : Type} [DecidableEq α] {f : α → V} (hf : ∀ a b, f a = f b → a = b) (a b : α) : decide (f a = f b) = decide (a = b) := by
  by_cases h : a = b
  · subst h; simp
  · rw [decide_eq_false h, decide_eq_false (fun e => h (hf a b e))]
theorem od_eq (hK : X.K = G.K) : OpD G (rEqA X.K) eqD := by
  intro E F A σ H s x y dx dy d Q R hx hy q k
  unfold eqD at q
  cases qb : eqB s dx dy with
  | none => rw [qb] at q; cases q
  | some b =>
    rw [qb] at q
    cases q
    have kk := k _ F A H (FLe.refl _) (ALe.refl _) R (vok_bl (b := b))
    rcases eqB_cases qb with ⟨a, c, h1, h2, rfl⟩ | ⟨a, c, h1, h2, rfl⟩ | ⟨a, c, h1, h2, rfl⟩ | ⟨a, c, h1, h2, h3, h4, rfl⟩
    · rw [hx.str' h1, hy.str' h2]
      exact .inl ⟨rfl, by rw [dec_V (f := V.str) (fun _ _ e => by injection e)]; exact kk⟩
    · rw [hx.int' h1, hy.int' h2]
      exact .inl ⟨rfl, by rw [dec_V (f := V.int) (fun _ _ e => by injection e)]; exact kk⟩
    · rw [hx.bl' h1, hy.bl' h2]
      exact .inl ⟨rfl, by rw [dec_V (f := V.bl) (fun _ _ e => by injection e)]; exact kk⟩
    · exact .inr ⟨a, c, by rw [hK]; exact dp_view R hx h1, by rw [hK]; exact dp_view R hy h2, h3, h4, kk⟩
theorem od_ne (hK : X.K = G.K) : OpD G (rNeA X.K) neD := by
  intro E F A σ H s x y dx dy d Q R hx hy q k
  unfold neD at q
  cases qb : eqB s dx dy with
  | none => rw [qb] at q; cases q
  | some b =>
    rw [qb] at q
    cases q
    have kk := k _ F A H (FLe.refl _) (ALe.refl _) R (vok_bl (b := !b))
    rcases eqB_cases qb with ⟨a, c, h1, h2, rfl⟩ | ⟨a, c, h1, h2, rfl⟩ | ⟨a, c, h1, h2, rfl⟩ | ⟨a, c, h1, h2, h3, h4, rfl⟩
    · rw [hx.str' h1, hy.str' h2]
      exact .inl ⟨rfl, by rw [dec_V (f := V.str) (fun _ _ e => by injection e)]; exact kk⟩
    · rw [hx.int' h1, hy.int' h2]
      exact .inl ⟨rfl, by rw [dec_V (f := V.int) (fun _ _ e => by injection e)]; exact kk⟩
    · rw [hx.bl' h1, hy.bl' h2]
      exact .inl ⟨rfl, by rw [dec_V (f := V.bl) (fun _ _ e => by injection e)]; exact kk⟩
    · exact .inr ⟨a, c, by rw [hK]; exact dp_view R hx h1, by rw [hK]; exact dp_view R hy h2, h3, h4, kk⟩
def rInT (K : PySem.W.Frag) : R2 := fun x y H Q => ∃ d ds, Dp K H x d ∧ Dp K H y (.tuple ds) ∧ SeqAt.shaped d = true ∧ SeqAt.shaped (.tuple ds) = true ∧ Q (.bl (ds.any fun z => PyData.eqv z d)) H
def rNotInT (K : PySem.W.Frag) : R2 := fun x y H Q => ∃ d ds, Dp K H x d ∧ Dp K H y (.tuple ds) ∧ SeqAt.shaped d = true ∧ SeqAt.shaped (.tuple ds) = true ∧ Q (.bl (!ds.any fun z => PyData.eqv z d)) H
theorem op_inT (hu : X.A.units + 65 < cLine) : OpR X (compareOp .In) (rInT X.K) := by
  intro pins s σ H x y v u Q I rx ry h
  obtain ⟨d, ds, hd, he, sd, se, q⟩ := h
  obtain ⟨as, r1⟩ := Dp.reads I d x v hd rx
  obtain ⟨bs, r2⟩ := Dp.reads I (.tuple ds) y u he ry
  exact SeqAt.in_tuple_reads r2 r1 (SeqAt.canLay_of_shaped se) (SeqAt.canLay_of_shaped sd) (room_in_shaped sd hu) ⟨.bl _, H, I, rfl, q⟩
theorem op_notInT (hu : X.A.units + 65 < cLine) : OpR X (compareOp .NotIn) (rNotInT X.K) := by
  intro pins s σ H x y v u Q I rx ry h
  obtain ⟨d, ds, hd, he, sd, se, q⟩ := h
  obtain ⟨as, r1⟩ := Dp.reads I d x v hd rx
  obtain ⟨bs, r2⟩ := Dp.reads I (.tuple ds) y u he ry
  exact SeqAt.notIn_tuple_reads r2 r1 (SeqAt.canLay_of_shaped se) (SeqAt.canLay_of_shaped sd) (room_in_shaped sd hu) ⟨.bl _, H, I, rfl, q⟩
end
end AG
set_option Elab.async false
set_option linter.all false
set_option maxRecDepth 100000
namespace AG
open PySem L2 PyProof.Rows
section
variable {G : Cfg} {E : Ent} {W : WX} {X : Cx} {F : Hp} {A : Adr} {σ : L2.St} {H : Hp} {s : S} {t : Expr} {st : Stmt}
def rInA (K : PySem.W.Frag) : R2 := fun x y H Q => (rInD K x y H Q ∨ rInT K x y H Q) ∨ (∃ i j, x = .str i ∧ y = .str j ∧ Q (.bl (!(Builtin.Str.occurrences j i 0 j.length 1).isEmpty)) H)
def rNotInA (K : PySem.W.Frag) : R2 := fun x y H Q => (rNotInD K x y H Q ∨ rNotInT K x y H Q) ∨ (∃ i j, x = .str i ∧ y = .str j ∧ Q (.bl (!(!(Builtin.Str.occurrences j i 0 j.length 1).isEmpty))) H)
theorem or_in (hu : X.A.units + 65 < cLine) : OpR X (compareOp .In) (rInA X.K) := OpR.or (OpR.or (op_inD hu) (op_inT hu)) op_in_str
theorem or_notIn (hu : X.A.units + 65 < cLine) : OpR X (compareOp .NotIn) (rNotInA X.K) := OpR.or (OpR.or (op_notInD hu) (op_notInT hu)) op_notIn_str
theorem pyOf_lst {l : List D} {es : List PyData} (h : pyL l = some es) : pyOf (.lst l) = some (.list es) := by simp [pyOf, h]
theorem pyOf_tup {l : List D} {es : List PyData} (h : pyL l = some es) : pyOf (.tup l) = some (.tuple es) := by simp [pyOf, h]
theorem inB_cases {x y : D} {b : Bool} (h : inB s x y = some b) : (∃ l a es, vw s y = .lst l ∧ pyOf (vw s x) = some a ∧ pyL l = some es ∧ SeqAt.shaped a = true ∧ SeqAt.shaped (.list es) = true ∧ b = es.any fun z => PyData.eqv z a) ∨
    (∃ l a es, vw s y = .tup l ∧ pyOf (vw s x) = some a ∧ pyL l = some es ∧ SeqAt.shaped a = true ∧ SeqAt.shaped (.tuple es) = true ∧ b = es.any fun z => PyData.eqv z a) ∨
    ∃ a c, x = .str a ∧ vw s y = .str c ∧ b = !(Builtin.Str.occurrences c a 0 c.length 1).isEmpty := by
  unfold inB at h
  split at h
  · rename_i l h1
    split at h
    · rename_i a es h2 h3
      split at h
      · rename_i h4
        cases h
        simp only [Bool.and_eq_true] at h4
        exact .inl ⟨l, a, es, h1, h2, h3, h4.1, h4.2, rfl⟩
      · cases h
    · cases h
  · rename_i l h1
    split at h
    · rename_i a es h2 h3
      split at h
      · rename_i h4
        cases h
        simp only [Bool.and_eq_true] at h4
        exact .inr (.inl ⟨l, a, es, h1, h2, h3, h4.1, h4.2, rfl⟩)
      · cases h
    · cases h
  · rename_i c h1
    split at h
    · rename_i a
      cases h
      exact .inr (.inr ⟨a, c, rfl, h1, rfl⟩)
    · cases h
  · cases h
theorem od_in (hK : X.K = G.K) : OpD G (rInA X.K) inD := by
  intro E F A σ H s x y dx dy d Q R hx hy q k
  unfold inD at q
  cases qb : inB s dx dy with
  | none => rw [qb] at q; cases q
  | some b =>
    rw [qb] at q
    cases q
    have kk := k _ F A H (FLe.refl _) (ALe.refl _) R (vok_bl (b := b))
    rcases inB_cases qb with ⟨l, a, es, h1, h2, h3, h4, h5, rfl⟩ | ⟨l, a, es, h1, h2, h3, h4, h5, rfl⟩ | ⟨a, c, rfl, h2, rfl⟩
    · exact .inl (.inl ⟨a, es, by rw [hK]; exact dp_view R hx h2, by rw [hK]; exact dp_view R hy (by rw [h1]; exact pyOf_lst h3), h4, h5, kk⟩)
    · exact .inl (.inr ⟨a, es, by rw [hK]; exact dp_view R hx h2, by rw [hK]; exact dp_view R hy (by rw [h1]; exact pyOf_tup h3), h4, h5, kk⟩)
    · exact .inr ⟨a, c, hx.str, hy.str' h2, kk⟩
theorem od_notIn (hK : X.K = G.K) : OpD G (rNotInA X.K) notInD := by
  intro E F A σ H s x y dx dy d Q R hx hy q k
  unfold notInD at q
  cases qb : inB s dx dy with
  | none => rw [qb] at q; cases q
  | some b =>
    rw [qb] at q
    cases q
    have kk := k _ F A H (FLe.refl _) (ALe.refl _) R (vok_bl (b := !b))
    rcases inB_cases qb with ⟨l, a, es, h1, h2, h3, h4, h5, rfl⟩ | ⟨l, a, es, h1, h2, h3, h4, h5, rfl⟩ | ⟨a, c, rfl, h2, rfl⟩
    · exact .inl (.inl ⟨a, es, by rw [hK]; exact dp_view R hx h2, by rw [hK]; exact dp_view R hy (by rw [h1]; exact pyOf_lst h3), h4, h5, kk⟩)
    · exact .inl (.inr ⟨a, es, by rw [hK]; exact dp_view R hx h2, by rw [hK]; exact dp_view R hy (by rw [h1]; exact pyOf_tup h3), h4, h5, kk⟩)
    · exact .inr ⟨a, c, hx.str, hy.str' h2, kk⟩
theorem rep_non {d : D} (h : Rep G F A d .non) : d = .non := by
  cases d <;> simp [Rep] at h ⊢
theorem od_isN : OpD G (fun x y H Q => y = .non ∧ Q (.bl (decide (x = .non))) H) isNonD := by
  intro E F A σ H s x y dx dy d Q R hx hy q k
  unfold isNonD at q
  split at q
  · refine ⟨hy.non, ?_⟩
    split at q
    · cases q
      rw [hx.non]
      exact k _ F A H (FLe.refl _) (ALe.refl _) R vok_bl
    · cases q
    · rename_i h1 h2
      cases q
      have hxn : x ≠ .non := fun e => by
        subst e
        refine h1 (rep_non (hx.rep ?_))
        cases dx <;> first | rfl | exact absurd rfl (h2 _)
      rw [decide_eq_false hxn]
      exact k _ F A H (FLe.refl _) (ALe.refl _) R vok_bl
  · cases q
theorem od_isNotN : OpD G (fun x y H Q => y = .non ∧ Q (.bl (!decide (x = .non))) H) isNotNonD := by
  intro E F A σ H s x y dx dy d Q R hx hy q k
  unfold isNotNonD at q
  split at q
  · refine ⟨hy.non, ?_⟩
    split at q
    · cases q
      rw [hx.non]
      exact k _ F A H (FLe.refl _) (ALe.refl _) R vok_bl
    · cases q
    · rename_i h1 h2
      cases q
      have hxn : x ≠ .non := fun e => by
        subst e
        refine h1 (rep_non (hx.rep ?_))
        cases dx <;> first | rfl | exact absurd rfl (h2 _)
      rw [decide_eq_false hxn]
      exact k _ F A H (FLe.refl _) (ALe.refl _) R vok_bl
  · cases q
def rIxA (K : PySem.W.Frag) : R2 := fun x y H Q => (rIxL K x y H Q ∨ rIxT K x y H Q) ∨ rIxS x y H Q
theorem ix_all : IxR X (rIxA X.K) := IxR.or (IxR.or ix_list ix_tup) ix_str
theorem atI_get {l : List D} {vs : List V} {i : Int} {d : D} (r : RepL G F A l vs) (h : atI l i = some d) : ∃ v, atI vs i = some v ∧ Rep G F A d v := by
  unfold atI at h ⊢
  rw [RepL.length r]
  cases q : ixN l.length i with
  | none => rw [q] at h; cases h
  | some j =>
    rw [q] at h
    exact RepL.get r h
theorem od_ix (hK : X.K = G.K) : OpD G (rIxA X.K) ixD := by
  intro E F A σ H s x y dx dy d Q R hx hy q k
  unfold ixD at q
  split at q
  · rename_i l i h1
    obtain ⟨a, vs, rfl, h2, r⟩ := lst_view R hx h1
    obtain ⟨v, h3, h4⟩ := atI_get r q
    exact .inl (.inl ⟨a, vs, i, v, rfl, hy.int, .of h2, h3, k _ F A H (FLe.refl _) (ALe.refl _) R (.of h4)⟩)
  · rename_i l i h1
    obtain ⟨a, vs, rfl, _, h2, r⟩ := tup_view R hx h1
    obtain ⟨v, h3, h4⟩ := atI_get r q
    exact .inl (.inr ⟨a, vs, i, v, rfl, hy.int, .of h2, h3, k _ F A H (FLe.refl _) (ALe.refl _) R (.of h4)⟩)
  · rename_i z i h1
    split at q
    · rename_i hl
      rw [Option.map_eq_some_iff] at q
      obtain ⟨c, h3, rfl⟩ := q
      exact .inr ⟨z, i, c, hx.str' h1, hy.int, lim_line hl, h3, k _ F A H (FLe.refl _) (ALe.refl _) R vok_str⟩
    · cases q
  · cases q
def noPartS : M (Option Int) := fun s => .ok none s
def partS (f : M D) : M (Option Int) := fun s => (f s).bind fun d s1 => match d with
  | .int i => .ok (some i) s1
  | _ => .st
def cutL {α : Type} (xs : List α) (lo hi : Option Int) : List α := (xs.drop (HT.sIx xs.length 0 lo)).take (HT.sIx xs.length xs.length hi - HT.sIx xs.length 0 lo)
def slD (s : S) (x : D) (lo hi : Option Int) : Option D := match vw s x with
  | .lst l => some (.lst (cutL l lo hi))
  | .tup l => some (.tup (cutL l lo hi))
  | .str z => if z.length ≤ LIM then some (.str (cutS z lo hi)) else none
  | _ => none
def slS (f : M D) (lo hi : M (Option Int)) : M D := fun s => (f s).bind fun x s1 => (lo s1).bind fun a s2 => (hi s2).bind fun b s3 => match slD s3 x a b with
  | some d => .ok d s3
  | none => .st
def TOof (G : Cfg) (W : WX) (f : M (Option Int)) : TO := fun σ H Q => ∃ E F A s, Rel G E F A σ H s ∧ PO G E W σ (fun o _ _ _ H => Q o H) F A (f s)
theorem POimp {e : Option Expr} {t t' : TO} (h : L2.PO X e t) (k : ∀ σ H Q, t' σ H Q → t σ H Q) : L2.PO X e t' := ⟨fun pins s σ H Q I hq => h.run pins s σ H Q I (k σ H Q hq)⟩
theorem o_none : L2.PO X none (TOof G W noPartS) := POimp po_none fun σ H Q ⟨E, F, A, s, R, P⟩ => P.ok_here R
theorem o_some {e : Expr} {f : M D} (h : PE X e (TEof G W f)) : L2.PO X (some e) (TOof G W (partS f)) := POimp (po_some h) fun σ H Q ⟨E, F, A, s, R, P⟩ => ⟨E, F, A, s, R, PO.bind P fun d s1 F1 A1 H1 e1 g1 R1 P1 v hv => by
  cases d with
  | int i => exact ⟨i, hv.int, P1.ok_here R1⟩
  | _ => exact P1.elim⟩
def rSlAll (K : PySem.W.Frag) : V → Option Int → Option Int → Hp → VK → Prop := fun x lo hi H Q => (rSlL K x lo hi H Q ∨ rSlA K x lo hi H Q) ∨ rSlS x lo hi H Q
theorem sl_all : SlR X (rSlAll X.K) := SlR.or (SlR.or sl_list sl_tupA) sl_str
theorem RepL.cut {l : List D} {vs : List V} (r : RepL G F A l vs) (lo hi : Option Int) : RepL G F A (cutL l lo hi) (cutL vs lo hi) := by
  unfold cutL
  rw [RepL.length r]
  exact RepL.take _ (RepL.drop _ r)
theorem x_sl {f : M D} {lo hi : M (Option Int)} (hK : X.K = G.K) (k : PE X t (tSl (rSlAll X.K) (TEof G W f) (TOof G W lo) (TOof G W hi))) : PE X t (TEof G W (slS f lo hi)) := by
  refine PEimp k fun σ H Q ⟨E, F, A, s, R, P⟩ => ⟨E, F, A, s, R, PO.bind P fun x s1 F1 A1 H1 e1 g1 R1 P1 u hu => ⟨E, F1, A1, s1, R1, PO.bind P1 fun a s2 F2 A2 H2 e2 g2 R2 P2 => ⟨E, F2, A2, s2, R2, PO.bind P2 fun b s3 F3 A3 H3 e3 g3 R3 P3 => ?_⟩⟩⟩
  have hx := (hu.mono e2 g2).mono e3 g3
  cases q : slD s3 x a b with
  | none => rw [q] at P3; exact P3.elim
  | some d =>
    rw [q] at P3
    unfold slD at q
    split at q
    · rename_i l h1
      cases q
      obtain ⟨p, vs, rfl, h2, r⟩ := lst_view R3 hx h1
      refine .inl (.inl ⟨p, vs, rfl, .of h2, fun tt ht => ?_⟩)
      have fl := fle_upd (o := .lst (cutV vs a b)) (R3.sub.none ht)
      refine P3 _ A3 _ fl (ALe.refl _) (R3.newFz ht) _ ?_
      show Rep G _ A3 (.lst _) _
      simp only [Rep]
      exact ⟨tt, _, rfl, upd_same, RepL.mono fl (ALe.refl _) _ _ (RepL.cut r a b)⟩
    · rename_i l h1
      cases q
      obtain ⟨p, vs, rfl, f2, h2, r⟩ := tup_view R3 hx h1
      refine .inl (.inr ⟨p, vs, rfl, .of h2, fun hw => ?_, fun _ tt ht => ?_⟩)
      · refine P3 F3 A3 H3 (FLe.refl _) (ALe.refl _) R3 _ ?_
        have hl := RepL.length r
        rw [hl] at hw
        have e : cutL l a b = l := by
          unfold cutL
          rw [hw.1, hw.2]
          simp
        rw [e]
        show Rep G F3 A3 (.tup l) _
        simp only [Rep]
        exact ⟨p, vs, rfl, f2, r⟩
      · have fl := fle_upd (o := .tup (cutV vs a b)) (R3.sub.none ht)
        refine P3 _ A3 _ fl (ALe.refl _) (R3.newFz ht) _ ?_
        show Rep G _ A3 (.tup _) _
        simp only [Rep]
        exact ⟨tt, _, rfl, upd_same, RepL.mono fl (ALe.refl _) _ _ (RepL.cut r a b)⟩
    · rename_i z h1
      split at q
      · rename_i hl
        cases q
        exact .inr ⟨z, hx.str' h1, lim_line hl, P3 F3 A3 H3 (FLe.refl _) (ALe.refl _) R3 _ vok_str⟩
      · cases q
    · cases q
def lenD (s : S) : List D → Option D
  | [x] => (match vw s x with
    | .lst l => some (.int l.length)
    | .tup l => some (.int l.length)
    | .str z => if z.length ≤ LIM then some (.int z.length) else none
    | _ => none)
  | _ => none
def rLenA (K : PySem.W.Frag) : List V → Hp → VK → Prop := fun xs H Q => (∃ p ys, xs = [.ref p] ∧ (SqL K H p ys ∨ SqT K H p ys) ∧ Q (.int ys.length) H) ∨ (∃ z, xs = [.str z] ∧ z.length ≤ sizeLine ∧ Q (.int z.length) H)
theorem CallR.or {f : Value} {r r' : List V → Hp → VK → Prop} (h : CallR X f r) (h' : CallR X f r') : CallR X f (fun xs H Q => r xs H Q ∨ r' xs H Q) := by
  intro pins s σ H xs us Q I rr q
  rcases q with q | q
  · exact h pins s σ H xs us Q I rr q
  · exact h' pins s σ H xs us Q I rr q
theorem cr_len : CallR X (.builtin "len") (rLenA X.K) := CallR.or call_len_seq call_len_str
theorem paired1 {ds : List D} {vs : List V} {x : D} {R : D → V → Prop} (h : Paired R ds vs) (e : ds = [x]) : ∃ v, vs = [v] ∧ R x v := by
  subst e
  cases h with
  | cons h t => cases t; exact ⟨_, rfl, h⟩
theorem cd_len : ClD G (rLenA G.K) lenD := by
  intro E F A σ H s xs ds d Q R hx q k
  unfold lenD at q
  split at q
  · rename_i x
    obtain ⟨v, rfl, hv⟩ := paired1 hx rfl
    split at q
    · rename_i l h1
      cases q
      obtain ⟨a, vs, rfl, h2, r⟩ := lst_view R hv h1
      exact .inl ⟨a, vs, rfl, .inl (.of h2), by rw [RepL.length r]; exact k _ F A H (FLe.refl _) (ALe.refl _) R vok_int⟩
    · rename_i l h1
      cases q
      obtain ⟨a, vs, rfl, _, h2, r⟩ := tup_view R hv h1
      exact .inl ⟨a, vs, rfl, .inr (.of h2), by rw [RepL.length r]; exact k _ F A H (FLe.refl _) (ALe.refl _) R vok_int⟩
    · rename_i z h1
      split at q
      · rename_i hl
        cases q
        exact .inr ⟨z, by rw [hv.str' h1], lim_line hl, k _ F A H (FLe.refl _) (ALe.refl _) R vok_int⟩
      · cases q
    · cases q
  · cases q
def tupleD (s : S) : List D → Option D
  | [x] => (match vw s x with
    | .lst l => some (.tup l)
    | .tup l => some (.tup l)
    | _ => none)
  | _ => none
def rTupleA (K : PySem.W.Frag) : List V → Hp → VK → Prop := fun xs H Q => ∃ p ys, xs = [.ref p] ∧ ((SqL K H p ys ∧ ∀ l, H l = none → Q (.ref l) (upd H l (.tup ys))) ∨ (SqT K H p ys ∧ Q (.ref p) H))
theorem cr_tuple : CallR X (.type "tuple") (rTupleA X.K) := call_tuple_of
theorem cd_tuple : ClD G (rTupleA G.K) tupleD := by
  intro E F A σ H s xs ds d Q R hx q k
  unfold tupleD at q
  split at q
  · rename_i x
    obtain ⟨v, rfl, hv⟩ := paired1 hx rfl
    split at q
    · rename_i l h1
      cases q
      obtain ⟨a, vs, rfl, h2, r⟩ := lst_view R hv h1
      refine ⟨a, vs, rfl, .inl ⟨.of h2, fun p hp => ?_⟩⟩
      have fl := fle_upd (o := .tup vs) (R.sub.none hp)
      refine k _ _ A _ fl (ALe.refl _) (R.newFz hp) ?_
      show Rep G _ A (.tup _) _
      simp only [Rep]
      exact ⟨p, _, rfl, upd_same, RepL.mono fl (ALe.refl _) _ _ r⟩
    · rename_i l h1
      cases q
      obtain ⟨a, vs, rfl, f2, h2, r⟩ := tup_view R hv h1
      refine ⟨a, vs, rfl, .inr ⟨.of h2, k _ F A H (FLe.refl _) (ALe.refl _) R ?_⟩⟩
      show Rep G F A (.tup l) _
      simp only [Rep]
      exact ⟨a, vs, rfl, f2, r⟩
    · cases q
  · cases q
def listN (s : S) : List D → Option MO
  | [x] => (match vw s x with
    | .lst l => some (.ml l)
    | .tup l => some (.ml l)
    | _ => none)
  | _ => none
def rListA (K : PySem.W.Frag) : List V → Hp → VK → Prop := fun xs H Q => ∃ p ys, xs = [.ref p] ∧ (SqL K H p ys ∨ SqT K H p ys) ∧ ∀ l, H l = none → Q (.ref l) (upd H l (.lst ys))
theorem cr_list : CallR X (.type "list") (rListA X.K) := call_list_of
theorem cn_list : ClN G (rListA G.K) listN := by
  intro E F A σ H s xs ds m Q R hx q k
  unfold listN at q
  split at q
  · rename_i x
    obtain ⟨v, rfl, hv⟩ := paired1 hx rfl
    split at q
    · rename_i l h1
      cases q
      obtain ⟨a, vs, rfl, h2, r⟩ := lst_view R hv h1
      refine ⟨a, vs, rfl, .inl (.of h2), fun p hp => ?_⟩
      obtain ⟨R2, k1, k2, k3, k4⟩ := R.laid (o := .lst vs) hp
      exact k p F A _ (FLe.refl _) (ALe.refl _) R2 ⟨⟨vs, upd_same, r⟩, k1, k2, k3, k4⟩
    · rename_i l h1
      cases q
      obtain ⟨a, vs, rfl, f2, h2, r⟩ := tup_view R hv h1
      refine ⟨a, vs, rfl, .inr (.of h2), fun p hp => ?_⟩
      obtain ⟨R2, k1, k2, k3, k4⟩ := R.laid (o := .lst vs) hp
      exact k p F A _ (FLe.refl _) (ALe.refl _) R2 ⟨⟨vs, upd_same, r⟩, k1, k2, k3, k4⟩
    · cases q
  · cases q
def blsOf : List D → Option (List Bool)
  | [] => some []
  | .bl b :: r => (blsOf r).map (b :: ·)
  | _ => none
theorem blsOf_map : ∀ {l : List D} {bs : List Bool}, blsOf l = some bs → l = bs.map D.bl
  | [], bs, h => by
    simp only [blsOf, Option.some.injEq] at h
    subst h
    rfl
  | d :: r, bs, h => by
    cases d with
    | bl b =>
      simp only [blsOf, Option.map_eq_some_iff] at h
      obtain ⟨bs', h1, rfl⟩ := h
      rw [blsOf_map h1]
      rfl
    | _ => simp [blsOf] at h
def allD (s : S) : List D → Option D
  | [x] => (match vw s x with
    | .lst l => (blsOf l).map fun bs => .bl (bs.all id)
    | _ => none)
  | _ => none
def anyD (s : S) : List D → Option D
  | [x] => (match vw s x with
    | .lst l => (blsOf l).map fun bs => .bl (bs.any id)
    | _ => none)
  | _ => none
theorem cd_all : ClD G (rAll G.K) allD := by
  intro E F A σ H s xs ds d Q R hx q k
  unfold allD at q
  split at q
  · rename_i x
    obtain ⟨v, rfl, hv⟩ := paired1 hx rfl
    split at q
    · rename_i l h1
      rw [Option.map_eq_some_iff] at q
      obtain ⟨bs, h3, rfl⟩ := q
      obtain ⟨a, vs, rfl, h2, r⟩ := lst_view R hv h1
      rw [blsOf_map h3] at r
      exact ⟨a, bs, rfl, .of (by rw [← RepL.bls r]; exact h2), k _ F A H (FLe.refl _) (ALe.refl _) R vok_bl⟩
    · cases q
  · cases q
theorem cd_any : ClD G (rAny G.K) anyD := by
  intro E F A σ H s xs ds d Q R hx q k
  unfold anyD at q
  split at q
  · rename_i x
    obtain ⟨v, rfl, hv⟩ := paired1 hx rfl
    split at q
    · rename_i l h1
      rw [Option.map_eq_some_iff] at q
      obtain ⟨bs, h3, rfl⟩ := q
      obtain ⟨a, vs, rfl, h2, r⟩ := lst_view R hv h1
      rw [blsOf_map h3] at r
      exact ⟨a, bs, rfl, .of (by rw [← RepL.bls r]; exact h2), k _ F A H (FLe.refl _) (ALe.refl _) R vok_bl⟩
    · cases q
  · cases q
def absD (_ : S) : List D → Option D
  | [.int i] => some (.int (if i < 0 then -i else i))
  | _ => none
def intD (_ : S) : List D → Option D
  | [.int i] => some (.int i)
  | [.bl b] => some (.int (if b then 1 else 0))
  | _ => none
theorem cd_abs : ClD G (fun xs H Q => ∃ i, xs = [.int i] ∧ Q (.int (if i < 0 then -i else i)) H) absD := by
  intro E F A σ H s xs ds d Q R hx q k
  unfold absD at q
  split at q
  · cases q
    obtain ⟨v, rfl, hv⟩ := paired1 hx rfl
    exact ⟨_, by rw [hv.int], k _ F A H (FLe.refl _) (ALe.refl _) R vok_int⟩
  · cases q
theorem cd_int : ClD G (fun xs H Q => (∃ i, xs = [.int i] ∧ Q (.int i) H) ∨ ∃ k, xs = [.bl k] ∧ Q (.int (if k then 1 else 0)) H) intD := by
  intro E F A σ H s xs ds d Q R hx q k
  unfold intD at q
  split at q
  · cases q
    obtain ⟨v, rfl, hv⟩ := paired1 hx rfl
    exact .inl ⟨_, by rw [hv.int], k _ F A H (FLe.refl _) (ALe.refl _) R vok_int⟩
  · cases q
    obtain ⟨v, rfl, hv⟩ := paired1 hx rfl
    exact .inr ⟨_, by rw [hv.bl], k _ F A H (FLe.refl _) (ALe.refl _) R vok_int⟩
  · cases q
end
end AG
set_option Elab.async false
set_option linter.all false
set_option maxRecDepth 100000
namespace AG
open PySem L2 PyProof.Rows
section
variable {G : Cfg} {E : Ent} {F : Hp} {A : Adr} {σ : L2.St} {H : Hp} {s : S} {p : Addr} {o : HO} {m m' : MO}
theorem Rel.updOwn (R : Rel G E F A σ H s) {i : Nat} (h : s.rhz[i]? = some (.own m)) (hp : σ[i]? = some (some (.ref p))) (hm : MoOk G F A (upd H p o) p m') : Rel G E F A σ (upd H p o) { s with rhz := s.rhz.set i (.own m') } := by
  obtain ⟨p', h1, N⟩ := R.take h
  rw [h1] at hp
  cases hp
  obtain ⟨o0, at0⟩ := N.mo.some
  have R2 := (R.forget i).write (o := o) at0 (N.mo.solid at0) N.nf N.ne N.nA N.nσ
  have N2 : New G E F A σ (upd H p o) { s with rhz := s.rhz.set i .un } p m' := ⟨hm, N.nf, N.ne, N.nA, N.nσ⟩
  have R3 := R2.setN (i := i) N2
  have e1 : σ.set i (some (.ref p)) = σ := by
    apply List.ext_getElem?
    intro j
    by_cases q : i = j
    · subst q
      rw [List.getElem?_set_self (List.getElem?_eq_some_iff.mp h1).1, h1]
    · rw [List.getElem?_set_ne q]
  rw [e1] at R3
  simpa using R3
theorem Rel.updHnd (R : Rel G E F A σ H s) {n : Nat} (h : s.muz[n]? = some m) (hp : A n = some p) (hm : MoOk G F A (upd H p o) p m') : Rel G E F A σ (upd H p o) { s with muz := s.muz.set n m' } := by
  have hn : n < s.muz.length := (List.getElem?_eq_some_iff.mp h).1
  have at_ : ∀ k a, A k = some a → k ≠ n → a ≠ p := fun k a hk hne z => by
    subst z
    exact hne (R.cells.inj k n a hk hp)
  obtain ⟨o0, at0, sol⟩ : ∃ o0, H p = some o0 ∧ ¬ stuck o0 := by
    obtain ⟨b, k1, k2, k3⟩ := R.cells.at_ n m h
    rw [hp] at k1
    cases k1
    obtain ⟨u, hu⟩ := k2.some
    exact ⟨u, hu, k2.solid hu⟩
  refine ⟨fun a u q => ?_, R.len, fun i x v h1 h2 => (R.slot i x v h1 h2).mono (FLe.refl _) (ALe.refl _) fun a m h3 h4 h5 h6 h7 => ⟨h5, h7, fun o' ho => ?_⟩, R.dist, ⟨fun k mk hk => ?_, fun k a hk => by simpa using R.cells.dom k a hk, R.cells.inj⟩, R.fle, R.ale, by simpa using R.nle, fun a u h1 h2 h2' => ?_, fun a ps h => upd_tb2 at0 sol (R.tb a ps h), ⟨upd_tabs2 at0 sol R.tabs.t, R.tabs.n⟩, R.fz, R.hz⟩
  · have q2 : a ≠ p := fun z => by
      subst z
      obtain ⟨b, k1, k2, k3⟩ := R.cells.at_ n m h
      rw [hp] at k1
      cases k1
      rw [k3] at q
      cases q
    rw [upd_ne q2]
    exact R.sub a u q
  · have q2 : a ≠ p := fun z => h7 n (by rw [hp, z])
    rw [upd_ne q2]
    exact ho
  · by_cases e : k = n
    · subst e
      change (s.muz.set k m')[k]? = some mk at hk
      rw [List.getElem?_set_self hn] at hk
      cases hk
      obtain ⟨b, k1, k2, k3⟩ := R.cells.at_ k m h
      rw [hp] at k1
      cases k1
      exact ⟨p, hp, hm, k3⟩
    · change (s.muz.set n m')[k]? = some mk at hk
      rw [List.getElem?_set_ne (Ne.symm e)] at hk
      obtain ⟨b, k1, k2, k3⟩ := R.cells.at_ k mk hk
      exact ⟨b, k1, k2.mono (FLe.refl _) (ALe.refl _) (fun o' ho => by rw [upd_ne (at_ k b k1 e)]; exact ho), k3⟩
  · have q2 : a ≠ p := fun z => by
      subst z
      rcases R.hz n a hp with k | k
      · exact h2 n k
      · rw [h1] at k
        cases k
    rw [upd_ne q2]
    exact R.keep a u h1 h2 h2'
theorem Rel.newHnd (R : Rel G E F A σ H s) (N : New G E F A σ H s p m) : ∃ A', ALe A A' ∧ A' s.muz.length = some p ∧ Rel G E F A' σ H { s with muz := s.muz ++ [m] } := by
  let A' : Adr := fun n => if n = s.muz.length then some p else A n
  have fresh : A s.muz.length = none := by
    cases q : A s.muz.length with
    | none => rfl
    | some a => exact absurd (R.cells.dom _ _ q) (Nat.lt_irrefl _)
  have al : ALe A A' := fun n a h => by
    show (if n = s.muz.length then some p else A n) = some a
    rw [if_neg (fun e => by rw [e, fresh] at h; cases h)]
    exact h
  have atn : A' s.muz.length = some p := if_pos rfl
  have ato : ∀ n, n ≠ s.muz.length → A' n = A n := fun n h => if_neg h
  refine ⟨A', al, atn, R.sub, R.len, fun i x v h1 h2 => (R.slot i x v h1 h2).mono (FLe.refl _) al fun a m2 h3 h4 h5 h6 h7 => ⟨h5, fun n z => ?_, fun _ q => q⟩, R.dist, ⟨fun n mn hn => ?_, fun n a hn => ?_, fun n k a h1 h2 => ?_⟩, R.fle, R.ale.trans al, by simp; exact Nat.le_succ_of_le R.nle, R.keep, R.tb, R.tabs, R.fz, fun n a hn => ?_⟩
  · by_cases e : n = s.muz.length
    · rw [e, atn] at z
      cases z
      refine N.nσ i ?_ (by rw [h2, h3])
      rw [List.getD_eq_getElem?_getD, h1, h4]
      rfl
    · rw [ato n e] at z
      exact h7 n z
  · by_cases e : n < s.muz.length
    · rw [List.getElem?_append_left e] at hn
      obtain ⟨a, k1, k2, k3⟩ := R.cells.at_ n mn hn
      exact ⟨a, al _ _ k1, k2.mono (FLe.refl _) al (fun _ q => q), k3⟩
    · rw [List.getElem?_append_right (by omega)] at hn
      have e2 : n = s.muz.length := by
        have : n - s.muz.length < 1 := by
          have := (List.getElem?_eq_some_iff.mp hn).1
          simpa using this
        omega
      subst e2
      simp at hn
      subst hn
      exact ⟨p, atn, N.mo.mono (FLe.refl _) al (fun _ q => q), N.nf⟩
  · by_cases e : n = s.muz.length
    · simp [e]
    · rw [ato n e] at hn
      have := R.cells.dom n a hn
      simp
      omega
  · by_cases e : n = s.muz.length
    · by_cases e2 : k = s.muz.length
      · rw [e, e2]
      · rw [e, atn] at h1
        rw [ato k e2] at h2
        cases h1
        exact absurd h2 (N.nA k)
    · by_cases e2 : k = s.muz.length
      · rw [e2, atn] at h2
        rw [ato n e] at h1
        cases h2
        exact absurd h1 (N.nA n)
      · rw [ato n e] at h1
        rw [ato k e2] at h2
        exact R.cells.inj n k a h1 h2
  · by_cases e : n = s.muz.length
    · rw [e, atn] at hn
      cases hn
      exact .inr N.ne
    · rw [ato n e] at hn
      exact R.hz n a hn
end
def hndS (f : M MO) : M D := fun s => (f s).bind fun m s1 => .ok (.hnd s1.muz.length) { s1 with muz := s1.muz ++ [m] }
def ml? (s : S) : D → Option (List D × (List D → S))
  | .loc i => (match s.rhz[i]? with
    | some (.own (.ml l)) => some (l, fun l' => { s with rhz := s.rhz.set i (.own (.ml l')) })
    | _ => none)
  | .hnd n => (match s.muz[n]? with
    | some (.ml l) => some (l, fun l' => { s with muz := s.muz.set n (.ml l') })
    | _ => none)
  | _ => none
def md? (s : S) : D → Option (Bool × List (D × D) × (List (D × D) → S))
  | .loc i => (match s.rhz[i]? with
    | some (.own (.md t l)) => some (t, l, fun l' => { s with rhz := s.rhz.set i (.own (.md t l')) })
    | _ => none)
  | .hnd n => (match s.muz[n]? with
    | some (.md t l) => some (t, l, fun l' => { s with muz := s.muz.set n (.md t l') })
    | _ => none)
  | _ => none
section
variable {G : Cfg} {E : Ent} {W : WX} {X : Cx} {F : Hp} {A : Adr} {σ : L2.St} {H : Hp} {s : S} {t : Expr} {st : Stmt}
theorem x_hnd {f : M MO} (k : PE X t (TFof G W f)) : PE X t (TEof G W (hndS f)) := by
  refine PEimp k fun σ H Q ⟨E, F, A, s, R, P⟩ => ⟨E, F, A, s, R, PO.bind P fun m s1 F1 A1 H1 e1 g1 R1 P1 p N => ?_⟩
  obtain ⟨A2, al, h1, R2⟩ := R1.newHnd N
  refine P1 F1 A2 H1 (FLe.refl _) al R2 _ ?_
  show Rep G F1 A2 (.hnd _) _
  simp only [Rep]
  exact ⟨p, h1, rfl⟩
theorem ml_at (R : Rel G E F A σ H s) {d : D} {v : V} {l : List D} {put : List D → S} (h : VOk G σ F A d v) (q : ml? s d = some (l, put)) : ∃ a vs, v = .ref a ∧ H a = some (.lst vs) ∧ RepL G F A l vs ∧
    ∀ l' vs', RepL G F A l' vs' → Rel G E F A σ (upd H a (.lst vs')) (put l') := by
  cases d with
  | loc i =>
    simp only [ml?] at q
    split at q
    · rename_i l0 hi
      cases q
      obtain ⟨a, rfl, hm⟩ := vw_loc R h hi
      obtain ⟨vs, h1, h2⟩ := hm
      exact ⟨a, vs, rfl, h1, h2, fun l' vs' r => R.updOwn hi h ⟨vs', upd_same, r⟩⟩
    · cases q
  | hnd n =>
    simp only [ml?] at q
    split at q
    · rename_i l0 hi
      cases q
      obtain ⟨a, rfl, hm⟩ := vw_hnd R h hi
      obtain ⟨vs, h1, h2⟩ := hm
      have h : Rep G F A (.hnd n) (.ref a) := h
      simp only [Rep] at h
      obtain ⟨b, h3, h4⟩ := h
      cases h4
      exact ⟨a, vs, rfl, h1, h2, fun l' vs' r => R.updHnd hi h3 ⟨vs', upd_same, r⟩⟩
    · cases q
  | _ => cases q
def appS (f g : M D) : M Fl := fun s => (f s).bind fun x s1 => match ml? s1 x with
  | none => .st
  | some _ => (g s1).bind fun y s2 => match ml? s2 x with
    | some (l, put) => if sto y && decide (l.length < LIM) then .ok .nx (put (l ++ [y])) else .st
    | none => .st
def popAtS (f g : M D) : M D := fun s => (f s).bind fun x s1 => match ml? s1 x with
  | none => .st
  | some _ => (g s1).bind fun y s2 => match y with
    | .int i => (match ml? s2 x with
      | some (l, put) => if 0 ≤ i ∧ i < 2 ^ 63 then (match l[i.toNat]? with
        | some z => .ok z (put (l.eraseIdx i.toNat))
        | none => .st) else .st
      | none => .st)
    | _ => .st
theorem erase_rep : ∀ {l : List D} {vs : List V} (n : Nat), RepL G F A l vs → RepL G F A (l.eraseIdx n) (vs.eraseIdx n)
  | [], vs, n, r => by simp only [RepL] at r; subst r; simp [RepL]
  | d :: ds, vs, 0, r => by
    simp only [RepL] at r
    obtain ⟨v, r', rfl, h2, h3⟩ := r
    exact h3
  | d :: ds, vs, n + 1, r => by
    simp only [RepL] at r
    obtain ⟨v, r', rfl, h2, h3⟩ := r
    simp only [List.eraseIdx_cons_succ, RepL]
    exact ⟨v, _, rfl, h2, erase_rep n h3⟩
theorem tyV_lst {a : Addr} {vs : List V} (h : H a = some (.lst vs)) : tyV G.K "list" (.ref a) H := .inl ⟨rfl, vs, .of h⟩
theorem s_app {f g : M D} (hK : X.K = G.K) (k : PS X st (tDrop (tBM X.K "list" rAppend (TEof G W f) (tCons (TEof G W g) tNil)))) : PS X st (TSof G W (appS f g)) := by
  refine PSimp k fun D σ H ⟨E, F, A, s, R, P⟩ => ⟨E, F, A, s, R, PostS.bind P fun x s1 F1 A1 H1 e1 g1 R1 P1 u hu => ?_⟩
  cases q1 : ml? s1 x with
  | none => simp only [q1] at P1; exact P1.elim
  | some lp =>
    simp only [q1] at P1
    obtain ⟨l1, put1⟩ := lp
    obtain ⟨a, vs, rfl, h1, r1, _⟩ := ml_at R1 hu q1
    refine ⟨by rw [hK]; exact tyV_lst h1, E, F1, A1, s1, R1, PostS.bind P1 fun y s2 F2 A2 H2 e2 g2 R2 P2 w hw => ?_⟩
    cases q2 : ml? s2 x with
    | none => simp only [q2] at P2; exact P2.elim
    | some lp2 =>
      obtain ⟨l2, put2⟩ := lp2
      simp only [q2] at P2
      cases qq : (sto y && decide (l2.length < LIM)) with
      | false => rw [qq] at P2; exact P2.elim
      | true =>
        rw [qq] at P2
        simp only [if_true] at P2
        simp only [Bool.and_eq_true, decide_eq_true_eq] at qq
        obtain ⟨a2, vs2, ea, h2, r2, up⟩ := ml_at R2 (hu.mono e2 g2) q2
        cases ea
        refine ⟨a, vs2, w, rfl, rfl, h2, by rw [RepL.length r2]; exact Nat.lt_of_lt_of_le qq.2 (by decide), ?_⟩
        exact P2 σ F2 A2 _ (FLe.refl _) (ALe.refl _) (up _ _ (RepL.append r2 (by simp only [RepL]; exact ⟨w, [], rfl, hw.rep qq.1, rfl⟩)))
theorem x_popAt {f g : M D} (hK : X.K = G.K) (k : PE X t (tBM X.K "list" rPopAt (TEof G W f) (tCons (TEof G W g) tNil))) : PE X t (TEof G W (popAtS f g)) := by
  refine PEimp k fun σ H Q ⟨E, F, A, s, R, P⟩ => ⟨E, F, A, s, R, PO.bind P fun x s1 F1 A1 H1 e1 g1 R1 P1 u hu => ?_⟩
  cases q1 : ml? s1 x with
  | none => simp only [q1] at P1; exact P1.elim
  | some lp =>
    simp only [q1] at P1
    obtain ⟨l1, put1⟩ := lp
    obtain ⟨a, vs, rfl, h1, r1, _⟩ := ml_at R1 hu q1
    refine ⟨by rw [hK]; exact tyV_lst h1, E, F1, A1, s1, R1, PO.bind P1 fun y s2 F2 A2 H2 e2 g2 R2 P2 w hw => ?_⟩
    cases y with
    | int i =>
      cases q2 : ml? s2 x with
      | none => simp only [q2] at P2; exact P2.elim
      | some lp2 =>
        obtain ⟨l2, put2⟩ := lp2
        simp only [q2] at P2
        by_cases hb : 0 ≤ i ∧ i < 2 ^ 63
        · rw [if_pos hb] at P2
          cases q3 : l2[i.toNat]? with
          | none => simp only [q3] at P2; exact P2.elim
          | some z =>
            simp only [q3] at P2
            obtain ⟨a2, vs2, ea, h2, r2, up⟩ := ml_at R2 (hu.mono e2 g2) q2
            cases ea
            obtain ⟨v, hv, rv⟩ := RepL.get r2 q3
            have hl := (List.getElem?_eq_some_iff.mp hv).1
            refine ⟨a, vs2, i, i.toNat, v, rfl, by rw [hw.int], h2, by omega, hb.2, ?_, hv, ?_⟩
            · unfold seqIndex?
              have : (i : Int) < vs2.length := by omega
              simp [hb.1, this]
              omega
            · exact P2 F2 A2 _ (FLe.refl _) (ALe.refl _) (up _ _ (erase_rep _ r2)) v (.of rv)
        · rw [if_neg hb] at P2
          exact P2.elim
    | _ => exact P2.elim
def keyQ (t : Bool) (x y : D) : Bool := match t with
  | false => (match keyD x, keyD y with
    | some a, some b => decide (a = b)
    | _, _ => false)
  | true => (match keyT x, keyT y with
    | some a, some b => decide (a = b)
    | _, _ => false)
def isKey (t : Bool) (y : D) : Bool := match t with
  | false => (keyD y).isSome
  | true => (keyT y).isSome
def lookD (t : Bool) (l : List (D × D)) (y : D) : Option D := (l.find? fun p => keyQ t p.1 y).map (·.2)
def putD (t : Bool) (l : List (D × D)) (y z : D) : List (D × D) := if (l.any fun p => keyQ t p.1 y) = true then l.map (fun p => if keyQ t p.1 y = true then (p.1, z) else p) else l ++ [(y, z)]
theorem dct_view (R : Rel G E F A σ H s) {d : D} {v : V} {t : Bool} {l : List (D × D)} (h : VOk G σ F A d v) (q : vw s d = .dct t l) : ∃ a vs o, v = .ref a ∧ RepL2 G F A l vs ∧ Rd H a o ∧ DctAt l vs t o := by
  have mo : ∀ (a : Addr) (m : MO), MoOk G F A H a m → frzD m = .dct t l → ∃ vs o, RepL2 G F A l vs ∧ H a = some o ∧ DctAt l vs t o := fun a m hm q => by
    cases m with
    | ml l => cases q
    | md t' l' =>
      simp only [frzD, D.dct.injEq] at q
      obtain ⟨rfl, rfl⟩ := q
      exact hm
    | mi c fs => cases q
  cases d with
  | loc i =>
    simp only [vw] at q
    cases qi : s.rhz[i]? with
    | none => rw [qi] at q; cases q
    | some x =>
      rw [qi] at q
      cases x with
      | own m =>
        obtain ⟨a, rfl, hm⟩ := vw_loc R h qi
        obtain ⟨vs, o, h1, h2, h3⟩ := mo a m hm q
        exact ⟨a, vs, o, rfl, h1, .inl h2, h3⟩
      | _ => cases q
  | hnd n =>
    simp only [vw] at q
    cases qi : s.muz[n]? with
    | none => rw [qi] at q; cases q
    | some m =>
      rw [qi] at q
      obtain ⟨a, rfl, hm⟩ := vw_hnd R h qi
      obtain ⟨vs, o, h1, h2, h3⟩ := mo a m hm q
      exact ⟨a, vs, o, rfl, h1, .inl h2, h3⟩
  | dct t' l' =>
    simp only [vw, D.dct.injEq] at q
    obtain ⟨rfl, rfl⟩ := q
    have h : Rep G F A (.dct t' l') v := h
    simp only [Rep] at h
    obtain ⟨a, vs, o, h1, h2, h3, h4⟩ := h
    refine ⟨a, vs, o, h1, h2, ?_, h4⟩
    rcases R.sub _ _ h3 with k | ⟨_, od, k⟩
    · exact .inl k
    · exact .inr ⟨od, k⟩
  | _ => cases q
theorem look_K : ∀ {l : List (D × D)} {vs : List V} {ks : List Key} {y : D} {k : Key}, RepL2 G F A l vs → ks.map some = l.map (fun p => keyD p.1) → keyD y = some k →
    (∀ d, lookD false l y = some d → ∃ v, valV (List.zip ks vs) k = some v ∧ Rep G F A d v) ∧ (lookD false l y = none → valV (List.zip ks vs) k = none)
  | [], vs, ks, y, k, r, hk, hy => by
    simp only [RepL2] at r
    subst r
    exact ⟨fun d h => by simp [lookD] at h, fun _ => by simp [valV]⟩
  | (x, z) :: l, vs, ks, y, k, r, hk, hy => by
    simp only [RepL2] at r
    obtain ⟨v, r', rfl, h2, h3⟩ := r
    cases ks with
    | nil => simp at hk
    | cons k0 ks =>
      simp only [List.map_cons, List.cons.injEq] at hk
      obtain ⟨i1, i2⟩ := look_K h3 hk.2 hy
      have eq : keyQ false x y = decide (k0 = k) := by
        unfold keyQ
        rw [← hk.1, hy]
      unfold lookD at i1 i2 ⊢
      unfold valV at i1 i2 ⊢
      rw [List.zip_cons_cons, List.find?_cons, List.find?_cons, eq]
      by_cases q : k0 = k
      · simp only [q, decide_true]
        exact ⟨fun d h => ⟨v, rfl, by simp at h; subst h; exact h2⟩, fun h => by simp at h⟩
      · simp only [q, decide_false]
        exact ⟨i1, i2⟩
theorem look_T : ∀ {l : List (D × D)} {vs : List V} {ks : List (List Key)} {y : D} {k : List Key}, RepL2 G F A l vs → ks.map some = l.map (fun p => keyT p.1) → keyT y = some k →
    (∀ d, lookD true l y = some d → ∃ v, valV (List.zip ks vs) k = some v ∧ Rep G F A d v) ∧ (lookD true l y = none → valV (List.zip ks vs) k = none)
  | [], vs, ks, y, k, r, hk, hy => by
    simp only [RepL2] at r
    subst r
    exact ⟨fun d h => by simp [lookD] at h, fun _ => by simp [valV]⟩
  | (x, z) :: l, vs, ks, y, k, r, hk, hy => by
    simp only [RepL2] at r
    obtain ⟨v, r', rfl, h2, h3⟩ := r
    cases ks with
    | nil => simp at hk
    | cons k0 ks =>
      simp only [List.map_cons, List.cons.injEq] at hk
      obtain ⟨i1, i2⟩ := look_T h3 hk.2 hy
      have eq : keyQ true x y = decide (k0 = k) := by
        unfold keyQ
        rw [← hk.1, hy]
      unfold lookD at i1 i2 ⊢
      unfold valV at i1 i2 ⊢
      rw [List.zip_cons_cons, List.find?_cons, List.find?_cons, eq]
      by_cases q : k0 = k
      · simp only [q, decide_true]
        exact ⟨fun d h => ⟨v, rfl, by simp at h; subst h; exact h2⟩, fun h => by simp at h⟩
      · simp only [q, decide_false]
        exact ⟨i1, i2⟩
theorem keyD_rep {y : D} {k : Key} {v : V} (h : keyD y = some k) (r : Rep G F A y v) : v = kV k := by
  cases y with
  | int i => cases h; simp only [Rep] at r; exact r
  | str i => cases h; simp only [Rep] at r; exact r
  | _ => cases h
theorem keysD_rep : ∀ {ds : List D} {ks : List Key} {vs : List V}, keysD ds = some ks → RepL G F A ds vs → vs = ks.map kV
  | [], ks, vs, h, r => by
    simp only [keysD, Option.some.injEq] at h
    simp only [RepL] at r
    subst h r
    rfl
  | d :: ds, ks, vs, h, r => by
    simp only [RepL] at r
    obtain ⟨v, r', rfl, h2, h3⟩ := r
    simp only [keysD] at h
    cases q1 : keyD d with
    | none => rw [q1] at h; cases h
    | some k =>
      rw [q1] at h
      cases q2 : keysD ds with
      | none => rw [q2] at h; cases h
      | some ks' =>
        rw [q2] at h
        cases h
        rw [keyD_rep q1 h2, keysD_rep q2 h3]
        rfl
theorem keyT_rep {y : D} {k : List Key} {v : V} (hs : Sub F H) (h : keyT y = some k) (r : Rep G F A y v) : ∃ b, v = .ref b ∧ H b = some (.tup (k.map kV)) := by
  cases y with
  | tup ds =>
    simp only [keyT] at h
    simp only [Rep] at r
    obtain ⟨a, vs, h1, h2, h3⟩ := r
    rw [keysD_rep h h3] at h2
    exact ⟨a, h1, hs_tup hs h2⟩
  | _ => cases h
theorem keyD_sto {y : D} {k : Key} (h : keyD y = some k) : sto y = true := by cases y <;> first | rfl | cases h
theorem keyT_sto {y : D} {k : List Key} (h : keyT y = some k) : sto y = true := by cases y <;> first | rfl | cases h
theorem dget (R : Rel G E F A σ H s) {l : List (D × D)} {vs : List V} {t : Bool} {o : HO} {a : Addr} {y : D} {w : V} (r : RepL2 G F A l vs) (ho : Rd H a o) (hd : DctAt l vs t o) (hk : isKey t y = true) (hw : VOk G σ F A y w) :
    (∀ d, lookD t l y = some d → ∃ v, DGet H a w (some v) ∧ Rep G F A d v) ∧ (lookD t l y = none → DGet H a w none) := by
  cases t with
  | false =>
    obtain ⟨ks, rfl, h2, h3⟩ := hd
    simp only [isKey, Option.isSome_iff_exists] at hk
    obtain ⟨k, hk⟩ := hk
    obtain ⟨i1, i2⟩ := look_K r h2 hk
    have ew := keyD_rep hk (hw.rep (keyD_sto hk))
    exact ⟨fun d h => by
      obtain ⟨v, h4, h5⟩ := i1 d h
      exact ⟨v, .inl ⟨_, k, ho, ew, h4.symm⟩, h5⟩, fun h => .inl ⟨_, k, ho, ew, (i2 h).symm⟩⟩
  | true =>
    obtain ⟨ks, rfl, h2, h3⟩ := hd
    simp only [isKey, Option.isSome_iff_exists] at hk
    obtain ⟨k, hk⟩ := hk
    obtain ⟨i1, i2⟩ := look_T r h2 hk
    obtain ⟨b, ew, eb⟩ := keyT_rep R.sub hk (hw.rep (keyT_sto hk))
    exact ⟨fun d h => by
      obtain ⟨v, h4, h5⟩ := i1 d h
      exact ⟨v, .inr ⟨_, k, b, ho, ew, eb, h4.symm⟩, h5⟩, fun h => .inr ⟨_, k, b, ho, ew, eb, (i2 h).symm⟩⟩
def ixA (s : S) (x y : D) : Option D := match vw s x with
  | .dct t l => if isKey t y then lookD t l y else none
  | _ => ixD s x y
def rIxDct : R2 := fun x y H Q => ∃ a v, x = .ref a ∧ DGet H a y (some v) ∧ Q v H
theorem ix_dct (hu : X.A.units + 1 < cLine) : IxR X rIxDct := by
  intro value slice pins s σ H x y v u Q I rx ry h hs
  obtain ⟨a, w, rfl, g, q⟩ := h
  cases rx
  exact tail_any (dict_typeIs I g) PySem.F.slot_dict_getitem.lookup (d_getItem hu I g ry fun w' s3 I3 rw' => ⟨w, H, I3, rw', q⟩) hs
def rIxAll (K : PySem.W.Frag) : R2 := fun x y H Q => rIxA K x y H Q ∨ rIxDct x y H Q
theorem ixr_all (hu : X.A.units + 1 < cLine) : IxR X (rIxAll X.K) := IxR.or ix_all (ix_dct hu)
theorem od_ixA (hK : X.K = G.K) : OpD G (rIxAll X.K) ixA := by
  intro E F A σ H s x y dx dy d Q R hx hy q k
  unfold ixA at q
  split at q
  · rename_i t l h1
    split at q
    · rename_i hk
      obtain ⟨a, vs, o, rfl, r, ho, hd⟩ := dct_view R hx h1
      obtain ⟨v, g, rv⟩ := (dget R r ho hd hk hy).1 d q
      exact .inr ⟨a, v, rfl, g, k _ F A H (FLe.refl _) (ALe.refl _) R (.of rv)⟩
    · cases q
  · exact .inl (od_ix hK E F A σ H s x y dx dy d Q R hx hy q k)
def inAB (s : S) (x y : D) : Option Bool := match vw s y with
  | .dct t l => if isKey t x then some (lookD t l x).isSome else none
  | _ => inB s x y
def inA (s : S) (x y : D) : Option D := (inAB s x y).map .bl
def notInA (s : S) (x y : D) : Option D := (inAB s x y).map fun b => .bl (!b)
def rInDct : R2 := fun x y H Q => ∃ a o, y = .ref a ∧ DGet H a x o ∧ Q (.bl o.isSome) H
def rNotInDct : R2 := fun x y H Q => ∃ a o, y = .ref a ∧ DGet H a x o ∧ Q (.bl (!o.isSome)) H
theorem op_inDct (hu : X.A.units + 1 < cLine) : OpR X (compareOp .In) rInDct := by
  intro pins s σ H x y v u Q I rx ry h
  obtain ⟨a, o, rfl, g, q⟩ := h
  cases ry
  exact d_in hu I g rx fun s3 I3 => ⟨.bl _, H, I3, rfl, q⟩
theorem op_notInDct (hu : X.A.units + 1 < cLine) : OpR X (compareOp .NotIn) rNotInDct := by
  intro pins s σ H x y v u Q I rx ry h
  obtain ⟨a, o, rfl, g, q⟩ := h
  cases ry
  exact d_notIn hu I g rx fun s3 I3 => ⟨.bl _, H, I3, rfl, q⟩
def rInAll (K : PySem.W.Frag) : R2 := fun x y H Q => rInA K x y H Q ∨ rInDct x y H Q
def rNotInAll (K : PySem.W.Frag) : R2 := fun x y H Q => rNotInA K x y H Q ∨ rNotInDct x y H Q
theorem or_inA (hu : X.A.units + 65 < cLine) : OpR X (compareOp .In) (rInAll X.K) := OpR.or (or_in hu) (op_inDct (by omega))
theorem or_notInA (hu : X.A.units + 65 < cLine) : OpR X (compareOp .NotIn) (rNotInAll X.K) := OpR.or (or_notIn hu) (op_notInDct (by omega))
theorem od_inA (hK : X.K = G.K) : OpD G (rInAll X.K) inA := by
  intro E F A σ H s x y dx dy d Q R hx hy q k
  unfold inA inAB at q
  split at q
  · rename_i t l h1
    split at q
    · rename_i hk
      cases q
      obtain ⟨a, vs, o, rfl, r, ho, hd⟩ := dct_view R hy h1
      obtain ⟨g1, g2⟩ := dget R r ho hd hk hx
      cases ql : lookD t l dx with
      | none => exact .inr ⟨a, none, rfl, g2 ql, by rw [ql] at k; exact k _ F A H (FLe.refl _) (ALe.refl _) R vok_bl⟩
      | some d =>
        obtain ⟨v, g, _⟩ := g1 d ql
        exact .inr ⟨a, some v, rfl, g, by rw [ql] at k; exact k _ F A H (FLe.refl _) (ALe.refl _) R vok_bl⟩
    · cases q
  · exact .inl (od_in hK E F A σ H s x y dx dy d Q R hx hy q k)
theorem od_notInA (hK : X.K = G.K) : OpD G (rNotInAll X.K) notInA := by
  intro E F A σ H s x y dx dy d Q R hx hy q k
  unfold notInA inAB at q
  split at q
  · rename_i t l h1
    split at q
    · rename_i hk
      cases q
      obtain ⟨a, vs, o, rfl, r, ho, hd⟩ := dct_view R hy h1
      obtain ⟨g1, g2⟩ := dget R r ho hd hk hx
      cases ql : lookD t l dx with
      | none => exact .inr ⟨a, none, rfl, g2 ql, by rw [ql] at k; exact k _ F A H (FLe.refl _) (ALe.refl _) R vok_bl⟩
      | some d =>
        obtain ⟨v, g, _⟩ := g1 d ql
        exact .inr ⟨a, some v, rfl, g, by rw [ql] at k; exact k _ F A H (FLe.refl _) (ALe.refl _) R vok_bl⟩
    · cases q
  · exact .inl (od_notIn hK E F A σ H s x y dx dy d Q R hx hy q k)
end
end AG
set_option Elab.async false
set_option linter.all false
set_option maxRecDepth 100000
namespace AG
open PySem L2 PyProof.Rows
section
variable {G : Cfg} {E : Ent} {W : WX} {X : Cx} {F : Hp} {A : Adr} {σ : L2.St} {H : Hp} {s : S} {t : Expr} {st : Stmt}
theorem zip_put {κ : Type} [DecidableEq κ] {l : List (D × D)} {vs : List V} {ks : List κ} {kf : D → Option κ} {q : D → D → Bool} {y z : D} {k : κ} {v : V} (hq : ∀ x k0, kf x = some k0 → q x y = decide (k0 = k)) (r : RepL2 G F A l vs) (hk : ks.map some = l.map (fun p => kf p.1)) (hl : ks.length = vs.length)
    (hy : kf y = some k) (hz : Rep G F A z v) : ∃ ks' vs', putK (List.zip ks vs) k v = List.zip ks' vs' ∧ RepL2 G F A (if (l.any fun p => q p.1 y) = true then l.map (fun p => if q p.1 y = true then (p.1, z) else p) else l ++ [(y, z)]) vs' ∧
    ks'.map some = (if (l.any fun p => q p.1 y) = true then l.map (fun p => if q p.1 y = true then (p.1, z) else p) else l ++ [(y, z)]).map (fun p => kf p.1) ∧ ks'.length = vs'.length := by
  have any_eq : ∀ (l : List (D × D)) (vs : List V) (ks : List κ), ks.map some = l.map (fun p => kf p.1) → ks.length = vs.length → (l.any fun p => q p.1 y) = ((List.zip ks vs).any fun kv => decide (kv.1 = k)) := by
    intro l
    induction l with
    | nil => intro vs ks hk hl; cases ks with
      | nil => rfl
      | cons a b => simp at hk
    | cons p l ih => intro vs ks hk hl; cases ks with
      | nil => simp at hk
      | cons k0 ks => cases vs with
        | nil => simp at hl
        | cons w vs =>
          simp only [List.map_cons, List.cons.injEq] at hk
          rw [List.any_cons, List.zip_cons_cons, List.any_cons, ih vs ks hk.2 (by simpa using hl), hq _ _ hk.1.symm]
  have map_put : ∀ (l : List (D × D)) (vs : List V) (ks : List κ), RepL2 G F A l vs → ks.map some = l.map (fun p => kf p.1) → ks.length = vs.length →
      ∃ vs', (List.zip ks vs).map (fun kv => if kv.1 = k then (kv.1, v) else kv) = List.zip ks vs' ∧ RepL2 G F A (l.map fun p => if q p.1 y = true then (p.1, z) else p) vs' ∧ ks.map some = (l.map fun p => if q p.1 y = true then (p.1, z) else p).map (fun p => kf p.1) ∧ ks.length = vs'.length := by
    intro l
    induction l with
    | nil => intro vs ks r hk hl; cases ks with
      | nil => exact ⟨[], rfl, by simp [RepL2], rfl, rfl⟩
      | cons a b => simp at hk
    | cons p l ih => intro vs ks r hk hl; cases ks with
      | nil => simp at hk
      | cons k0 ks => cases vs with
        | nil => simp at hl
        | cons w vs =>
          simp only [List.map_cons, List.cons.injEq] at hk
          simp only [RepL2] at r
          obtain ⟨w', r', e, h2, h3⟩ := r
          cases e
          obtain ⟨vs', i1, i2, i3, i4⟩ := ih vs ks h3 hk.2 (by simpa using hl)
          have hq0 := hq _ _ hk.1.symm
          by_cases e : k0 = k
          · refine ⟨v :: vs', ?_, ?_, ?_, by simp [i4]⟩
            · rw [List.zip_cons_cons, List.map_cons, i1]
              simp [e]
            · rw [List.map_cons, hq0]
              simp only [e, decide_true, if_true, RepL2]
              exact ⟨v, vs', rfl, hz, i2⟩
            · rw [List.map_cons, List.map_cons, hq0]
              simp only [e, decide_true, if_true, List.map_cons]
              rw [← i3, ← hk.1, e]
          · refine ⟨w :: vs', ?_, ?_, ?_, by simp [i4]⟩
            · rw [List.zip_cons_cons, List.map_cons, i1]
              simp [e]
            · rw [List.map_cons, hq0]
              simp only [e, decide_false, Bool.false_eq_true, if_false, RepL2]
              exact ⟨w, vs', rfl, h2, i2⟩
            · rw [List.map_cons, List.map_cons, hq0]
              simp only [e, decide_false, Bool.false_eq_true, if_false, List.map_cons]
              rw [← i3, ← hk.1]
  have app2 : ∀ (l : List (D × D)) (vs : List V), RepL2 G F A l vs → RepL2 G F A (l ++ [(y, z)]) (vs ++ [v]) := by
    intro l
    induction l with
    | nil => intro vs r; simp only [RepL2] at r; subst r; simp only [List.nil_append, RepL2]; exact ⟨v, [], rfl, hz, rfl⟩
    | cons p l ih => intro vs r; simp only [RepL2] at r; obtain ⟨w, r', rfl, h2, h3⟩ := r; simp only [List.cons_append, RepL2]; exact ⟨w, _, rfl, h2, ih _ h3⟩
  unfold putK
  rw [← any_eq l vs ks hk hl]
  by_cases ha : (l.any fun p => q p.1 y) = true
  · rw [if_pos ha, if_pos ha]
    obtain ⟨vs', i1, i2, i3, i4⟩ := map_put l vs ks r hk hl
    exact ⟨ks, vs', i1, i2, i3, i4⟩
  · rw [if_neg ha, if_neg ha]
    refine ⟨ks ++ [k], vs ++ [v], ?_, app2 l vs r, by simp [hk, hy], by simp [hl]⟩
    rw [List.zip_append hl]
    rfl
theorem zip_len {κ : Type} {l : List (D × D)} {vs : List V} {ks : List κ} {kf : D → Option κ} (hk : ks.map some = l.map (fun p => kf p.1)) (hl : ks.length = vs.length) : (List.zip ks vs).length = l.length := by
  have h1 : ks.length = l.length := by simpa using congrArg List.length hk
  rw [List.length_zip, ← hl, h1, Nat.min_self]
theorem md_at (R : Rel G E F A σ H s) {d : D} {v : V} {b : Bool} {l : List (D × D)} {put : List (D × D) → S} (h : VOk G σ F A d v) (q : md? s d = some (b, l, put)) : ∃ a vs o, v = .ref a ∧ H a = some o ∧ RepL2 G F A l vs ∧ DctAt l vs b o ∧
    ∀ l' vs' o', RepL2 G F A l' vs' → DctAt l' vs' b o' → Rel G E F A σ (upd H a o') (put l') := by
  cases d with
  | loc i =>
    simp only [md?] at q
    split at q
    · rename_i b0 l0 hi
      cases q
      obtain ⟨a, rfl, hm⟩ := vw_loc R h hi
      obtain ⟨vs, o, h1, h2, h3⟩ := hm
      exact ⟨a, vs, o, rfl, h2, h1, h3, fun l' vs' o' r d => R.updOwn hi h ⟨vs', o', r, upd_same, d⟩⟩
    · cases q
  | hnd n =>
    simp only [md?] at q
    split at q
    · rename_i b0 l0 hi
      cases q
      obtain ⟨a, rfl, hm⟩ := vw_hnd R h hi
      obtain ⟨vs, o, h1, h2, h3⟩ := hm
      have h : Rep G F A (.hnd n) (.ref a) := h
      simp only [Rep] at h
      obtain ⟨b, h5, h4⟩ := h
      cases h4
      exact ⟨a, vs, o, rfl, h2, h1, h3, fun l' vs' o' r d => R.updHnd hi h5 ⟨vs', o', r, upd_same, d⟩⟩
    · cases q
  | _ => cases q
def dputS (fv fd fk : M D) : M Fl := fun s => (fv s).bind fun z s1 => (fd s1).bind fun x s2 => (fk s2).bind fun y s3 => match md? s3 x with
  | some (t, l, put) => if sto z && isKey t y && decide (l.length < LIM) then .ok .nx (put (putD t l y z)) else .st
  | none => .st
theorem dput (R : Rel G E F A σ H s) {d y z : D} {x w v : V} {b : Bool} {l : List (D × D)} {put : List (D × D) → S} (hx : VOk G σ F A d x) (q : md? s d = some (b, l, put)) (hw : VOk G σ F A y w) (hz : Rep G F A z v) (hk : isKey b y = true) (hl : l.length < LIM) :
    ∃ a H', x = .ref a ∧ DPut H a w v H' ∧ Rel G E F A σ H' (put (putD b l y z)) := by
  obtain ⟨a, vs, o, rfl, h1, r, hd, up⟩ := md_at R hx q
  cases b with
  | false =>
    obtain ⟨ks, rfl, h2, h3⟩ := hd
    simp only [isKey, Option.isSome_iff_exists] at hk
    obtain ⟨k, hk⟩ := hk
    obtain ⟨ks', vs', e1, r2, h4, h5⟩ := zip_put (q := keyQ false) (z := z) (v := v) (fun x k0 hx => by unfold keyQ; rw [hx, hk]) r h2 h3 hk hz
    refine ⟨a, _, rfl, .inl ⟨_, k, h1, keyD_rep hk (hw.rep (keyD_sto hk)), ?_, rfl⟩, ?_⟩
    · rw [zip_len h2 h3]
      exact Nat.lt_of_lt_of_le hl (by decide)
    · rw [e1]
      exact up _ _ _ r2 ⟨ks', rfl, h4, h5⟩
  | true =>
    obtain ⟨ks, rfl, h2, h3⟩ := hd
    simp only [isKey, Option.isSome_iff_exists] at hk
    obtain ⟨k, hk⟩ := hk
    obtain ⟨ks', vs', e1, r2, h4, h5⟩ := zip_put (q := keyQ true) (z := z) (v := v) (fun x k0 hx => by unfold keyQ; rw [hx, hk]) r h2 h3 hk hz
    obtain ⟨b, ew, eb⟩ := keyT_rep R.sub hk (hw.rep (keyT_sto hk))
    refine ⟨a, _, rfl, .inr ⟨_, k, b, h1, ew, eb, ?_, rfl⟩, ?_⟩
    · rw [zip_len h2 h3]
      exact Nat.lt_of_lt_of_le hl (by decide)
    · rw [e1]
      exact up _ _ _ r2 ⟨ks', rfl, h4, h5⟩
theorem s_dput {fv fd fk : M D} (k : PS X st (sDPut (TEof G W fd) (TEof G W fk) (TEof G W fv))) : PS X st (TSof G W (dputS fv fd fk)) := by
  refine PSimp k fun D σ H ⟨E, F, A, s, R, P⟩ => ⟨E, F, A, s, R, PostS.bind P fun z s1 F1 A1 H1 e1 g1 R1 P1 v hv => ⟨E, F1, A1, s1, R1, PostS.bind P1 fun x s2 F2 A2 H2 e2 g2 R2 P2 u hu => ⟨E, F2, A2, s2, R2, PostS.bind P2 fun y s3 F3 A3 H3 e3 g3 R3 P3 w hw => ?_⟩⟩⟩
  cases q : md? s3 x with
  | none => simp only [q] at P3; exact P3.elim
  | some r =>
    obtain ⟨t, l, put⟩ := r
    simp only [q] at P3
    cases qq : (sto z && isKey t y && decide (l.length < LIM)) with
    | false => rw [qq] at P3; exact P3.elim
    | true =>
      rw [qq] at P3
      simp only [if_true] at P3
      simp only [Bool.and_eq_true, decide_eq_true_eq] at qq
      obtain ⟨a, H', rfl, hd, R4⟩ := dput R3 (hu.mono e3 g3) q hw (((hv.mono e2 g2).mono e3 g3).rep qq.1.1) qq.1.2 qq.2
      exact ⟨a, H', rfl, hd, P3 σ F3 A3 H' (FLe.refl _) (ALe.refl _) R4⟩
def newDF (t : Bool) : M MO := fun s => .ok (.md t []) s
theorem f_dnewK (k : PE X t tDNewK) : PE X t (TFof G W (newDF false)) := by
  refine PEimp k fun σ H Q ⟨E, F, A, s, R, P⟩ p hp => ?_
  obtain ⟨R2, k1, k2, k3, k4⟩ := R.laid (o := .dK []) hp
  exact P F A _ (FLe.refl _) (ALe.refl _) R2 p ⟨⟨[], _, by simp [RepL2], upd_same, ⟨[], rfl, rfl, rfl⟩⟩, k1, k2, k3, k4⟩
def pnilS : M (List (D × D)) := fun s => .ok [] s
def pconsS (f g : M D) (r : M (List (D × D))) : M (List (D × D)) := fun s => (f s).bind fun x s1 => (g s1).bind fun y s2 => (r s2).bind fun ps s3 => .ok ((x, y) :: ps) s3
def okP (G : Cfg) (σ : L2.St) (Q : List (V × V) → Hp → Prop) : List (D × D) → S → Hp → Adr → Hp → Prop := fun ds _ F A H => ∀ vs, Paired (fun (d : D × D) (v : V × V) => VOk G σ F A d.1 v.1 ∧ VOk G σ F A d.2 v.2) ds vs → Q vs H
def dispF (f : M (List (D × D))) : M MO := fun s => (f s).bind fun ps s1 => if ps.all (fun p => sto p.1 && sto p.2 && isKey false p.1) && decide (ps.length ≤ 15) then .ok (.md false (ps.foldl (fun l p => putD false l p.1 p.2) [])) s1 else .st
def TPof (G : Cfg) (W : WX) (f : M (List (D × D))) : L2.St → Hp → (List (V × V) → Hp → Prop) → Prop := fun σ H Q => ∃ E F A s, Rel G E F A σ H s ∧ PO G E W σ (okP G σ Q) F A (f s)
def PDs (G : Cfg) (W : WX) (trs : List (TE × TE)) (f : M (List (D × D))) : Prop := ∀ σ H Q, TPof G W f σ H Q → tPairs trs σ H Q
theorem p_nil : PDs G W [] pnilS := fun σ H Q ⟨E, F, A, s, R, P⟩ => P.ok_here R [] .nil
theorem p_cons {f g : M D} {r : M (List (D × D))} {trs : List (TE × TE)} (h : PDs G W trs r) : PDs G W ((TEof G W f, TEof G W g) :: trs) (pconsS f g r) := fun σ H Q ⟨E, F, A, s, R, P⟩ =>
  ⟨E, F, A, s, R, PO.bind P fun x s1 F1 A1 H1 e1 g1 R1 P1 u hu => ⟨E, F1, A1, s1, R1, PO.bind P1 fun y s2 F2 A2 H2 e2 g2 R2 P2 v hv => h σ H2 _ ⟨E, F2, A2, s2, R2, PO.bind P2 fun ps s3 F3 A3 H3 e3 g3 R3 P3 vs hvs => P3.ok_here R3 _ (.cons ⟨(hu.mono e2 g2).mono e3 g3, hv.mono e3 g3⟩ hvs)⟩⟩⟩
theorem merge_ok : ∀ {ps : List (D × D)} {vs : List (V × V)} {l : List (D × D)} {ws : List V} {ks : List Key}, Paired (fun (d : D × D) (v : V × V) => VOk G σ F A d.1 v.1 ∧ VOk G σ F A d.2 v.2) ps vs → ps.all (fun p => sto p.1 && sto p.2 && isKey false p.1) = true →
    RepL2 G F A l ws → ks.map some = l.map (fun p => keyD p.1) → ks.length = ws.length →
    ∃ kvs : List (Key × V), vs = kvs.map (fun kv => (kV kv.1, kv.2)) ∧ kvs.length = ps.length ∧ ∃ ks' ws', mergeK (List.zip ks ws) kvs = List.zip ks' ws' ∧ RepL2 G F A (ps.foldl (fun l p => putD false l p.1 p.2) l) ws' ∧
      ks'.map some = (ps.foldl (fun l p => putD false l p.1 p.2) l).map (fun p => keyD p.1) ∧ ks'.length = ws'.length
  | [], _, l, ws, ks, .nil, _, r, hk, hl => ⟨[], rfl, rfl, ks, ws, rfl, r, hk, hl⟩
  | (y, z) :: ps, _, l, ws, ks, .cons (b := v) h t, q, r, hk, hl => by
    simp only [List.all_cons, Bool.and_eq_true] at q
    obtain ⟨⟨⟨q1, q2⟩, q3⟩, q4⟩ := q
    simp only [isKey, Option.isSome_iff_exists] at q3
    obtain ⟨k, hy⟩ := q3
    obtain ⟨ks1, ws1, e1, r1, hk1, hl1⟩ := zip_put (q := keyQ false) (z := z) (v := v.2) (fun x k0 hx => by unfold keyQ; rw [hx, hy]) r hk hl hy (h.2.rep q2)
    obtain ⟨kvs, e2, l2, ks', ws', e3, r3, hk3, hl3⟩ := merge_ok (l := putD false l y z) t q4 r1 hk1 hl1
    refine ⟨(k, v.2) :: kvs, ?_, by simp [l2], ks', ws', ?_, r3, hk3, hl3⟩
    · rw [List.map_cons, ← e2]
      have := keyD_rep hy (h.1.rep q1)
      rw [show v = (v.1, v.2) from rfl, this]
    · show mergeK (putK (List.zip ks ws) k v.2) kvs = _
      rw [e1]
      exact e3
theorem f_disp {f : M (List (D × D))} {trs : List (TE × TE)} (h : PDs G W trs f) (k : PE X t (tDisp trs)) : PE X t (TFof G W (dispF f)) := by
  refine PEimp k fun σ H Q ⟨E, F, A, s, R, P⟩ p hp => ?_
  obtain ⟨R2, k1, k2, k3, k4⟩ := R.laid (o := .dK []) hp
  have N : New G E F A σ (upd H p (.dK [])) s p (.md false []) := ⟨⟨[], _, by simp [RepL2], upd_same, ⟨[], rfl, rfl, rfl⟩⟩, k1, k2, k3, k4⟩
  have ef : E.F p = none := by
    cases qf : E.F p with
    | none => rfl
    | some u =>
      have kk := R.fle _ _ qf
      rw [k1] at kk
      cases kk
  have ea : ∀ n, E.A n ≠ some p := fun n z => k3 n (R.ale _ _ z)
  refine h σ _ _ ⟨_, F, A, s, R2.pin N upd_same, ?_⟩
  have P' : PO G E W σ (okF G E σ Q) F A (dispF f s) := P
  unfold dispF at P'
  cases qf : f s with
  | st => rw [qf] at P'; exact P'
  | err er s1 => rw [qf] at P'; exact fun F' A' H' dd e g R' => P' F' A' H' dd e g (R'.unpin id k2 ef ea).1
  | ok ps s1 =>
    rw [qf] at P'
    simp only [O.bind_ok] at P'
    intro F1 A1 H1 e1 g1 R1 vs hvs
    obtain ⟨R3, j1, j2, j3, j4⟩ := R1.unpin id k2 ef ea
    cases qq : (ps.all (fun p => sto p.1 && sto p.2 && isKey false p.1) && decide (ps.length ≤ 15)) with
    | false => rw [qq] at P'; exact P'.elim
    | true =>
      rw [qq] at P'
      simp only [if_true] at P'
      simp only [Bool.and_eq_true, decide_eq_true_eq] at qq
      obtain ⟨kvs, h1, h2, ks', ws', h3, h4, h5, h6⟩ := merge_ok (l := []) (ws := []) (ks := []) hvs qq.1 (by simp [RepL2]) rfl rfl
      refine ⟨j1, kvs, h1, by rw [h2]; exact qq.2, ?_⟩
      have h3' : mergeK [] kvs = List.zip ks' ws' := h3
      rw [h3']
      exact P' F1 A1 _ e1 g1 (R3.write j1 id j2 k2 j3 j4) p ⟨⟨ws', _, h4, upd_same, ⟨ks', rfl, h5, h6⟩⟩, j2, k2, j3, j4⟩
def itStr (f : M D) : M (List D) := fun s => (f s).bind fun d s1 => match d with
  | .str x => .ok (x.cps.toList.map fun c => .str ⟨#[c]⟩) s1
  | _ => .st
def itRng (f : M D) : M (List D) := fun s => (f s).bind fun d s1 => match d with
  | .int j => if -(2 ^ 62) ≤ j ∧ j < 2 ^ 62 then .ok ((List.range j.toNat).map fun i => .int (i : Nat)) s1 else .st
  | _ => .st
def itRng2 (f g : M D) : M (List D) := fun s => (f s).bind fun d s1 => (g s1).bind fun d2 s2 => match d, d2 with
  | .int i, .int j => if -(2 ^ 62) ≤ i ∧ i < 2 ^ 62 ∧ -(2 ^ 62) ≤ j ∧ j < 2 ^ 62 then .ok ((List.range (j - i).toNat).map fun k => .int (i + (k : Nat))) s2 else .st
  | _, _ => .st
end
end AG
set_option Elab.async false
set_option linter.all false
set_option maxRecDepth 100000
namespace AG
open PySem L2 PyProof.Rows
section
variable {G : Cfg} {E : Ent} {W : WX} {X : Cx} {F : Hp} {A : Adr} {σ : L2.St} {H : Hp} {s : S} {t a b : Expr} {st : Stmt} {f g : M D}
theorem i_str (k : PI X a b (iStr (TEof G W f))) : PI X a b (TIof G W (itStr f)) := by
  refine ⟨fun pins s σ H R I hw => ?_⟩
  obtain ⟨E, F, A, s0, Rl, P⟩ := hw
  refine k.run pins s σ H R I ⟨E, F, A, s0, Rl, PO.bind P fun d s1 F1 A1 H1 e1 g1 R1 P1 v hv => ?_⟩
  cases d with
  | str x =>
    refine ⟨x, hv.str, P1.ok_here R1 _ fun E' F' A' σ' H' s' e g R' => ?_⟩
    refine ⟨fun i hi => (show x.cps.size ≤ i by simpa using hi), fun i d hd => ?_⟩
    rw [List.getElem?_map] at hd
    cases q : x.cps.toList[i]? with
    | none => rw [q] at hd; cases hd
    | some c =>
      rw [q] at hd
      cases hd
      have q' : x.cps[i]? = some c := by rw [← Array.getElem?_toList]; exact q
      refine ⟨(show i < x.cps.size by
        have := (List.getElem?_eq_some_iff.mp q).1
        simpa using this), fun w H2 y => ?_⟩
      obtain ⟨rfl, c', h1, rfl⟩ := y
      rw [q'] at h1
      cases h1
      exact ⟨F', FLe.refl _, R', by simp [Rep]⟩
  | _ => exact P1.elim
theorem itr_ok (lo : Int) (n : Nat) {F1 : Hp} {A1 : Adr} : ItOk G F1 A1 (Itr lo n) ((List.range n).map fun k => .int (lo + (k : Nat))) := fun E' F' A' σ' H' s' e g R' => by
  refine ⟨fun i hi => (show n ≤ i by simpa using hi), fun i d hd => ?_⟩
  rw [List.getElem?_map] at hd
  cases q : (List.range n)[i]? with
  | none => rw [q] at hd; cases hd
  | some c =>
    rw [q] at hd
    cases hd
    have hl : i < n := by
      have := (List.getElem?_eq_some_iff.mp q).1
      simpa using this
    have ec : c = i := by
      rw [List.getElem?_range hl] at q
      exact (Option.some.inj q).symm
    subst ec
    refine ⟨hl, fun w H2 y => ?_⟩
    obtain ⟨rfl, rfl⟩ := y
    exact ⟨F', FLe.refl _, R', by simp [Rep]⟩
theorem i_rng (k : PI X a b (iRng1 (tCons (TEof G W f) tNil))) : PI X a b (TIof G W (itRng f)) := by
  refine ⟨fun pins s σ H R I hw => ?_⟩
  obtain ⟨E, F, A, s0, Rl, P⟩ := hw
  refine k.run pins s σ H R I ⟨E, F, A, s0, Rl, PO.bind P fun d s1 F1 A1 H1 e1 g1 R1 P1 v hv => ?_⟩
  cases d with
  | int j =>
    by_cases q : -(2 ^ 62) ≤ j ∧ j < 2 ^ 62
    · simp only [if_pos q] at P1
      refine ⟨j, by rw [hv.int], q.1, q.2, P1.ok_here R1 _ ?_⟩
      have h := itr_ok (G := G) 0 j.toNat (F1 := F1) (A1 := A1)
      simpa using h
    · simp only [if_neg q] at P1
      exact P1.elim
  | _ => exact P1.elim
def tyN : D → Option String
  | .non => some "NoneType"
  | .bl _ => some "bool"
  | .int _ => some "int"
  | .str _ => some "str"
  | .tup _ => some "tuple"
  | .lst _ => some "list"
  | .dct _ _ => some "dict"
  | _ => none
def isiD (T : String) (s : S) (x : D) : Option D := match tyN (vw s x) with
  | some n => (kitB n T).map .bl
  | none => none
def TyG (K : PySem.W.Frag) (H : Hp) (x : V) (t : Value) : Prop := TyX K H x t ∨ (∃ a o kvs, x = .ref a ∧ H a = some (.frz o (.dT kvs)) ∧ t = .type "dict")
theorem ty_view (R : Rel G E F A σ H s) {d : D} {v : V} {n : String} (h : VOk G σ F A d v) (q : tyN (vw s d) = some n) : TyG G.K H v (.type n) := by
  cases qv : vw s d with
  | non =>
    rw [qv] at q; cases q
    cases d with
    | non => rw [h.non]; exact .inl (.base .non)
    | loc i => simp only [vw] at qv; split at qv
               · rename_i m _; cases m <;> cases qv
               · cases qv
    | hnd i => simp only [vw] at qv; split at qv
               · rename_i m _; cases m <;> cases qv
               · cases qv
    | _ => cases qv
  | bl b => rw [qv] at q; cases q; rw [h.bl' qv]; exact .inl (.base (.bl b))
  | int i => rw [qv] at q; cases q; rw [h.int' qv]; exact .inl (.base (.int i))
  | str x => rw [qv] at q; cases q; rw [h.str' qv]; exact .inl (.base (.str x))
  | tup l =>
    rw [qv] at q; cases q
    obtain ⟨a, vs, rfl, _, h2, _⟩ := tup_view R h qv
    exact .inl (.base (.tup h2))
  | lst l =>
    rw [qv] at q; cases q
    obtain ⟨a, vs, rfl, h2, _⟩ := lst_view R h qv
    exact .inl (.base (.lst h2))
  | dct t l =>
    rw [qv] at q; cases q
    obtain ⟨a, vs, o, rfl, _, ho, hd⟩ := dct_view R h qv
    cases t with
    | false =>
      obtain ⟨ks, rfl, _⟩ := hd
      rcases ho with ho | ⟨od, ho⟩
      · exact .inl (.base (.dK ho))
      · exact .inl (.fDict ho)
    | true =>
      obtain ⟨ks, rfl, _⟩ := hd
      rcases ho with ho | ⟨od, ho⟩
      · exact .inl (.base (.dT ho))
      · exact .inr ⟨a, od, _, rfl, ho, rfl⟩
  | _ => rw [qv] at q; cases q
def rIsiG (K : PySem.W.Frag) : List V → Hp → VK → Prop := fun xs H Q => ∃ (x c : V) (t u : Value) (b : Bool), xs = [x, c] ∧ ClsV c u ∧ TyG K H x t ∧ PySem.W.kitOne K t u = some b ∧ Q (.bl b) H
theorem cr_isi : CallR X (.builtin "isinstance") (rIsiG X.K) := by
  intro pins s σ H xs us Q I r h
  obtain ⟨x, c, t, u, b, rfl, k, ty, e, q⟩ := h
  rcases ty with ty | ⟨a, o, kvs, rfl, ea, rfl⟩
  · exact call_isi pins s σ H _ us Q I r ⟨x, c, t, u, b, rfl, k, ty, e, q⟩
  · obtain ⟨u1, u2, rfl, r1, r2⟩ := vals2 r
    have e2 := k.eq r2
    subst e2
    cases (show u1 = Value.ref a from r1)
    obtain ⟨_, _, _, xs, _, o2, es, ep, h1, h2, _⟩ := (show ObjOk X.prog X.w H s.heap a (.frz o (.dT kvs)) from I.hok a _ ea)
    exact PySem.W.kia_one PySem.W.kitx_dict I.kIn ⟨o2, h1, h2.1⟩ e (fun z => nomatch z) fun tk => ⟨.bl b, H, I.tok tk, rfl, q⟩
def isiS (T : String) (f : M D) : M D := unS (isiD T) f
theorem x_isi {T : String} (hK : X.K = G.K) (k : PE X t (tCB (rIsiG X.K) (tCons (TEof G W f) (tCons (tC (.ty T)) tNil)))) : PE X t (TEof G W (isiS T f)) := by
  refine PEimp k fun σ H Q ⟨E, F, A, s, R, P⟩ => ⟨E, F, A, s, R, PO.bind P fun x s1 F1 A1 H1 e1 g1 R1 P1 u hu => ?_⟩
  cases q : isiD T s1 x with
  | none => simp only [q] at P1; exact P1.elim
  | some d =>
    simp only [q] at P1
    unfold isiD at q
    cases qn : tyN (vw s1 x) with
    | none => rw [qn] at q; cases q
    | some n =>
      rw [qn] at q
      simp only [Option.map_eq_some_iff] at q
      obtain ⟨b, h1, rfl⟩ := q
      exact ⟨u, .ty T, .type n, .type T, b, rfl, .ty T, by rw [hK]; exact ty_view R1 hu qn, kit_ty h1, P1.ok_here R1 _ vok_bl⟩
def strsOf : List D → Option (List Str)
  | [] => some []
  | .str b :: r => (strsOf r).map (b :: ·)
  | _ => none
theorem strsOf_map : ∀ {l : List D} {bs : List Str}, strsOf l = some bs → l = bs.map D.str
  | [], bs, h => by
    simp only [strsOf, Option.some.injEq] at h
    subst h
    rfl
  | d :: r, bs, h => by
    cases d with
    | str b =>
      simp only [strsOf, Option.map_eq_some_iff] at h
      obtain ⟨bs', h1, rfl⟩ := h
      rw [strsOf_map h1]
      rfl
    | _ => simp [strsOf] at h
def seqO : D → Option (List D)
  | .lst l => some l
  | .tup l => some l
  | _ => none
def m1S (op : S → Str → D → Option D) (f g : M D) : M D := fun s => (f s).bind fun x s1 => match x with
  | .str a => (g s1).bind fun y s2 => (match op s2 a y with
    | some d => .ok d s2
    | none => .st)
  | _ => .st
def joinD (s : S) (a : Str) (y : D) : Option D := match seqO (vw s y) with
  | some l => (match strsOf l with
    | some ys => if (ys.map (·.length)).sum + ys.length * a.length ≤ LIM then some (.str (Txt.join a ys)) else none
    | none => none)
  | _ => none
theorem seq_view (R : Rel G E F A σ H s) {d : D} {v : V} {l : List D} (h : VOk G σ F A d v) (q : seqO (vw s d) = some l) : ∃ a vs, v = .ref a ∧ (SqL G.K H a vs ∨ SqT G.K H a vs) ∧ RepL G F A l vs := by
  cases qv : vw s d with
  | lst l' =>
    rw [qv] at q; cases q
    obtain ⟨a, vs, rfl, h2, r⟩ := lst_view R h qv
    exact ⟨a, vs, rfl, .inl (.of h2), r⟩
  | tup l' =>
    rw [qv] at q; cases q
    obtain ⟨a, vs, rfl, _, h2, r⟩ := tup_view R h qv
    exact ⟨a, vs, rfl, .inr (.of h2), r⟩
  | _ => rw [qv] at q; cases q
end
end AG
set_option Elab.async false
set_option linter.all false
set_option maxRecDepth 100000
namespace AG
open PySem L2 PySem.Spec PyProof.Rows LamX
structure FnG (P : Program) (w : World) (K : PySem.W.Frag) (mg : Str → Option Value) (base : Heap) (CX : CXT) (k : Nat) (f : Addr) (ps : List Str) (fd : FuncData) (sp : Sp) : Prop where
  size : ∀ vs H Q E, sp vs H Q E → vs.length = ps.length
  keeps : ∀ (A : Around) (outer : List Env) (s : Shared) (H : Hp) (args : Args) (us : List Value) (vs : List V) (Q : VK) (E : XK), Room k A ∧ A.guards = some [] → Env0 P w K mg base A outer s H → BindsTo s fd args (ps.zip us) → Vals vs us → sp vs H Q E →
    codeAny (model P w) A (.call (.ref f) args) (CR CX outer P w H s Q E) s
section
variable {P : Program} {w : World} {K : PySem.W.Frag} {mg : Str → Option Value} {base : Heap}
theorem g_of {CX : CXT} {x qual : Str} {params : Arguments} {body : List Stmt} {scope : Scope} {dvs : List V} {kws : List (Str × V)} {f : Addr} {fd : FuncData} {N ps : List Str} {k : Nat} {sp : Sp} (F : FunD K x qual params body scope dvs kws f fd) (S : FnScope N ps scope) (len : ∀ vs H Q E, sp vs H Q E → vs.length = ps.length)
    (hb : ∀ (cdv : Value) (A : Around) (outer : List Env) (s : Shared) (H : Hp) (vs : List V) (Q : VK) (E : XK), (∃ oc od fd' osl, K.lookup f = some ⟨oc, od, .func fd', osl⟩ ∧ fd'.code = cdv ∧ PySem.W.codeIn K cdv qual = true) → Room k (A.deeper (envOfC qual scope s.heap.objs.size f cdv)) → A.guards = some [] → sp vs H Q E →
      ∃ t, PSs (cxOf CX P w K mg base N qual scope f cdv A outer s H E) body t ∧ t { nx := fun _ H' => Q .non H', rt := Q } (L2.start N vs) H) : FnG P w K mg base CX (k + 1) f ps fd sp := by
  obtain ⟨oc, od, dV, kV, doc, pm, an, cdv, ct, osl, rfl, lk, hcd, _, _⟩ := F.ex
  exact ⟨len, fun A outer s H args us vs Q E hr e0 hbd r hsp => run_ofS lk hcd S hr.1 e0 hbd r (len _ _ _ _ hsp) fun hr2 => hb cdv A outer s H vs Q E ⟨_, _, _, _, lk, rfl, hcd⟩ hr2 hr.2 hsp⟩
end
section
variable {X : Cx} {W : WX} {k : Nat} {f : Addr} {fd : FuncData} {ps : List Str} {sp : Sp} {x : Str} {p pos : Pos} {e : Expr} {es : List Expr} {t : TA}
theorem after_g {pins : List (Addr × Obj)} {σ : L2.St} {H : Hp} {s : Shared} {Q : VK} (tk : Takes X W) (I : Inv X pins σ H s) (r : Result) (s' : Shared) (h : CR (L2.CX X.prog X.w) X.stack X.prog X.w H s Q (WE W σ) r s') :
    (match r with | .ok (.ret u) => EP X pins σ Q u s' | .ok _ => False | .error e => X.xe e s') := by
  rcases r with er | fl
  · exact passAt tk σ pins H s er s' I h
  · cases fl with
    | ret u => exact I.after h
    | _ => exact h
theorem pe_fnG (F : FnG X.prog X.w X.K X.mg X.base (L2.CX X.prog X.w) k f ps fd sp) (hr : Room k X.A ∧ X.A.guards = some []) (hg : Gl X x) (hm : X.mg x = some (.ref f)) (hk : PySem.W.keepIn X.K (.ref f) = true) (hb : L2.Binds X.K fd ps []) (tk : Takes X W)
    (ha : PA X (e :: es) t) (hdb : (x == ("__debug__" : Str)) = false := by decide) (he : starEach (e :: es) X.env = (false, eval e X.env) :: starEach es X.env := by rfl) (hpl : (backTo pos (starEach es X.env)).any (·.1) = false := by rfl) :
    PE X (.Call (.Name x p) (e :: es) [] pos) (tCallS sp (WE W) t) where
  run pins s σ H Q I h := by
    refine wpAny_Call_Name_kw (ld_glob I hg hm (PySem.W.callWith_K (h₀ := X.base) I.ok.mod.kin hk (thn (ha.run pos pins s σ H _ I h) ?_) he hpl) hdb)
    rintro us s1 ⟨vs, H1, I1, r, q⟩
    refine ⟨I1.kIn, wpAny_call (codeAny_mono (F.keeps X.A X.stack s1 H1 ⟨us, []⟩ us vs Q (WE W σ) hr I1.env0 ?_ r q) fun rr s' z => ?_)⟩
    · have hl : us.length = ps.length := r.length ▸ F.size _ _ _ _ q
      simpa using hb s1 us I1.kIn (by simpa using hl)
    · have := after_g tk I1 rr s' z
      rcases rr with er | fl
      · exact this
      · cases fl with
        | ret u => exact this
        | _ => exact this.elim
end
def hp0 (tabs : List Addr) (a : Addr) (o : HO) (own : Bool) : Hp := fun b => if b ∈ tabs then some (.tbl #[]) else if own = true ∧ b = a then some o else none
theorem hp0_tab {tabs : List Addr} {a b : Addr} {o : HO} {own : Bool} (h : b ∈ tabs) : hp0 tabs a o own b = some (.tbl #[]) := if_pos h
theorem hp0_inv {tabs : List Addr} {a b : Addr} {o u : HO} {own : Bool} (h : hp0 tabs a o own b = some u) : (b ∈ tabs ∧ u = .tbl #[]) ∨ (b ∉ tabs ∧ own = true ∧ b = a ∧ u = o) := by
  unfold hp0 at h
  by_cases q : b ∈ tabs
  · rw [if_pos q] at h
    exact .inl ⟨q, (Option.some.inj h).symm⟩
  · rw [if_neg q] at h
    by_cases q2 : own = true ∧ b = a
    · rw [if_pos q2] at h
      exact .inr ⟨q, q2.1, q2.2, (Option.some.inj h).symm⟩
    · rw [if_neg q2] at h
      cases h
section
variable {P : Program} {w : World} {K : PySem.W.Frag} {mg mb : Str → Option Value} {CX : CXT} {k : Nat} {fa a : Addr} {cs : List (Addr × Addr)} {fd : FuncData} {x : Str} {sp : Sp} {s₁ : Shared} {vs : List Value} {ns : List Int}
theorem law_g (inK : K.In s₁.heap) (names : s₁.heap.Ns mainGlobals mg) (blt : s₁.heap.Ns builtinsNs mb) (boot : ∀ x : Str, x ≠ "__name__" → mb x = bootBuiltins x) (lim : s₁.heap.NoLimit) (gens : s₁.gens = #[])
    (tab : ∀ p ∈ cs, s₁.heap.get? p.2 = some { cls := .none, data := .fields #[] }) (tabK : ∀ p ∈ cs, K.lookup p.2 = none) (code : ∀ p ∈ cs, PySem.W.CodeHd s₁.heap p.1 p.2)
    (bm : ∃ (bm : Addr) (ob : Obj), mg "__builtins__" = some (.ref bm) ∧ bm ≠ builtinsNs ∧ s₁.heap.get? bm = some ob ∧ ob.cls = .type "module" ∧ ob.dict = some builtinsNs ∧ ob.data = .plain)
    (script : s₁.heap.get? a = some { cls := .type "list", data := .seq vs.toArray }) (nums : IntsAre vs ns) (few : ns.length ≤ sizeLine) (room : Room k callerA)
    (F : ∀ base : Heap, K.In base → base.Ns mainGlobals mg → (∀ p ∈ cs, TabB base mg p.1 p.2) → FnG P w K mg base CX k fa [x] fd sp) (bind : ∀ (s : Shared) (u : Value), BindsTo s fd ⟨[u], []⟩ [(x, u)])
    (says : ∀ H : Hp, (∀ p ∈ cs, H p.2 = some (.tbl #[])) → SqL K H a (ns.map V.int) → (∀ b u, H b = some u → (∃ p ∈ cs, p.2 = b) ∨ b = a) → sp [.ref a] H (fun v _ => v = .bl true) fun _ _ _ => False)
    (noX : ∀ H e s', CX [] H s₁ (fun _ _ _ => False) e s' → False) :
    codeAny (model P w) callerA (.call (.ref fa) ⟨[.ref a], []⟩) (fun r s' => r = .ok (.ret (.bool true)) ∧ OldK s₁.heap s'.heap ∧ s'.os = s₁.os ∧ AllBare s'.gens) s₁ := by
  let so : Obj := { cls := .type "list", data := .seq vs.toArray }
  let own : Bool := (K.lookup a).isNone
  let tabs : List Addr := cs.map (·.2)
  let H₀ : Hp := hp0 tabs a (.frz so (.lst (ns.map V.int))) own
  have mem : ∀ p ∈ cs, p.2 ∈ tabs := fun p hp => List.mem_map_of_mem hp
  have tabO : ∀ b ∈ tabs, s₁.heap.get? b = some { cls := .none, data := .fields #[] } := fun b hb => by
    obtain ⟨p, hp, rfl⟩ := List.mem_map.mp hb
    exact tab p hp
  have fieldsNe : ∀ (vs : Array Value) (n : Nat), Data.seq vs n ≠ Data.fields #[] := fun _ _ z => nomatch z
  have aNot : a ∉ tabs := fun z => fieldsNe _ _ (congrArg Obj.data (Option.some.inj (script.symm.trans (tabO a z))))
  -- what is no list and no table is not told
  have untold : ∀ {b : Addr} {ob : Obj}, s₁.heap.get? b = some ob → (∀ us n, ob.data ≠ .seq us n) → ob.data ≠ .fields #[] → H₀ b = none := fun {b ob} e d1 d2 => by
    cases q : H₀ b with
    | none => rfl
    | some u =>
      rcases hp0_inv q with ⟨z, _⟩ | ⟨_, _, rfl, _⟩
      · rw [tabO b z] at e
        cases e
        exact absurd rfl d2
      · rw [script] at e
        cases e
        exact absurd rfl (d1 _ _)
  have dicts : ∀ {b : Addr} {m : Str → Option Value}, s₁.heap.Ns b m → (hidT s₁.heap H₀).Ns b m := fun {b m} ⟨ob, es, ep, e, d, r⟩ =>
    ⟨ob, es, ep, hidT_get e (untold e (fun us n z => nomatch d.symm.trans z) fun z => nomatch d.symm.trans z), d, r⟩
  have inB : K.In (hidT s₁.heap H₀) := fun b ob e => hidT_get (inK b ob e) (by
    cases q : H₀ b with
    | none => rfl
    | some u =>
      rcases hp0_inv q with ⟨z, _⟩ | ⟨_, z, rfl, _⟩
      · obtain ⟨p, hp, rfl⟩ := List.mem_map.mp z
        rw [tabK p hp] at e
        cases e
      · have z' : (K.lookup b).isNone = true := z
        rw [e] at z'
        cases z')
  have held : HOk P w H₀ s₁.heap := fun b u q => by
    rcases hp0_inv q with ⟨z, rfl⟩ | ⟨_, _, rfl, rfl⟩
    · exact tabO b z
    · exact ⟨script, by simpa using few, vs, _, vals_ints nums, script⟩
  have sq : SqL K H₀ a (ns.map V.int) := by
    cases q : K.lookup a with
    | none => exact .inl (.inr ⟨so, (if_neg aNot).trans (if_pos ⟨by show (K.lookup a).isNone = true; rw [q]; rfl, rfl⟩)⟩)
    | some ob =>
      have e := (inK a ob q).symm.trans script
      cases e
      exact .inr ⟨_, vs.toArray, _, q, rfl, rfl, rfl, by simpa [nums.length] using few, by simpa using vals_ints nums⟩
  have tb : ∀ p ∈ cs, TabB (hidT s₁.heap H₀) mg p.1 p.2 := fun p hp => by
    obtain ⟨m, ob, b1, b2, b3, b4, b5, b6⟩ := bm
    have mG : m ≠ mainGlobals := fun z => by
      obtain ⟨o2, es, ep, e, d, _⟩ := names
      rw [← z, b3] at e
      cases e
      exact nomatch b6.symm.trans d
    have mP : m ≠ p.2 := fun z => by
      rw [z, tab p hp] at b3
      cases b3
      cases b6
    obtain ⟨oc, us, file, tf, flags, tg, inF, text, tt, c1, c2, c3, c4, rest⟩ := code p hp
    refine ⟨⟨oc, us, file, tf, flags, tg, inF, text, tt, hidT_get c1 (untold c1 (fun _ _ z => nomatch c3.symm.trans z) fun z => ?_), c2, c3, c4, rest⟩, ⟨m, ob, b1, b2, mG, mP, hidT_get b3 (untold b3 (fun _ _ z => nomatch b6.symm.trans z) fun z => nomatch b6.symm.trans z), b4, b5, b6⟩, fun z => ?_⟩
    · have z' := c3.symm.trans z
      cases z'
      simp at c4
    · obtain ⟨o2, es, ep, e, d, _⟩ := names
      rw [z, tab p hp] at e
      cases e
      cases d
  have base0 : Env0 P w K mg (hidT s₁.heap H₀) callerA [] s₁ H₀ := { frames := rfl, mod := ⟨inB, dicts names, ⟨mb, dicts blt, boot⟩, by obtain ⟨mc, l1, l2⟩ := lim; exact ⟨mc, dicts l1, l2⟩⟩, bs := fun b ob e => of_hidT e, bsz := Nat.le_of_eq (hidT_size _ _), funs := trivial, frf := fun b hb => absurd hb List.not_mem_nil, hok := held, bare := .of_eq gens }
  refine codeAny_mono ((F _ inB (dicts names) tb).keeps callerA [] s₁ H₀ _ [.ref a] [.ref a] _ _ ⟨room, rfl⟩ base0 (bind s₁ (.ref a)) (.cons rfl .nil) (says H₀ (fun p hp => hp0_tab (mem p hp)) sq fun b u q => ?_)) fun r s' z => ?_
  · rcases hp0_inv q with ⟨z, _⟩ | ⟨_, _, rfl, _⟩
    · obtain ⟨p, hp, e⟩ := List.mem_map.mp z
      exact .inl ⟨p, hp, e⟩
    · exact .inr rfl
  rcases r with er | fl
  · exact (noX H₀ er s' z).elim
  cases fl with
  | ret u =>
    obtain ⟨v, H', os, bare, un, held', r1, q⟩ := z
    subst q
    obtain rfl : u = Value.bool true := r1
    have grown : ∀ b ∈ tabs, ∃ more : Array Value, s'.heap.get? b = some { cls := .none, data := .fields more } := fun b hb => by
      obtain ⟨more, z⟩ := un.tbls b #[] (hp0_tab hb)
      exact ⟨_, held' b _ z⟩
    have rest : ∀ b ob, b ∉ tabs → s₁.heap.get? b = some ob → s'.heap.get? b = some ob := fun b ob nb e => by
      cases q : H₀ b with
      | none => exact un.keep b ob e q List.not_mem_nil List.not_mem_nil
      | some u =>
        rcases hp0_inv q with ⟨z, _⟩ | ⟨_, _, rfl, rfl⟩
        · exact absurd z nb
        · have z := held' b _ (un.frzs b so _ q)
          rw [script] at e
          cases e
          exact z.1
    refine ⟨rfl, ⟨fun b ob e => ?_, fun b ob e => ?_⟩, os, bare⟩
    · by_cases hb : b ∈ tabs
      · obtain ⟨p, hp, rfl⟩ := List.mem_map.mp hb
        obtain ⟨more, hm⟩ := grown _ hb
        rw [tab p hp] at e
        cases e
        exact .inr (.inl ⟨((code p hp).tab (tab p hp)).isCodeTable, rfl, #[], more, rfl, by simpa using hm⟩)
      · exact .inl (rest b ob hb e)
    · by_cases hb : b ∈ tabs
      · obtain ⟨more, hm⟩ := grown b hb
        exact ⟨_, hm⟩
      · exact ⟨ob, rest b ob hb e⟩
  | _ => exact False.elim z
end
def AtEnd (l : PySem.W.OpenLaw) (w : World) (CX : CXT) (k n : Nat) (x : Str) (mg : Str → Option Value) (fa : Addr) (h : Heap) : Prop :=
  ∃ (K : PySem.W.Frag) (fd : FuncData) (cs : List (Addr × Addr)) (sp : Sp), K.In h ∧ (∀ p ∈ cs, h.get? p.2 = some { cls := .none, data := .fields #[] }) ∧ (∀ p ∈ cs, K.lookup p.2 = none) ∧ (∀ p ∈ cs, PySem.W.CodeHd h p.1 p.2) ∧ (∀ (s : Shared) (u : Value), BindsTo s fd ⟨[u], []⟩ [(x, u)]) ∧
    (∀ (H : Hp) (a : Addr) (ns : List Int), ns.length ≤ n → (∀ z ∈ ns, Builtin.Int.intBits z ≤ 1048576) → (∀ p ∈ cs, H p.2 = some (.tbl #[])) → SqL K H a (ns.map V.int) → (∀ b u, H b = some u → (∃ p ∈ cs, p.2 = b) ∨ b = a) → sp [.ref a] H (fun v _ => v = .bl true) fun _ _ _ => False) ∧
    ∀ base : Heap, K.In base → base.Ns mainGlobals mg → (∀ p ∈ cs, TabB base mg p.1 p.2) → FnG l.prog w K mg base CX k fa [x] fd sp
theorem walk_g {l : PySem.W.OpenLaw} {n k : Nat} {q : Program} {loose : List Str} {XP : (Str → Option Value) → Heap → Prop} {YP : World → Heap → Prop} {d : DefRec} {CX : World → CXT} {x : Str}
    (hn : l.most = some n) (hn2 : n ≤ sizeLine) (hdf : d.params.defaults = []) (hr : Room k callerA)
    (F : ∀ (w : World) (mg : Str → Option Value) (fa : Addr) (h : Heap), YP w h → h.Ns mainGlobals mg → mg d.name = some (.ref fa) → AtEnd l w (CX w) k n x mg fa h)
    (noX : ∀ (w : World) (H : Hp) (s : Shared) (e : Value) (s' : Shared), CX w [] H s (fun _ _ _ => False) e s' → False) :
    PySem.W.WalkO q loose XP YP l.row.toRowW d [] (fun f vs => PySem.call f vs) := by
  refine Att.attach_callB hn hdf fun w s₀ s₁ mg mb fa o pm cd doc a vs ns G Y ho hd hcd hmg hobj hints hlen hbits hg => ?_
  obtain ⟨K, fd, cs, sp, e1, e2, e3, e4, e5, e6, e7⟩ := F w mg fa s₁.heap Y G.T.g hmg
  exact law_g e1 G.T.g G.T.b G.T.builtins G.T.nolimit hg e2 e3 e4 G.T.bmain hobj hints (Nat.le_trans hlen hn2) hr e7 e5 (fun H hH hS hO => e6 H a ns hlen hbits hH hS hO) fun H e s' => noX w H s₁ e s'
end AG
set_option Elab.async false
set_option linter.all false
set_option maxRecDepth 100000
namespace AG
open PySem L2 PySem.Spec PyProof.Rows
structure Tx (fa : List He.Fa) (fn : List He.DefD) (G : Cfg) (mg : Str → Option Value) : Prop where
  says : He.SaysD fa fn G.K
  at_ : ∃ h : Heap, G.K.In h ∧ h.Ns mainGlobals mg
section
variable {fa : List He.Fa} {fn : List He.DefD} {G : Cfg} {mg : Str → Option Value}
theorem Tx.free (T : Tx fa fn G mg) (i : Nat) {x : Str} (h : fa[i]? = some (.free x) := by rfl) : mg x = none := by
  obtain ⟨hp, k, n⟩ := T.at_
  exact He.free_ok k n (T.says.fact i h)
theorem Tx.glo (T : Tx fa fn G mg) (i : Nat) {x : Str} (h : fa[i]? = some (.glo x) := by rfl) : mg x = some (.ref (He.ga G.K x)) := by
  obtain ⟨hp, k, n⟩ := T.at_
  exact He.glo_ok k n (T.says.fact i h)
theorem Tx.int (T : Tx fa fn G mg) (i : Nat) {x : Str} {j : Int} (h : fa[i]? = some (.int x j) := by rfl) : ∃ t, mg x = some (.int j t) := by
  obtain ⟨hp, k, n⟩ := T.at_
  exact He.int_ok k n (T.says.fact i h)
theorem Tx.str (T : Tx fa fn G mg) (i : Nat) {x y : Str} (h : fa[i]? = some (.str x y) := by rfl) : ∃ t, mg x = some (.str y t) := by
  obtain ⟨hp, k, n⟩ := T.at_
  exact He.str_ok k n (T.says.fact i h)
theorem Tx.exc (T : Tx fa fn G mg) (i : Nat) {x : Str} (h : fa[i]? = some (.exc x) := by rfl) : PySem.W.excIn G.K (He.ga G.K x) He.veBase "ValueError.__new__" = true ∧ PySem.W.keepIn G.K (.ref (He.ga G.K x)) = true ∧
    PySem.W.subIn G.K (.ref (He.ga G.K x)) (.type "BaseException") = some true ∧ PySem.W.typeIn G.K (.ref (He.ga G.K x)) = some (.type "type") := He.exc_ok (T.says.fact i h)
structure FnJ (P : Program) (w : World) (G : Cfg) (mg : Str → Option Value) (base : Heap) (k : Nat) (q : Str × Option Str) (call : List D → List MO → R) : Prop where
  ex : ∃ (fd : FuncData) (ps : List Str), PySem.W.keepIn G.K (.ref (He.fAd G.K q)) = true ∧ L2.Binds G.K fd ps [] ∧ FnG P w G.K mg base (L2.CX P w) k (He.fAd G.K q) ps fd (spOf G call) ∧
    (∃ oc od osl, G.K.lookup (He.fAd G.K q) = some ⟨oc, od, .func fd, osl⟩) ∧ ∀ us : List Value, us.length = ps.length → bindArgs fd ⟨us, []⟩ = pure (ps.zip us)
abbrev Calls : Type := Nat → List D → List MO → R
def Tab (P : Program) (w : World) (G : Cfg) (mg : Str → Option Value) (base : Heap) (fn : List He.DefD) (k : Nat) (C : Calls) : Prop := ∀ j d, fn[j]? = some d → FnJ P w G mg base k d.at_ (C j)
def callK (body : Calls → Calls) : Nat → Calls
  | 0 => fun _ _ _ => .st
  | k + 1 => body (callK body k)
structure Def1 (P : Program) (w : World) (G : Cfg) (mg : Str → Option Value) (base : Heap) (fn : List He.DefD) (d : He.DefD) (n : List Str) (a : Nat) (bf : Calls → M Fl) : Prop where
  fun_ : ∃ fd, FunD G.K d.name d.qual d.params d.body d.scope (d.dvs G.K) (d.kws G.K) (He.fAd G.K d.at_) fd
  dfl : d.dvs G.K = []
  sc : FnScope n (n.take a) d.scope
  ale : a ≤ n.length
  bnd : ∀ (kV doc pm : Value) (an : Option Addr) (cdv ct : Value) (us : List Value), us.length = (n.take a).length → bindArgs (PySem.W.fnOf d.name d.qual d.params d.body d.scope .none kV doc pm an cdv ct) ⟨us, []⟩ = pure ((n.take a).zip us)
  bod : ∀ (k : Nat) (C : Calls) (cdv : Value) (A : Around) (outer : List Env) (s : Shared) (H : Hp) (E : XK), cdv = .ref (He.codeOf G.K d.at_) → Tab P w G mg base fn k C → Room (k + 3) (A.deeper (envOfC d.qual d.scope s.heap.objs.size (He.fAd G.K d.at_) cdv)) ∧ A.guards = some [] →
    PSs (cxOf (L2.CX P w) P w G.K mg base n d.qual d.scope (He.fAd G.K d.at_) cdv A outer s H E) d.body (TSof G (fun cls dd _ H => E cls dd H) (bf C))
theorem lo3 {k : Nat} {A : Around} {g : Prop} (h : Room (k + 3) A ∧ g) : Room (k + 1) A ∧ g := ⟨h.1.mono (by omega), h.2⟩
abbrev TOf (K : PySem.W.Frag) (tf : List He.DefD) : List (Addr × Str) := tf.map fun d => ((He.cT K d.at_).2, (d.qual ++ ".<locals>.") ++ "<lambda>")
def clsB (K : PySem.W.Frag) (C : Addr) : Bool :=
  (He.eqO (PySem.W.findIn K (.ref C) "__ne__") (some (some (.builtin "object.__ne__"))) && decide (PySem.W.mroIn K C (.type "object") = some true)) && (PySem.W.selfFirst K C &&
  ((He.eqO (PySem.W.findIn K (.ref C) "__class__") (some (some (.builtin "object.__class__"))) && (He.eqO (PySem.W.specialIn K (.builtin "object.__class__") "__get__") (some (some (.builtin "getset_descriptor.__get__"))) && (decide (PySem.W.takesIn K (.builtin "object.__class__") = some true) && decide (PySem.W.kitOne K (.ref C) (.ref C) = some true)))) &&
  ["NoneType", "bool", "int", "str", "tuple", "list", "dict"].all fun n => decide (PySem.W.kitOne K (.type n) (.ref C) = some false) && decide (PySem.W.kitOne K (.ref C) (.type n) = some false)))
def excN : List Str := ["NoCondition", "NoRun", "NoTree", "NoWatcher", "NotRight", "NotPlain", "NoGame", "NoPlan", "NoText", "NoClause", "TooMany"]
def excB (K : PySem.W.Frag) (exs : List Str) (x : Str) : Bool :=
  (He.eqO (PySem.W.findIn K (.ref (He.ga K x)) "__getattribute__") (some (some (.builtin "BaseException.__getattribute__"))) && (He.eqO (PySem.W.findIn K (.ref (He.ga K x)) "__getattr__") (some none) &&
  (decide (PySem.W.subIn K (.ref (He.ga K x)) (.type "BaseException") = some true) && (PySem.W.hasDictIn K (He.ga K x) && (He.eqO (PySem.W.findIn K (.ref (He.ga K x)) "__class__") (some (some (.builtin "object.__class__"))) &&
  (He.eqO (PySem.W.specialIn K (.builtin "object.__class__") "__get__") (some (some (.builtin "getset_descriptor.__get__"))) && (decide (PySem.W.takesIn K (.builtin "object.__class__") = some true) && decide (PySem.W.mroIn K (He.ga K x) (.type "object") = some true)))))))) &&
  ((exs.all fun y => !excN.contains y || decide (PySem.W.kitOne K (.ref (He.ga K x)) (.ref (He.ga K y)) = some (decide (x = y)))) && (decide (PySem.W.exmOne K (.ref (He.ga K x)) (.ref (He.ga K "AgainError")) = some true) && decide (PySem.W.kitOne K (.ref (He.ga K x)) (.type "ValueError") = some true)))
def exB (K : PySem.W.Frag) (exs : List Str) (x : Str) : Bool := if excN.contains x then excB K exs x else clsB K (He.ga K x)
structure Tl (tf : List He.DefD) (exs : List Str) (G : Cfg) (mg : Str → Option Value) (base : Heap) : Prop where
  tb : ∀ d ∈ tf, LamX.TabB base mg (He.cT G.K d.at_).1 (He.cT G.K d.at_).2
  nd : (tf.map fun d => (He.cT G.K d.at_).2).Nodup
  eq : G.T = TOf G.K tf
  ex0 : ∀ x ∈ exs, exB G.K exs x = true
theorem Tl.ex {tf : List He.DefD} {exs : List Str} {base : Heap} (L : Tl tf exs G mg base) (x : Str) (h : x ∈ exs) (hn : excN.contains x = false := by decide) : clsB G.K (He.ga G.K x) = true := by
  have := L.ex0 x h
  unfold exB at this
  rw [hn] at this
  simpa using this
theorem Tl.exc {tf : List He.DefD} {exs : List Str} {base : Heap} (L : Tl tf exs G mg base) (x : Str) (h : x ∈ exs) (hn : excN.contains x = true) : excB G.K exs x = true := by
  have := L.ex0 x h
  unfold exB at this
  rw [hn] at this
  simpa using this
theorem Tl.one {tf : List He.DefD} {exs : List Str} {base : Heap} (L : Tl tf exs G mg base) {d : He.DefD} (hd : d ∈ tf) : LamX.TabB base mg (He.cT G.K d.at_).1 (He.cT G.K d.at_).2 ∧ ((He.cT G.K d.at_).2, (d.qual ++ ".<locals>.") ++ "<lambda>") ∈ G.T ∧ ∀ p ∈ G.T, p.1 = (He.cT G.K d.at_).2 → p.2 = (d.qual ++ ".<locals>.") ++ "<lambda>" := by
  refine ⟨L.tb d hd, ?_, fun p hp e => ?_⟩
  · rw [L.eq]
    exact List.mem_map_of_mem hd
  · rw [L.eq] at hp
    obtain ⟨d2, h2, rfl⟩ := List.mem_map.mp hp
    have key : ∀ (l : List He.DefD), (l.map fun d => (He.cT G.K d.at_).2).Nodup → d ∈ l → d2 ∈ l → (He.cT G.K d2.at_).2 = (He.cT G.K d.at_).2 → d2 = d := by
      intro l
      induction l with
      | nil => intro _ h; cases h
      | cons x l ih =>
        intro hn h1 h3 e
        rw [List.map_cons, List.nodup_cons] at hn
        rcases List.mem_cons.mp h1 with rfl | k1
        · rcases List.mem_cons.mp h3 with rfl | k3
          · rfl
          · exact absurd (List.mem_map.mpr ⟨d2, k3, e⟩ : (He.cT G.K d.at_).2 ∈ l.map fun d => (He.cT G.K d.at_).2) hn.1
        · rcases List.mem_cons.mp h3 with rfl | k3
          · exact absurd (List.mem_map.mpr ⟨d, k1, e.symm⟩ : (He.cT G.K d2.at_).2 ∈ l.map fun d => (He.cT G.K d.at_).2) hn.1
          · exact ih hn.2 k1 k3 e
    rw [key tf L.nd hd h2 e]
theorem code_is {K : PySem.W.Frag} {p : Str × Option Str} {cdv : Value} {q : Str} (h : ∃ oc od fd' osl, K.lookup (He.fAd K p) = some ⟨oc, od, .func fd', osl⟩ ∧ fd'.code = cdv ∧ PySem.W.codeIn K cdv q = true) : cdv = .ref (He.codeOf K p) := by
  obtain ⟨oc, od, fd', osl, lk, e, c⟩ := h
  obtain ⟨a, rfl⟩ := He.codeIn_ref c
  rw [He.codeOf_eq lk e]
variable {P : Program} {w : World} {base : Heap}
theorem Def1.fdx {d : He.DefD} {n : List Str} {a : Nat} {bf : Calls → M Fl} (h : Def1 P w G mg base fn d n a bf) {fd : FuncData} (F : FunD G.K d.name d.qual d.params d.body d.scope (d.dvs G.K) (d.kws G.K) (He.fAd G.K d.at_) fd) :
    (∃ oc od osl, G.K.lookup (He.fAd G.K d.at_) = some ⟨oc, od, .func fd, osl⟩) ∧ ∀ us : List Value, us.length = (n.take a).length → bindArgs fd ⟨us, []⟩ = pure ((n.take a).zip us) := by
  obtain ⟨oc, od, dV, kV, doc, pm, an, cdv, ct, osl, rfl, lk, _, hD, _⟩ := F.ex
  rw [h.dfl] at hD
  rcases hD with ⟨_, rfl⟩ | ⟨z, _⟩
  · exact ⟨⟨oc, od, osl, lk⟩, fun us hl => h.bnd kV doc pm an cdv ct us hl⟩
  · exact absurd rfl z
theorem Def1.at0 {d : He.DefD} {n : List Str} {a : Nat} {bf : Calls → M Fl} (h : Def1 P w G mg base fn d n a bf) : FnJ P w G mg base 0 d.at_ (fun _ _ => .st) := by
  obtain ⟨fd, F⟩ := h.fun_
  have F' := F
  rw [h.dfl] at F'
  refine ⟨fd, n.take a, F.kp, F'.bindsN h.bnd, ⟨fun vs H Q E q => ?_, fun A outer s H args us vs Q E _ _ _ _ q => ?_⟩, h.fdx F⟩
  · obtain ⟨_, _, _, _, _, _, _, z⟩ := q; exact z.elim
  · obtain ⟨_, _, _, _, _, _, _, z⟩ := q; exact z.elim
theorem Def1.next {d : He.DefD} {n : List Str} {a : Nat} {bf : Calls → M Fl} (h : Def1 P w G mg base fn d n a bf) {k : Nat} {C : Calls} (T : Tab P w G mg base fn k C) : FnJ P w G mg base (k + 4) d.at_ (runD n.length a (bf C)) := by
  obtain ⟨fd, F⟩ := h.fun_
  have F' := F
  rw [h.dfl] at F'
  refine ⟨fd, n.take a, F.kp, F'.bindsN h.bnd, g_of F h.sc (fun vs H Q E q => ?_) fun cdv A outer s H vs Q E hc hr hg q => ⟨_, h.bod k C cdv A outer s H E (code_is hc) T ⟨hr, hg⟩, body_ok rfl h.ale q⟩, h.fdx F⟩
  rw [len_of runD_len vs H Q E q, List.length_take, Nat.min_eq_left h.ale]
theorem tab_all {body : Calls → Calls} (h : ∀ j d, fn[j]? = some d → ∃ n a bf, Def1 P w G mg base fn d n a bf ∧ ∀ C, body C j = runD n.length a (bf C)) : ∀ k, Tab P w G mg base fn (4 * k) (callK body k)
  | 0 => fun j d hj => by
    obtain ⟨n, a, bf, h1, _⟩ := h j d hj
    exact h1.at0
  | k + 1 => fun j d hj => by
    obtain ⟨n, a, bf, h1, h2⟩ := h j d hj
    have e : callK body (k + 1) j = runD n.length a (bf (callK body k)) := h2 _
    rw [e]
    exact h1.next (tab_all h k)
end
section
variable {fa : List He.Fa} {fn : List He.DefD} {G : Cfg} {W : WX} {X : Cx} {x : Str} {p pos : Pos} {e : Expr} {es : List Expr} {k : Nat}
theorem x_gint {j : Int} (h : ∃ t, X.mg x = some (.int j t)) (hg : Gl X x := by rfl) (hd : (x == ("__debug__" : Str)) = false := by decide) : PE X (.Name x pos) (TEof G W (cS (.int j))) := by
  obtain ⟨t, h⟩ := h
  exact xc (v := .int j) (pe_glob (v := .int j) hg h ⟨t, rfl⟩ hd) fun _ _ _ => by simp [VOk, Rep]
theorem x_gstr {y : Str} (h : ∃ t, X.mg x = some (.str y t)) (hg : Gl X x := by rfl) (hd : (x == ("__debug__" : Str)) = false := by decide) : PE X (.Name x pos) (TEof G W (cS (.str y))) := by
  obtain ⟨t, h⟩ := h
  exact xc (v := .str y) (pe_glob (v := .str y) hg h ⟨t, rfl⟩ hd) fun _ _ _ => by simp [VOk, Rep]
theorem x_fn {C : Calls} {ga : M (List D)} (j : Nat) {d : He.DefD} (T : Tx fa fn G X.mg) (B : Tab X.prog X.w G X.mg X.base fn k C) (i : Nat) (hr : Room (k + 1) X.A ∧ X.A.guards = some []) (tk : Takes X W) (ha : PA X (e :: es) (TAof G W ga)) (hj : fn[j]? = some d := by rfl) (hat : d.at_ = (x, none) := by rfl)
    (hi : fa[i]? = some (.glo x) := by rfl) (hK : X.K = G.K := by rfl) (hg : Gl X x := by rfl)
    (hdb : (x == ("__debug__" : Str)) = false := by decide) (he : starEach (e :: es) X.env = (false, eval e X.env) :: starEach es X.env := by rfl) (hpl : (backTo pos (starEach es X.env)).any (·.1) = false := by rfl) :
    PE X (.Call (.Name x p) (e :: es) [] pos) (TEof G W (callF (C j) ga)) := by
  obtain ⟨fd, ps, h1, h2, h3, _⟩ := (B j d hj).ex
  rw [hat] at h1 h3
  rw [← hK] at h1 h2 h3
  have hm := T.glo i hi
  rw [← hK] at hm
  exact x_call (pe_fnG h3 ⟨hr.1.mono (Nat.le_succ _), hr.2⟩ hg hm h1 h2 tk ha hdb he hpl)
theorem takes_cx {P : Program} {w : World} {K : PySem.W.Frag} {mg : Str → Option Value} {base : Heap} {N : List Str} {qual : Str} {scope : Scope} {f : Addr} {cd : Value} {A : Around} {outer : List Env} {s : Shared} {H : Hp} {E : XK} :
    Takes (cxOf (L2.CX P w) P w K mg base N qual scope f cd A outer s H E) (fun cls d _ H => E cls d H) := takes_of rfl rfl rfl rfl
theorem owns_cx {CX : CXT} {P : Program} {w : World} {K : PySem.W.Frag} {mg : Str → Option Value} {base : Heap} {N : List Str} {qual : Str} {scope : Scope} {f : Addr} {cd : Value} {A : Around} {outer : List Env} {s : Shared} {H : Hp} {E : XK} :
    PassesOwn (model P w) (A.deeper (envOfC qual scope s.heap.objs.size f cd)) (envOfC qual scope s.heap.objs.size f cd) (cxOf CX P w K mg base N qual scope f cd A outer s H E).xe := PassesOwn.leaving
end
theorem u64 {k : Nat} {A : Around} {g : Prop} (r : Room k A ∧ g) : A.units + 64 < cLine := r.1.units
theorem u65 {k : Nat} {A : Around} {g : Prop} (r : Room k A ∧ g) : A.units + 65 < cLine := by have := r.1.un; omega
theorem u1 {k : Nat} {A : Around} {g : Prop} (r : Room k A ∧ g) : A.units + 1 < cLine := by have := r.1.un; omega
section
variable {G : Cfg} {W : WX} {X : Cx} {a b c : Expr} {f g h : M D} {pos : Pos}
theorem chain_im {r r' : R2} {od od' : S → D → D → Option D} (hd : OpD G r od) (hd' : OpD G r' od') (σ : L2.St) (H : Hp) (Q : VK) (z : TEof G W (chainS od od' f g h) σ H Q) : tChain r r' (TEof G W f) (TEof G W g) (TEof G W h) σ H Q := by
  obtain ⟨E, F, A, s, R, P⟩ := z
  refine ⟨E, F, A, s, R, PO.bind P fun x s1 F1 A1 H1 e1 g1 R1 P1 u hu => ⟨E, F1, A1, s1, R1, PO.bind P1 fun y s2 F2 A2 H2 e2 g2 R2 P2 v hv => ?_⟩⟩
  cases q : od s2 x y with
  | none => rw [q] at P2; exact P2.elim
  | some d =>
    rw [q] at P2
    cases d with
    | bl k =>
      refine hd E F2 A2 σ H2 s2 u v x y _ _ R2 (hu.mono e2 g2) hv q fun z F3 A3 H3 e3 g3 R3 hz => ⟨k, hz.bl, ?_⟩
      cases k with
      | true =>
        refine iteT ⟨E, F3, A3, s2, R3, PO.bind (PO.mono P2 e3 g3 fun _ _ _ _ _ z => z) fun z s4 F4 A4 H4 e4 g4 R4 P4 zz hzz => ?_⟩
        cases q2 : od' s4 y z with
        | none => rw [q2] at P4; exact P4.elim
        | some d2 =>
          rw [q2] at P4
          exact hd' E F4 A4 σ H4 s4 v zz y z d2 Q R4 ((hv.mono e3 g3).mono e4 g4) hzz q2 fun v F' A' H' e5 g5 R5 hv5 => P4 F' A' H' e5 g5 R5 v hv5
      | false => exact iteF (P2 F3 A3 H3 e3 g3 R3 _ vok_bl)
    | _ => exact P2.elim
theorem tst_im {fe : M D} (σ : L2.St) (H : Hp) (Q : Bool → Hp → Prop) (z : TTof G W (tstS fe) σ H Q) : TEof G W fe σ H fun v H' => ∃ k, v = .bl k ∧ Q k H' := by
  obtain ⟨E, F, A, s, R, P⟩ := z
  refine ⟨E, F, A, s, R, PO.bind P fun x s1 F1 A1 H1 e1 g1 R1 P1 u hu => ?_⟩
  cases x with
  | bl k => exact ⟨k, hu.bl, P1.ok_here R1⟩
  | _ => exact P1.elim
theorem t_chain {op op' : CmpOp} {r r' : R2} {od od' : S → D → D → Option D} (hd : OpD G r od) (hd' : OpD G r' od')
    (k : PT X (.Compare a [op, op'] [b, c] pos) (tTest (tChain r r' (TEof G W f) (TEof G W g) (TEof G W h)))) : PT X (.Compare a [op, op'] [b, c] pos) (TTof G W (tstS (chainS od od' f g h))) :=
  PTimp k fun σ H Q z => chain_im hd hd' σ H _ (tst_im σ H Q z)
theorem x_ix (hu : X.A.units + 1 < cLine) (ha : PE X a (TEof G W f)) (hb : PE X b (TEof G W g)) (hK : X.K = G.K := by rfl) (hs : PlainIx b := by exact fun _ _ => rfl) : PE X (.Subscript a b pos) (TEof G W (binS ixA f g)) :=
  x_op (od_ixA hK) ha hb (pe_ix (ixr_all hu) ha hb hs)
end
abbrev NoE (t : D → M Unit) : Prop := ∀ d s e s', t d s ≠ .err e s'
theorem tgN_ne (i : Nat) : NoE (tgN i) := fun d s e s' h => by cases h
def NoEs : List (D → M Unit) → Prop
  | [] => True
  | t :: ts => NoE t ∧ NoEs ts
theorem tgsS_ne : ∀ (ts : List (D → M Unit)) (ds : List D) (s : S) (e : Er) (s' : S), NoEs ts → tgsS ts ds s ≠ .err e s'
  | [], [], _, _, _, _ => fun h => by cases h
  | [], _ :: _, _, _, _, _ => fun h => by cases h
  | _ :: _, [], _, _, _, _ => fun h => by cases h
  | t :: ts, d :: ds, s, e, s', ⟨h1, h2⟩ => fun h => by
    unfold tgsS at h
    cases q : t d s with
    | ok u s1 => rw [q] at h; exact tgsS_ne ts ds s1 e s' h2 h
    | err e1 s1 => exact h1 d s e1 s1 q
    | st => rw [q] at h; cases h
theorem tgT_ne {ts : List (D → M Unit)} (h : NoEs ts) : NoE (tgT ts) := fun d s e s' q => by
  cases d with
  | tup ds => exact tgsS_ne ts ds s e s' h q
  | _ => cases q
end AG
set_option Elab.async false
set_option linter.all false
set_option maxRecDepth 100000
namespace AG
open PySem L2
abbrev PV : Type := D ⊕ MO
def parS : List (M D ⊕ M MO) → M (List PV)
  | [] => fun s => .ok [] s
  | .inl f :: r => fun s => (f s).bind fun x s1 => if sto x then (parS r s1).bind fun xs s2 => .ok (.inl x :: xs) s2 else .st
  | .inr f :: r => fun s => (f s).bind fun m s1 => (parS r s1).bind fun xs s2 => .ok (.inr m :: xs) s2
def putP : List Nat → List PV → List SV → List SV
  | i :: is, .inl d :: xs, rhz => putP is xs (rhz.set i (.d d))
  | i :: is, .inr m :: xs, rhz => putP is xs (rhz.set i (.own m))
  | _, _, rhz => rhz
def putV : List Nat → List V → L2.St → L2.St
  | i :: is, v :: vs, σ => putV is vs (σ.set i (some v))
  | _, _, σ => σ
def parA (is : List Nat) (ms : List (M D ⊕ M MO)) : M Fl := fun s => (parS ms s).bind fun xs s1 => .ok .nx { s1 with rhz := putP is xs s1.rhz }
def PvsOk (G : Cfg) (E : Ent) (F : Hp) (A : Adr) (σ : L2.St) (H : Hp) (s : S) : List Addr → List PV → List V → Prop
  | _, [], vs => vs = []
  | used, .inl d :: xs, vs => ∃ v r, vs = v :: r ∧ Rep G F A d v ∧ PvsOk G E F A σ H s used xs r
  | used, .inr m :: xs, vs => ∃ p r, vs = .ref p :: r ∧ New G E F A σ H s p m ∧ p ∉ used ∧ PvsOk G E F A σ H s (p :: used) xs r
def TQof (G : Cfg) (W : WX) (ms : List (M D ⊕ M MO)) : TA := fun σ H Q => ∃ E F A s, Rel G E F A σ H s ∧ PO G E W σ (fun xs s F A H => ∀ vs, PvsOk G E F A σ H s [] xs vs → Q vs H) F A (parS ms s)
section
variable {G : Cfg} {E : Ent} {W : WX} {X : Cx} {F : Hp} {A : Adr} {σ : L2.St} {H : Hp} {s : S} {e : Expr} {es : List Expr} {st : Stmt} {f : M D} {g : M MO} {ms : List (M D ⊕ M MO)} {p : Addr} {o : HO}
theorem q_nil : PA X [] (TQof G W []) := PAimp pa_nil fun σ H Q ⟨E, F, A, s, R, P⟩ => P.ok_here R [] rfl
theorem q_val (ha : PE X e (TEof G W f)) (hr : PA X es (TQof G W ms)) (hs : starEach (e :: es) X.env = (false, eval e X.env) :: starEach es X.env := by rfl) : PA X (e :: es) (TQof G W (.inl f :: ms)) :=
  PAimp (pa_cons ha hr hs) fun σ H Q ⟨E, F, A, s, R, P⟩ => ⟨E, F, A, s, R, PO.bind P fun x s1 F1 A1 H1 e1 g1 R1 P1 u hu => by
    cases q : sto x with
    | false => simp only [q, Bool.false_eq_true, if_false] at P1; exact P1.elim
    | true =>
      simp only [q, if_true] at P1
      exact ⟨E, F1, A1, s1, R1, PO.bind P1 fun xs s2 F2 A2 H2 e2 g2 R2 P2 vs hv => P2.ok_here R2 _ ⟨u, vs, rfl, Rep.mono e2 g2 _ _ (hu.rep q), hv⟩⟩⟩
theorem pvs_unpin {xs : List PV} : ∀ {used : List Addr} {vs : List V}, (∀ q, (E.pin p o).H q = none → E.H q = none ∧ q ≠ p) → PvsOk G (E.pin p o) F A σ H s used xs vs → PvsOk G E F A σ H s (used ++ [p]) xs vs := by
  induction xs with
  | nil => intro used vs _ h; exact h
  | cons x xs ih =>
    intro used vs k h
    cases x with
    | inl d =>
      obtain ⟨v, r, h1, h2, h3⟩ := h
      exact ⟨v, r, h1, h2, ih k h3⟩
    | inr m =>
      obtain ⟨q, r, h1, h2, h3, h4⟩ := h
      obtain ⟨k1, k2⟩ := k q h2.ne
      exact ⟨q, r, h1, ⟨h2.mo, h2.nf, k1, h2.nA, h2.nσ⟩, by simp [h3, k2], ih k h4⟩
theorem q_new (ha : PE X e (TFof G W g)) (hr : PA X es (TQof G W ms)) (hs : starEach (e :: es) X.env = (false, eval e X.env) :: starEach es X.env := by rfl) : PA X (e :: es) (TQof G W (.inr g :: ms)) :=
  PAimp (pa_cons ha hr hs) fun σ H Q ⟨E, F, A, s, R, P⟩ => ⟨E, F, A, s, R, PO.bind P fun m s1 F1 A1 H1 e1 g1 R1 P1 p N => by
    obtain ⟨o, ho⟩ := N.mo.some
    have ef : E.F p = none := by
      cases q : E.F p with
      | none => rfl
      | some u => have z := R1.fle p u q; rw [N.nf] at z; cases z
    have ea : ∀ n, E.A n ≠ some p := fun n z => N.nA n (R1.ale n p z)
    have back : ∀ q, (E.pin p o).H q = none → E.H q = none ∧ q ≠ p := fun q z => by
      by_cases h : q = p
      · subst h
        change upd E.H q o q = none at z
        rw [upd_same] at z
        cases z
      · change upd E.H p o q = none at z
        rw [upd_ne h] at z
        exact ⟨z, h⟩
    refine ⟨E.pin p o, F1, A1, s1, R1.pin N ho, ?_⟩
    cases q : parS ms s1 with
    | st => rw [q] at P1; exact P1
    | err er s2 =>
      rw [q] at P1
      exact fun F2 A2 H2 dd e2 g2 R2 => P1 F2 A2 H2 dd e2 g2 (R2.unpin (N.mo.solid ho) N.ne ef ea).1
    | ok xs s2 =>
      rw [q] at P1
      intro F2 A2 H2 e2 g2 R2 vs hv
      obtain ⟨R3, k1, k2, k3, k4⟩ := R2.unpin (N.mo.solid ho) N.ne ef ea
      exact P1 F2 A2 H2 e2 g2 R3 _ ⟨p, vs, rfl, ⟨N.mo.mono e2 g2 fun o' h' => by rw [ho] at h'; rw [k1]; exact h', k2, N.ne, k3, k4⟩, List.not_mem_nil, pvs_unpin back hv⟩⟩
theorem pvs_put {i : Nat} {v : V} {x : SV} {xs : List PV} (hx : isOwn x = true → ∃ p0, v = .ref p0) : ∀ {used : List Addr} {vs : List V}, (∀ p0, isOwn x = true → v = .ref p0 → p0 ∈ used) → PvsOk G E F A σ H s used xs vs → PvsOk G E F A (σ.set i (some v)) H { s with rhz := s.rhz.set i x } used xs vs := by
  induction xs with
  | nil => intro used vs _ h; exact h
  | cons y xs ih =>
    intro used vs k h
    cases y with
    | inl d =>
      obtain ⟨v', r, h1, h2, h3⟩ := h
      exact ⟨v', r, h1, h2, ih k h3⟩
    | inr m =>
      obtain ⟨q, r, h1, h2, h3, h4⟩ := h
      refine ⟨q, r, h1, ⟨h2.mo, h2.nf, h2.ne, h2.nA, fun j hj z => ?_⟩, h3, ih (fun p0 a b => List.mem_cons_of_mem _ (k p0 a b)) h4⟩
      by_cases hij : i = j
      · subst hij
        have hj' : isOwn ((s.rhz.set i x).getD i .un) = true := hj
        by_cases hl : i < s.rhz.length
        · rw [List.getD_eq_getElem?_getD, List.getElem?_set_self hl] at hj'
          obtain ⟨p0, e0⟩ := hx hj'
          by_cases hs : i < σ.length
          · rw [List.getElem?_set_self hs] at z
            have z' : v = .ref q := Option.some.inj (Option.some.inj z)
            exact h3 (k q hj' z')
          · rw [List.getElem?_eq_none (by simpa using hs)] at z
            cases z
        · rw [List.getD_eq_getElem?_getD, List.getElem?_eq_none (by simpa using hl)] at hj'
          cases hj'
      · rw [List.getElem?_set_ne hij] at z
        exact h2.nσ j (by rw [← getD_set hij]; exact hj) z
theorem Rel.putP : ∀ (is : List Nat) (xs : List PV) (vs : List V) {used : List Addr} {σ : L2.St} {s : S}, Rel G E F A σ H s → PvsOk G E F A σ H s used xs vs → Rel G E F A (putV is vs σ) H { s with rhz := AG.putP is xs s.rhz }
  | [], xs, vs, used, σ, s, R, h => by cases xs <;> exact R
  | i :: is, [], vs, used, σ, s, R, h => by
    cases (show vs = [] from h)
    exact R
  | i :: is, .inl d :: xs, vs, used, σ, s, R, h => by
    obtain ⟨v, r, rfl, h2, h3⟩ := h
    exact Rel.putP is xs r (R.setD (i := i) h2) (pvs_put (x := .d d) (fun z => nomatch (show false = true from z)) (fun _ z => nomatch (show false = true from z)) h3)
  | i :: is, .inr m :: xs, vs, used, σ, s, R, h => by
    obtain ⟨p, r, rfl, h2, h3, h4⟩ := h
    exact Rel.putP is xs r (R.setN (i := i) h2) (pvs_put (x := .own m) (fun _ => ⟨p, rfl⟩) (fun p0 _ z => by cases z; exact List.mem_cons_self) h4)
theorem pvs_len {xs : List PV} : ∀ {used : List Addr} {vs : List V}, PvsOk G E F A σ H s used xs vs → vs.length = xs.length := by
  induction xs with
  | nil => intro used vs h; cases (show vs = [] from h); rfl
  | cons x xs ih =>
    intro used vs h
    cases x with
    | inl d =>
      obtain ⟨v, r, rfl, h2, h3⟩ := h
      simp [ih h3]
    | inr m =>
      obtain ⟨q, r, rfl, h2, h3, h4⟩ := h
      simp [ih h4]
theorem parS_len : ∀ (ms : List (M D ⊕ M MO)) (s : S) (xs : List PV) (s' : S), parS ms s = .ok xs s' → xs.length = ms.length
  | [], s, xs, s', h => by cases h; rfl
  | .inl f :: r, s, xs, s', h => by
    unfold parS at h
    cases q : f s with
    | ok x s1 =>
      rw [q] at h
      simp only [O.bind_ok] at h
      cases q2 : sto x with
      | false => rw [q2] at h; cases h
      | true =>
        rw [q2] at h
        simp only [if_true] at h
        cases q3 : parS r s1 with
        | ok ys s2 => rw [q3] at h; cases h; simp [parS_len r s1 ys _ q3]
        | err _ _ => rw [q3] at h; cases h
        | st => rw [q3] at h; cases h
    | err _ _ => rw [q] at h; cases h
    | st => rw [q] at h; cases h
  | .inr f :: r, s, xs, s', h => by
    unfold parS at h
    cases q : f s with
    | ok x s1 =>
      rw [q] at h
      simp only [O.bind_ok] at h
      cases q3 : parS r s1 with
      | ok ys s2 => rw [q3] at h; cases h; simp [parS_len r s1 ys _ q3]
      | err _ _ => rw [q3] at h; cases h
      | st => rw [q3] at h; cases h
    | err _ _ => rw [q] at h; cases h
    | st => rw [q] at h; cases h
theorem par_post_n {is : List Nat} (σ : L2.St) (D : Ends) (z : TSof G W (parA is ms) D σ H) : TQof G W ms σ H fun vs H1 => vs.length = ms.length ∧ D.nx (putV is vs σ) H1 := by
  obtain ⟨E, F, A, s, R, P⟩ := z
  refine ⟨E, F, A, s, R, ?_⟩
  cases q : parS ms s with
  | st => unfold parA at P; rw [q] at P; exact P
  | err er s1 => unfold parA at P; rw [q] at P; exact fun F' A' H' dd e1 g1 R1 => P σ F' A' H' dd e1 g1 R1
  | ok xs s1 =>
    unfold parA at P
    rw [q] at P
    exact fun F' A' H' e1 g1 R1 vs hv => ⟨(pvs_len hv).trans (parS_len ms s xs s1 q), P _ _ _ _ e1 g1 (R1.putP is xs vs hv)⟩
theorem s_par2 {i j : Nat} {a b : M D ⊕ M MO} (k : PS X st (tPar i j (TQof G W [a, b]))) : PS X st (TSof G W (parA [i, j] [a, b])) :=
  PSimp k fun D σ H z => by
    obtain ⟨E, F, A, s, R, P⟩ := par_post_n σ D z
    refine ⟨E, F, A, s, R, PO.mono P (FLe.refl _) (ALe.refl _) fun xs s1 F1 A1 H1 h vs hv => ?_⟩
    obtain ⟨hl, hn⟩ := h vs hv
    match vs, hl with
    | [v, w], _ => exact ⟨v, w, rfl, hn⟩
end
end AG
set_option Elab.async false
set_option linter.all false
set_option maxRecDepth 100000
namespace AG
open PySem L2 PySem.Spec PyProof.Rows
theorem same_mul (l : Addr) (items : Array Value) (n : Nat) (dd : Option Addr) (sl : Array (Option Value)) (x : Int) (u : Tok) (c0 : (decide (x < -(2 ^ 63)) || decide (x ≥ 2 ^ 63)) = false) (c1 : (items.isEmpty || x == 1) = true) :
    Meets (Builtin.«tuple.__mul__» ⟨[.ref l, .int x u], []⟩) (fun _ R s => s.heap.get? l = some { cls := .type "tuple", dict := dd, data := .seq items n, slots := sl } ∧ R (.ok (.ret (Value.ref l))) s) :=
  .of_wp fun prog w A R s h => by
    obtain ⟨hp, g, d, tk, os⟩ := s
    obtain ⟨hl, h⟩ := h
    have f1 := AutoSeq1.idx_int
    wp_walk using wpAny_loadPart' hl
    repeat (first
      | (refine wpAny_ite_false (decide_eq_false (by rw [c0]; exact Bool.false_ne_true)) ?_; wp_walk using wpAny_loadPart' hl)
      | (refine wpAny_ite_true (decide_eq_true c1) ?_; wp_walk using wpAny_loadPart' hl))
    exact ⟨_, rfl, h⟩
def rRepS (K : PySem.W.Frag) : R2 := fun x y H Q => ∃ l k xs, x = .ref l ∧ y = .int k ∧ SqT K H l xs ∧ (xs = [] ∨ k = 1) ∧ -(2 ^ 63) ≤ k ∧ k < 2 ^ 63 ∧ Q (.ref l) H
section
variable {X : Cx}
theorem op_repS : OpR X (binaryOp .Mult) (rRepS X.K) := by
  intro pins s σ H x y v u Q I rx ry h
  obtain ⟨l, k, xs, rfl, rfl, hT, hk, h1, h2, q⟩ := h
  cases rx
  obtain ⟨t, rfl⟩ := ry
  obtain ⟨its, r, ⟨⟨cls, dd, data, sl⟩, ho, hc, n, hd⟩, hs⟩ := I.tuple hT
  simp only at hc hd
  subst hc hd
  have c0 : (decide (k < -(2 ^ 63)) || decide (k ≥ 2 ^ 63)) = false := by
    rw [Bool.or_eq_false_iff]
    exact ⟨decide_eq_false (by omega), decide_eq_false (by omega)⟩
  have c1 : (its.toArray.isEmpty || k == 1) = true := by
    rcases hk with rfl | rfl
    · cases r
      rfl
    · simp
  refine wpAny_binaryOp_repeat_ref (T := "tuple") (U := "int") (by decide) ⟨_, ho, rfl⟩ (fun s' => typeIs_int s' k t) noFill_tuple_mul F.fills_int_mul F.slot_int_rmul repeat_tuple F.slot_int_index.lookup
    (call_meets F.slot_int_rmul (typeIs_int s k t) F.entry_int_rmul (F.args_int_rmul_2 _ _) (int_rmul_tuple k t l its.toArray n dd sl)
      ⟨ho, rfl, ⟨_, ho, rfl⟩, call_meets F.slot_tuple_mul ⟨_, ho, rfl⟩ F.entry_tuple_mul (F.args_tuple_mul_2 _ _) (same_mul l its.toArray n dd sl k t c0 c1) ⟨ho, ?_⟩⟩)
  exact ⟨.ref l, H, I, rfl, q⟩
end
def mulE (s : S) (x y : D) : Option D := match vw s x, y with
  | .tup a, .int k => if (a = [] ∨ k = 1) ∧ -(2 ^ 63) ≤ k ∧ k < 2 ^ 63 then some (.tup a) else if a ≠ [] ∧ 2 ≤ k ∧ k ≤ 1000 ∧ a.length ≤ 1000 then some (.tup (List.replicate k.toNat a).flatten) else none
  | _, _ => mulD s x y
def rMulE (K : PySem.W.Frag) : R2 := fun x y H Q => rMulD x y H Q ∨ rRepS K x y H Q ∨ rRepT K x y H Q
section
variable {G : Cfg} {E : Ent} {W : WX} {X : Cx} {F : Hp} {A : Adr} {σ : L2.St} {H : Hp} {s : S} {e t a b : Expr} {es : List Expr} {st : Stmt} {f g h : M D} {p : Addr} {o : HO} {pos : Pos}
theorem or_mulE : OpR X (binaryOp .Mult) (rMulE X.K) := OpR.or or_mul (OpR.or op_repS op_repT)
theorem rep_rep {l : List D} {vs : List V} (r : RepL G F A l vs) : ∀ n : Nat, RepL G F A (List.replicate n l).flatten (List.replicate n vs).flatten
  | 0 => by simp [RepL]
  | n + 1 => by
    simp only [List.replicate_succ, List.flatten_cons]
    exact RepL.append r (rep_rep r n)
theorem od_mulE (hK : X.K = G.K) : OpD G (rMulE X.K) mulE := by
  intro E F A σ H s x y dx dy d Q R hx hy q k
  have old : mulD s dx dy = some d → rMulE X.K x y H Q := fun q => .inl (od_mul E F A σ H s x y dx dy d Q R hx hy q k)
  unfold mulE at q
  split at q
  · rename_i av kv e1
    obtain ⟨ad, vs, rfl, hf, h2, r⟩ := tup_view R hx e1
    by_cases c1 : (av = [] ∨ kv = 1) ∧ -(2 ^ 63) ≤ kv ∧ kv < 2 ^ 63
    · rw [if_pos c1] at q
      cases q
      refine .inr (.inl ⟨ad, kv, vs, rfl, hy.int, by rw [hK]; exact .of h2, ?_, c1.2.1, c1.2.2, ?_⟩)
      · rcases c1.1 with rfl | h
        · exact .inl (by simpa [RepL] using r)
        · exact .inr h
      · refine k _ F A H (FLe.refl _) (ALe.refl _) R (.of ?_)
        simp only [Rep]
        exact ⟨ad, vs, rfl, hf, r⟩
    · rw [if_neg c1] at q
      by_cases c2 : av ≠ [] ∧ 2 ≤ kv ∧ kv ≤ 1000 ∧ av.length ≤ 1000
      · rw [if_pos c2] at q
        cases q
        refine .inr (.inr ⟨ad, kv, vs, rfl, hy.int, by rw [hK]; exact .of h2, ?_, c2.2.1, c2.2.2.1, by rw [RepL.length r]; exact c2.2.2.2, fun p hp => ?_⟩)
        · intro z
          subst z
          have := RepL.length r
          exact c2.1 (List.eq_nil_of_length_eq_zero this.symm)
        · have fl := fle_upd (o := .tup (List.replicate kv.toNat vs).flatten) (R.sub.none hp)
          refine k _ _ A _ fl (ALe.refl _) (R.newFz hp) ?_
          show Rep G _ A (.tup _) _
          simp only [Rep]
          exact ⟨p, _, rfl, upd_same, RepL.mono fl (ALe.refl _) _ _ (rep_rep r _)⟩
      · rw [if_neg c2] at q
        cases q
  · exact old q
def maxD (_ : S) : List D → Option D
  | [.int i, .int j] => some (.int (if j > i then j else i))
  | _ => none
def reprD (s : S) : List D → Option D
  | [x] => (match vw s x with
    | .lst l => (match pyL l with
      | some es => if PyData.showable (.list es) = true ∧ PyData.hasDict (.list es) = false ∧ PyData.depth (.list es) ≤ 60 ∧ (PyData.shown (.list es)).length ≤ LIM then some (.str (PyData.shown (.list es))) else none
      | none => none)
    | .tup l => (match pyL l with
      | some es => if PyData.showable (.tuple es) = true ∧ PyData.hasDict (.tuple es) = false ∧ PyData.depth (.tuple es) ≤ 60 ∧ (PyData.shown (.tuple es)).length ≤ LIM then some (.str (PyData.shown (.tuple es))) else none
      | none => none)
    | _ => none)
  | _ => none
def lputS (fv fo fi : M D) : M Fl := fun s => (fv s).bind fun z s1 => (fo s1).bind fun x s2 => (fi s2).bind fun y s3 => match ml? s3 x, y with
  | some (l, put), .int i => (match ixN l.length i with
    | some j => if sto z then .ok .nx (put (l.set j z)) else .st
    | none => .st)
  | _, _ => .st
def truD : D → Option Bool
  | .non => some false
  | .bl b => some b
  | .int i => some (i != 0)
  | .str x => if x.length ≤ LIM then some ((x.length : Int) != 0) else none
  | .tup l => some (!l.isEmpty)
  | .lst l => some (!l.isEmpty)
  | _ => none
def orT (f g : M D) : M D := fun s => (f s).bind fun x s1 => match truD (vw s1 x) with
  | some true => .ok x s1
  | some false => g s1
  | none => .st
def asgS (f : M D) (tg : D → M Unit) : M Fl := fun s => (f s).bind fun d s1 => if sto d then (tg d s1).bind fun _ s2 => .ok .nx s2 else .st
theorem s_asg {ws : List Nat} {tg : D → M Unit} (hT : NoE tg) (k : PS X st (tAsg (TEof G W f) (TGof G ws tg))) : PS X st (TSof G W (asgS f tg)) := by
  refine PSimp k fun D σ H ⟨E, F, A, s, R, P⟩ => ⟨E, F, A, s, R, PostS.bind P fun d s1 F1 A1 H1 e1 g1 R1 P1 v hv => ?_⟩
  cases qs : sto d with
  | false => rw [qs] at P1; exact P1.elim
  | true =>
    rw [qs] at P1
    simp only [if_true] at P1
    refine ⟨E, F1, A1, s1, d, R1, hv.rep qs, ?_⟩
    cases q : tg d s1 with
    | st => rw [q] at P1; exact P1
    | err er s2 => exact (hT d s1 er s2 q).elim
    | ok u s2 =>
      rw [q] at P1
      exact fun σ' R2 _ => P1 σ' F1 A1 H1 (FLe.refl _) (ALe.refl _) R2
def slF (f : M D) (lo hi : M (Option Int)) : M MO := fun s => (f s).bind fun x s1 => (lo s1).bind fun a s2 => (hi s2).bind fun b s3 => match vw s3 x with
  | .lst l => .ok (.ml (cutL l a b)) s3
  | _ => .st
end
end AG
set_option Elab.async false
set_option linter.all false
set_option maxRecDepth 100000
namespace AG
open PySem L2 PySem.Spec PyProof.Rows LamX
def noT (H : Hp) : Hp := fun b => match H b with
  | some (.tbl _) => none
  | o => o
theorem noT_ok {H : Hp} {b : Addr} {o : HO} (h : noT H b = some o) : H b = some o ∧ ∀ ps, o ≠ .tbl ps := by
  unfold noT at h
  split at h
  · cases h
  · rename_i q
    exact ⟨h, fun ps e => q ps (by rw [h, e])⟩
theorem noT_of {H : Hp} {b : Addr} {o : HO} (h : H b = some o) (n : ∀ ps, o ≠ .tbl ps) : noT H b = some o := by
  unfold noT
  split
  · rename_i q
    rw [h] at q
    exact absurd (Option.some.inj q) (n _)
  · exact h
theorem noT_sql {K : PySem.W.Frag} {H : Hp} {a : Addr} {xs : List V} (h : SqL K H a xs) : SqL K (noT H) a xs := by
  rcases h with (h | ⟨o, h⟩) | h
  · exact .inl (.inl (noT_of h fun _ z => by cases z))
  · exact .inl (.inr ⟨o, noT_of h fun _ z => by cases z⟩)
  · exact .inr h
theorem sp_start {G : Cfg} {call : List D → List MO → R} {H : Hp} {a : Addr} {ns : List Int} {E : XK} (hT : LamX.Tabs G.T H) (hS : SqL G.K H a (ns.map V.int)) (hc : ∃ muz, call [.scr ns] [] = .ok (.bl true) muz) : spOf G call [.ref a] H (fun v _ => v = .bl true) E := by
  obtain ⟨muz, hc⟩ := hc
  refine ⟨noT H, fun _ => none, [.scr ns], [], ⟨fun b o h => .inl (noT_ok h).1, ⟨hT, fun a ps h => (noT_ok h).2 ps rfl⟩⟩, ⟨(fun n m h => nomatch (show ([] : List MO)[n]? = some m from h)), (fun n a h => nomatch h), (fun n m a h => nomatch h)⟩, ?_, ?_⟩
  · simp only [RepL]
    exact ⟨.ref a, [], rfl, by simp only [Rep]; exact ⟨a, rfl, noT_sql hS⟩, rfl⟩
  · rw [hc]
    intro v F' A' H' _ hr
    simpa [Rep] using hr
theorem Def1.fnG {P : Program} {w : World} {G : Cfg} {mg : Str → Option Value} {base : Heap} {fn : List He.DefD} {d : He.DefD} {n : List Str} {a : Nat} {bf : Calls → M Fl} (h : Def1 P w G mg base fn d n a bf) {k : Nat} {C : Calls} (T : Tab P w G mg base fn k C) {fd : FuncData}
    (F : FunD G.K d.name d.qual d.params d.body d.scope (d.dvs G.K) (d.kws G.K) (He.fAd G.K d.at_) fd) : FnG P w G.K mg base (L2.CX P w) (k + 4) (He.fAd G.K d.at_) (n.take a) fd (spOf G (runD n.length a (bf C))) := by
  refine g_of F h.sc (fun vs H Q E q => ?_) fun cdv A outer s H vs Q E hc hr hg q => ⟨_, h.bod k C cdv A outer s H E (code_is hc) T ⟨hr, hg⟩, body_ok rfl h.ale q⟩
  rw [len_of runD_len vs H Q E q, List.length_take, Nat.min_eq_left h.ale]
theorem at_end {l : PySem.W.OpenLaw} {w : World} {k n : Nat} {x : Str} {mg : Str → Option Value} {h : Heap} {G : Cfg} {fn tf : List He.DefD} {exs : List Str} {body : Calls → Calls} {d : He.DefD} {N : List Str} {bf : Calls → M Fl} (inK : G.K.In h) (i : Nat)
    (hd : ∀ p ∈ tf.map He.DefD.at_, PySem.W.codeHdIn G.K (He.cT G.K p).1 (He.cT G.K p).2 = true) (out : ∀ p ∈ tf.map He.DefD.at_, G.K.lookup (He.cT G.K p).2 = none) (empty : ∀ p ∈ tf.map He.DefD.at_, h.get? (He.cT G.K p).2 = some { cls := .none, data := .fields #[] })
    (nd : (tf.map fun d => (He.cT G.K d.at_).2).Nodup) (eT : G.T = TOf G.K tf) (ex : ∀ x ∈ exs, exB G.K exs x = true)
    (D1 : ∀ base : Heap, Tl tf exs G mg base → Def1 l.prog w G mg base fn d N 1 bf) (tab : ∀ base : Heap, Tl tf exs G mg base → Tab l.prog w G mg base fn (4 * k) (callK body k)) (hN : N.take 1 = [x]) (e : callK body (k + 1) i = runD N.length 1 (bf (callK body k)))
    (d0 : d.dvs G.K = []) (b0 : ∀ (kV doc pm : Value) (an : Option Addr) (cdv ct : Value) (us : List Value), us.length = (N.take 1).length → bindArgs (PySem.W.fnOf d.name d.qual d.params d.body d.scope .none kV doc pm an cdv ct) ⟨us, []⟩ = pure ((N.take 1).zip us))
    (fd0 : ∃ fd, FunD G.K d.name d.qual d.params d.body d.scope (d.dvs G.K) (d.kws G.K) (He.fAd G.K d.at_) fd)
    (pure_ : ∀ ns : List Int, ns.length ≤ n → ∃ muz, callK body (k + 1) i [.scr ns] [] = .ok (.bl true) muz) : AtEnd l w (L2.CX l.prog w) (4 * k + 4) n x mg (He.fAd G.K d.at_) h := by
  obtain ⟨fd, F⟩ := fd0
  have F' := F
  rw [d0] at F'
  have me : ∀ d ∈ tf, d.at_ ∈ tf.map He.DefD.at_ := fun d hd => List.mem_map_of_mem hd
  refine ⟨G.K, fd, tf.map fun d => He.cT G.K d.at_, spOf G (callK body (k + 1) i), inK, fun p hp => ?_, fun p hp => ?_, fun p hp => ?_, fun s u => ?_, fun H a ns hl _ hT hS _ => sp_start ?_ hS (pure_ ns hl), fun base _ _ hB => ?_⟩
  · obtain ⟨d, hd', rfl⟩ := List.mem_map.mp hp
    exact empty _ (me d hd')
  · obtain ⟨d, hd', rfl⟩ := List.mem_map.mp hp
    exact out _ (me d hd')
  · obtain ⟨d, hd', rfl⟩ := List.mem_map.mp hp
    exact PySem.W.codeHd_of_K inK (hd _ (me d hd'))
  · have b := F'.bindsA b0 s [u]
    rw [hN] at b
    exact b rfl
  · intro p hp
    rw [eT] at hp
    obtain ⟨d, hd', rfl⟩ := List.mem_map.mp hp
    exact TabS.nil (hT _ (List.mem_map_of_mem hd'))
  · have L : Tl tf exs G mg base := ⟨fun d hd' => hB _ (List.mem_map_of_mem hd'), nd, eT, ex⟩
    have z := (D1 base L).fnG (tab base L) F
    rw [e, ← hN]
    exact z
end AG
set_option Elab.async false
set_option linter.all false
set_option maxRecDepth 100000
namespace AG
open PySem L2 PySem.Spec PyProof.Rows
mutual
def noH (n : Nat) : D → Bool
  | .hnd k => decide (k ≠ n)
  | .tup l => noHL n l
  | .lst l => noHL n l
  | .set l => noHL n l
  | .dct _ l => noH2 n l
  | .ins _ fs => noHF n fs
  | _ => true
def noHL (n : Nat) : List D → Bool
  | [] => true
  | d :: ds => noH n d && noHL n ds
def noH2 (n : Nat) : List (D × D) → Bool
  | [] => true
  | d :: ds => noH n d.1 && noH n d.2 && noH2 n ds
def noHF (n : Nat) : List (Str × D) → Bool
  | [] => true
  | d :: ds => noH n d.2 && noHF n ds
end
def noHM (n : Nat) : MO → Bool
  | .ml l => noHL n l
  | .md _ l => noH2 n l
  | .mi _ fs => noHF n fs
section
variable {G : Cfg} {F : Hp} {A A' : Adr} {n : Nat}
mutual
theorem Rep.cutH (h : ∀ k a, k ≠ n → A k = some a → A' k = some a) : ∀ (d : D) (v : V), noH n d = true → Rep G F A d v → Rep G F A' d v
  | .non, v, _, r => by simpa [Rep] using r
  | .bl b, v, _, r => by simpa [Rep] using r
  | .int i, v, _, r => by simpa [Rep] using r
  | .str x, v, _, r => by simpa [Rep] using r
  | .tup l, v, q, r => by
    simp only [noH] at q
    simp only [Rep] at r ⊢
    obtain ⟨a, vs, h1, h2, h3⟩ := r
    exact ⟨a, vs, h1, h2, RepL.cutH h l vs q h3⟩
  | .lst l, v, q, r => by
    simp only [noH] at q
    simp only [Rep] at r ⊢
    obtain ⟨a, vs, h1, h2, h3⟩ := r
    exact ⟨a, vs, h1, h2, RepL.cutH h l vs q h3⟩
  | .dct t l, v, q, r => by
    simp only [noH] at q
    simp only [Rep] at r ⊢
    obtain ⟨a, vs, o, h1, h2, h3, h4⟩ := r
    exact ⟨a, vs, o, h1, RepL2.cutH h l vs q h2, h3, h4⟩
  | .set l, v, _, r => by simpa only [Rep] using r
  | .ins c fs, v, q, r => by
    simp only [noH] at q
    simp only [Rep] at r ⊢
    obtain ⟨a, dx, vs, h1, h2, h3⟩ := r
    exact ⟨a, dx, vs, h1, h2, RepLF.cutH h fs vs q h3⟩
  | .hnd k, v, q, r => by
    simp only [noH, decide_eq_true_eq] at q
    simp only [Rep] at r ⊢
    obtain ⟨a, h1, h2⟩ := r
    exact ⟨a, h k a q h1, h2⟩
  | .loc i, v, _, r => by simp only [Rep] at r
  | .cls c, v, _, r => by simpa [Rep] using r
  | .scr ns, v, _, r => by simpa [Rep] using r
  | .exc c, v, _, r => by simpa only [Rep] using r
theorem RepL.cutH (h : ∀ k a, k ≠ n → A k = some a → A' k = some a) : ∀ (l : List D) (vs : List V), noHL n l = true → RepL G F A l vs → RepL G F A' l vs
  | [], vs, _, r => by simpa [RepL] using r
  | d :: ds, vs, q, r => by
    simp only [noHL, Bool.and_eq_true] at q
    simp only [RepL] at r ⊢
    obtain ⟨v, t, h1, h2, h3⟩ := r
    exact ⟨v, t, h1, Rep.cutH h d v q.1 h2, RepL.cutH h ds t q.2 h3⟩
theorem RepL2.cutH (h : ∀ k a, k ≠ n → A k = some a → A' k = some a) : ∀ (l : List (D × D)) (vs : List V), noH2 n l = true → RepL2 G F A l vs → RepL2 G F A' l vs
  | [], vs, _, r => by simpa [RepL2] using r
  | (k, d) :: ds, vs, q, r => by
    simp only [noH2, Bool.and_eq_true] at q
    simp only [RepL2] at r ⊢
    obtain ⟨v, t, h1, h2, h3⟩ := r
    exact ⟨v, t, h1, Rep.cutH h d v q.1.2 h2, RepL2.cutH h ds t q.2 h3⟩
theorem RepLF.cutH (h : ∀ k a, k ≠ n → A k = some a → A' k = some a) : ∀ (l : List (Str × D)) (vs : List V), noHF n l = true → RepLF G F A l vs → RepLF G F A' l vs
  | [], vs, _, r => by simpa [RepLF] using r
  | (k, d) :: ds, vs, q, r => by
    simp only [noHF, Bool.and_eq_true] at q
    simp only [RepLF] at r ⊢
    obtain ⟨v, t, h1, h2, h3⟩ := r
    exact ⟨v, t, h1, Rep.cutH h d v q.1 h2, RepLF.cutH h ds t q.2 h3⟩
end
theorem mo_cutH (h : ∀ k a, k ≠ n → A k = some a → A' k = some a) {H : Hp} {a : Addr} {m : MO} (q : noHM n m = true) (r : MoOk G F A H a m) : MoOk G F A' H a m := by
  cases m with
  | ml l =>
    obtain ⟨vs, h1, h2⟩ := r
    exact ⟨vs, h1, RepL.cutH h _ _ q h2⟩
  | md t l =>
    obtain ⟨vs, o, h2, h3, h4⟩ := r
    exact ⟨vs, o, RepL2.cutH h _ _ q h2, h3, h4⟩
  | mi c fs =>
    obtain ⟨dx, vs, h1, h2⟩ := r
    exact ⟨dx, vs, h1, RepLF.cutH h _ _ q h2⟩
end
section
variable {G : Cfg} {E : Ent} {F F2 : Hp} {A A1 A2 : Adr} {σ : L2.St} {H H2 : Hp} {s : S} {x : Addr} {m0 m : MO} {muz' : List MO}
theorem Rel.unhand (R : Rel G E F A σ H s) (N : New G E F A σ H s x m0) (hn : A1 s.muz.length = some x) (ho : ∀ k, k ≠ s.muz.length → A1 k = A k) (al1 : ALe A A1)
    (f : Fin G F A1 H (s.muz ++ [m0]) F2 A2 H2 muz') (hl : muz'.length = s.muz.length + 1) (hm : muz'[s.muz.length]? = some m) (q1 : (muz'.take s.muz.length).all (noHM s.muz.length) = true) (q2 : noHM s.muz.length m = true) :
    ∃ A3, FLe F F2 ∧ ALe A A3 ∧ Rel G E F2 A3 σ H2 { s with muz := muz'.take s.muz.length } ∧ New G E F2 A3 σ H2 { s with muz := muz'.take s.muz.length } x m := by
  obtain ⟨σ', rhz', R'⟩ := f
  have fl : FLe F F2 := R'.fle
  have al2 : ALe A1 A2 := R'.ale
  let A3 : Adr := fun k => if k = s.muz.length then none else A2 k
  have a3 : ∀ k a, k ≠ s.muz.length → A2 k = some a → A3 k = some a := fun k a h e => by
    show (if k = s.muz.length then none else A2 k) = some a
    rw [if_neg h]
    exact e
  have b3 : ∀ k a, A3 k = some a → k ≠ s.muz.length ∧ A2 k = some a := fun k a e => by
    have e' : (if k = s.muz.length then none else A2 k) = some a := e
    by_cases h : k = s.muz.length
    · rw [if_pos h] at e'
      cases e'
    · rw [if_neg h] at e'
      exact ⟨h, e'⟩
  have al3 : ALe A A3 := fun k a e => a3 k a (Nat.ne_of_lt (R.cells.dom k a e)) (al2 k a (al1 k a e))
  have lt : (muz'.take s.muz.length).length = s.muz.length := by rw [List.length_take]; omega
  have nx : A2 s.muz.length = some x := al2 _ _ hn
  -- the kept ones
  have keep : ∀ a o, H a = some o → (∀ k, A k ≠ some a) → a ≠ x → (∀ ps, o ≠ .tbl ps) → H2 a = some o := fun a o e h1 h2 h3 => R'.keep a o e (fun k z => by
    by_cases q : k = s.muz.length
    · rw [q] at z
      have z' : A1 s.muz.length = some a := z
      rw [hn] at z'
      exact h2 (Option.some.inj z').symm
    · have z' : A1 k = some a := z
      rw [ho k q] at z'
      exact h1 k z') h3
  have cellsOf : ∀ k mk, k ≠ s.muz.length → muz'[k]? = some mk → noHM s.muz.length mk = true → ∃ a, A3 k = some a ∧ MoOk G F2 A3 H2 a mk ∧ F2 a = none := fun k mk h e q => by
    obtain ⟨a, k1, k2, k3⟩ := R'.cells.at_ k mk e
    exact ⟨a, a3 k a h k1, mo_cutH a3 q k2, k3⟩
  refine ⟨A3, fl, al3, ⟨R'.sub, R.len, fun i y v h1 h2 => (R.slot i y v h1 h2).mono fl al3 fun a m2 h3 h4 h5 h6 h7 => ?_, R.dist, ⟨fun k mk hk => ?_, fun k a hk => ?_, fun k j a h1 h2 => ?_⟩, R.fle.trans fl, R.ale.trans al3, ?_, fun a o h1 h2 h2' => ?_, fun a ps h => ?_, R'.tabs, fun a o h1 => ?_, fun k a h1 => ?_⟩, ?_⟩
  · have k := R.slot i y v h1 h2
    rw [h4] at k
    obtain ⟨b, k1, k2, k3, k4, k5⟩ := k
    rw [h3] at k1
    cases k1
    obtain ⟨u, hu⟩ := k2.some
    have ne : a ≠ x := fun z => by
      subst z
      refine N.nσ i ?_ (by rw [h2, h3])
      rw [List.getD_eq_getElem?_getD, h1, h4]
      rfl
    refine ⟨?_, fun j z => ?_, fun o e => keep a o e k5 ne (stuck_not (k2.solid e))⟩
    · cases q : F2 a with
      | none => rfl
      | some u2 =>
        rcases R'.fz a u2 q with k | k | k
        · change F a = some u2 at k
          rw [h5] at k
          cases k
        · change H a = none at k
          rw [hu] at k
          cases k
        · have so := k2.solid hu
          have y := sub_tup R'.sub q k
          rw [keep a u hu k5 ne (stuck_not so)] at y
          cases y
          exact absurd (tup_stuck k) so
    · obtain ⟨z1, z2⟩ := b3 j a z
      rcases R'.hz j a z2 with k | k
      · change A1 j = some a at k
        rw [ho j z1] at k
        exact h7 j k
      · change H a = none at k
        rw [hu] at k
        cases k
  · have hk' : k < s.muz.length := by
      have := (List.getElem?_eq_some_iff.mp hk).1
      rw [show ({ s with muz := muz'.take s.muz.length } : S).muz = muz'.take s.muz.length from rfl, lt] at this
      exact this
    have e : muz'[k]? = some mk := by
      have z : (muz'.take s.muz.length)[k]? = some mk := hk
      rw [List.getElem?_take_of_lt hk'] at z
      exact z
    exact cellsOf k mk (by omega) e (List.all_eq_true.mp q1 mk (List.mem_of_getElem? hk))
  · obtain ⟨z1, z2⟩ := b3 k a hk
    have := R'.cells.dom k a z2
    change k < muz'.length at this
    show k < (muz'.take s.muz.length).length
    rw [lt]
    omega
  · exact R'.cells.inj k j a (b3 k a h1).2 (b3 j a h2).2
  · show E.n ≤ (muz'.take s.muz.length).length
    rw [lt]
    exact R.nle
  · have k := R.keep a o h1 h2 h2'
    have ne : a ≠ x := fun z => by
      subst z
      rw [N.ne] at h1
      cases h1
    refine keep a o k (fun j z => ?_) ne h2'
    rcases R.hz j a z with q | q
    · exact h2 j q
    · rw [h1] at q
      cases q
  · obtain ⟨qs, k⟩ := R.tb a ps h
    exact R'.tb a qs k
  · rcases R'.fz a o h1 with k | k | k
    · exact R.fz a o k
    rotate_left
    · exact .inr (.inr k)
    · refine .inr (.inl ?_)
      change H a = none at k
      cases q : E.H a with
      | none => rfl
      | some u =>
        by_cases z : ∃ j, E.A j = some a
        · obtain ⟨j, z⟩ := z
          obtain ⟨b, y1, y2, _⟩ := R.cells.at_ j _ (List.getElem?_eq_getElem (R.cells.dom j a (R.ale j a z)))
          rw [R.ale j a z] at y1
          cases y1
          obtain ⟨u2, hu2⟩ := y2.some
          rw [k] at hu2
          cases hu2
        · by_cases t : ∃ ps, u = .tbl ps
          · obtain ⟨ps, rfl⟩ := t
            obtain ⟨qs, y⟩ := R.tb a ps q
            rw [k] at y
            cases y
          · have := R.keep a u q (fun j e => z ⟨j, e⟩) (fun ps e => t ⟨ps, e⟩)
            rw [k] at this
            cases this
  · obtain ⟨z1, z2⟩ := b3 k a h1
    rcases R'.hz k a z2 with q | q
    · change A1 k = some a at q
      rw [ho k z1] at q
      exact R.hz k a q
    · change H a = none at q
      refine .inr ?_
      cases q2 : E.H a with
      | none => rfl
      | some u =>
        by_cases z : ∃ j, E.A j = some a
        · obtain ⟨j, z⟩ := z
          obtain ⟨b, y1, y2, _⟩ := R.cells.at_ j _ (List.getElem?_eq_getElem (R.cells.dom j a (R.ale j a z)))
          rw [R.ale j a z] at y1
          cases y1
          obtain ⟨u2, hu2⟩ := y2.some
          rw [q] at hu2
          cases hu2
        · by_cases t : ∃ ps, u = .tbl ps
          · obtain ⟨ps, rfl⟩ := t
            obtain ⟨qs, y⟩ := R.tb a ps q2
            rw [q] at y
            cases y
          · have := R.keep a u q2 (fun j e => z ⟨j, e⟩) (fun ps e => t ⟨ps, e⟩)
            rw [q] at this
            cases this
  · obtain ⟨a, k1, k2, k3⟩ := R'.cells.at_ _ m hm
    rw [nx] at k1
    cases k1
    exact ⟨mo_cutH a3 q2 k2, k3, N.ne, fun k z => by
      obtain ⟨z1, z2⟩ := b3 k x z
      exact z1 (R'.cells.inj k _ x z2 nx), N.nσ⟩
end
def tMakeG (C : Addr) (sp : Sp) (W : L2.St → XK) (t : TA) : TE := fun σ H Q => t σ H fun vs H1 => ∀ x dx, H1 x = none → H1 dx = none → dx ≠ x →
  sp (.ref x :: vs) (upd (upd H1 dx (.own x)) x (.ins C dx [])) (fun v H2 => v = .non ∧ Q (.ref x) H2) (W σ)
section
variable {X : Cx} {W : WX} {k : Nat} {f C : Addr} {fd : FuncData} {ps : List Str} {sp : Sp} {x : Str} {p pos : Pos} {e : Expr} {es : List Expr} {t : TA}
theorem under_guards (A : Around) (C : Addr) (us : List Value) : (A.under (.builtin "type.__call__" ⟨.ref C :: us, []⟩)).guards = A.guards := by
  first | rfl | simp [Around.under, Code.envs, Code.isFrame, pushEnvs]
theorem pe_makeG (M : Mk X.K C f) (F : FnG X.prog X.w X.K X.mg X.base (L2.CX X.prog X.w) k f ps fd sp) (hr : Room (k + 1) X.A ∧ X.A.guards = some []) (hg : Gl X x) (hm : X.mg x = some (.ref C)) (hb : L2.Binds X.K fd ps []) (tk : Takes X W)
    (ha : PA X (e :: es) t) (hdb : (x == ("__debug__" : Str)) = false := by decide) (he : starEach (e :: es) X.env = (false, eval e X.env) :: starEach es X.env := by rfl) (hpl : (backTo pos (starEach es X.env)).any (·.1) = false := by rfl) :
    PE X (.Call (.Name x p) (e :: es) [] pos) (tMakeG C sp (WE W) t) where
  run pins s σ H Q I h := by
    refine wpAny_Call_Name_kw (ld_glob I hg hm (PySem.W.callWith_K (h₀ := X.base) I.ok.mod.kin M.kp (thn (ha.run pos pins s σ H _ I h) ?_) he hpl) hdb)
    rintro us s1 ⟨vs, H1, I1, r, q⟩
    have q1 := q (s1.heap.objs.size + 1) s1.heap.objs.size (I1.hok.fresh (Nat.le_succ _)) (I1.hok.fresh (Nat.le_refl _)) (Nat.ne_of_lt (Nat.lt_succ_self _))
    have I2 := Inv.made (C := C) I1
    have r2 : Vals (V.ref (s1.heap.objs.size + 1) :: vs) (Value.ref (s1.heap.objs.size + 1) :: us) := .cons rfl r
    refine ⟨I1.kIn, wpAny_call (make_map (f := f) I1.kIn M.makes M.init (beq_iff_eq.mp M.fn) (codeAny_mono (F.keeps _ X.stack _ _ ⟨Value.ref (s1.heap.objs.size + 1) :: us, []⟩ _ _ _ (WE W σ)
      ⟨hr.1.make C us [], (under_guards X.A C us).trans hr.2⟩ (I2.env0.make C us []) ?_ r2 q1) fun rr s' z => ?_))⟩
    · have hl : (Value.ref (s1.heap.objs.size + 1) :: us).length = ps.length := by
        rw [← r2.length]
        exact F.size _ _ _ _ q1
      simpa using hb _ (Value.ref (s1.heap.objs.size + 1) :: us) I2.kIn (by simpa using hl)
    · have y := after_g tk I2 rr s' z
      rcases rr with er | fl
      · exact y
      · cases fl with
        | ret u =>
          obtain ⟨v, H', I3, rv, ev, q3⟩ := y
          subst ev
          exact ⟨rv, ⟨V.ref (s1.heap.objs.size + 1), H', I3, rfl, q3⟩⟩
        | _ => exact y.elim
end
def cutM (n : Nat) (muz : List MO) : Option (List MO) := if muz.length = n + 1 ∧ (muz.take n).all (noHM n) = true then some (muz.take n) else none
def makeF (c : Nat) (call : List D → List MO → R) (g : M (List D)) : M MO := fun s => (g s).bind fun ds s1 => if ds.all sto then match call (.hnd s1.muz.length :: ds) (s1.muz ++ [.mi c []]) with
  | .ok .non muz => (match cutM s1.muz.length muz, muz[s1.muz.length]? with
    | some muz1, some m => if noHM s1.muz.length m then .ok m { s1 with muz := muz1 } else .st
    | _, _ => .st)
  | .err e muz => (match cutM s1.muz.length muz, muz[s1.muz.length]? with
    | some muz1, some m => if noHM s1.muz.length m then .err e { s1 with muz := muz1 } else .st
    | _, _ => .st)
  | _ => .st
  else .st
section
variable {fa : List He.Fa} {fn : List He.DefD} {G : Cfg} {W : WX} {X : Cx} {x : Str} {p pos : Pos} {e : Expr} {es : List Expr} {k : Nat}
theorem f_make0 {call : List D → List MO → R} {ga : M (List D)} {c : Nat} {t : Expr} (kk : PE X t (tMakeG (G.CA c) (spOf G call) (WE W) (TAof G W ga))) : PE X t (TFof G W (makeF c call ga)) := by
  refine PEimp kk fun σ H Q ⟨E, F, A, s, R, P⟩ => ⟨E, F, A, s, R, PO.bind P fun ds s1 F1 A1 H1 e1 g1 R1 P1 vs hv x dx hx hdx hne => ?_⟩
  cases q : ds.all sto with
  | false => rw [q] at P1; exact P1.elim
  | true =>
    rw [q] at P1
    simp only [if_true] at P1
    have hxd : upd H1 dx (.own x) x = none := by rw [upd_ne (Ne.symm hne)]; exact hx
    obtain ⟨R2, _⟩ := R1.laid (o := .own x) hdx
    obtain ⟨R3, k1, k2, k3, k4⟩ := R2.laid (o := .ins (G.CA c) dx []) hxd
    have N : New G E F1 A1 σ (upd (upd H1 dx (.own x)) x (.ins (G.CA c) dx [])) s1 x (.mi c []) := ⟨⟨dx, [], upd_same, by simp [RepLF]⟩, k1, k2, k3, k4⟩
    obtain ⟨A2, al, an, R4⟩ := R3.newHnd N
    have ho : ∀ j, j ≠ s1.muz.length → A2 j = A1 j := fun j hj => by
      cases q1 : A1 j with
      | some a => exact al j a q1
      | none =>
        cases q2 : A2 j with
        | none => rfl
        | some a =>
          have h1 := R4.cells.dom j a q2
          simp only [List.length_append, List.length_cons, List.length_nil] at h1
          obtain ⟨b, y1, _⟩ := R3.cells.at_ j _ (List.getElem?_eq_getElem (show j < s1.muz.length by omega))
          rw [q1] at y1
          cases y1
    refine ⟨F1, A2, .hnd s1.muz.length :: ds, s1.muz ++ [.mi c []], ⟨R4.sub, R4.tabs⟩, R4.cells, ?_, ?_⟩
    · simp only [RepL, Rep]
      exact ⟨_, vs, rfl, ⟨x, an, rfl⟩, RepL.mono (FLe.refl _) al _ _ (reps_of hv q)⟩
    · cases qc : call (.hnd s1.muz.length :: ds) (s1.muz ++ [.mi c []]) with
      | st => rw [qc] at P1; exact P1.elim
      | ok d muz =>
        rw [qc] at P1
        cases d with
        | non =>
          intro v F' A' H' hf hr
          unfold cutM at P1
          by_cases q1 : muz.length = s1.muz.length + 1 ∧ (muz.take s1.muz.length).all (noHM s1.muz.length) = true
          · simp only [if_pos q1] at P1
            cases q2 : muz[s1.muz.length]? with
            | none => rw [q2] at P1; exact P1.elim
            | some m =>
              rw [q2] at P1
              simp only [] at P1
              cases q3 : noHM s1.muz.length m with
              | false => rw [q3] at P1; exact P1.elim
              | true =>
                rw [q3] at P1
                simp only [if_true] at P1
                obtain ⟨A3, fl, al3, R5, N5⟩ := R3.unhand N an ho al hf q1.1 q2 q1.2 q3
                refine ⟨?_, P1 F' A3 H' fl al3 R5 x N5⟩
                simpa [Rep] using hr
          · simp only [if_neg q1] at P1
            exact P1.elim
        | _ => exact P1.elim
      | err er muz =>
        rw [qc] at P1
        intro F' A' H' dd hf
        unfold cutM at P1
        by_cases q1 : muz.length = s1.muz.length + 1 ∧ (muz.take s1.muz.length).all (noHM s1.muz.length) = true
        · simp only [if_pos q1] at P1
          cases q2 : muz[s1.muz.length]? with
          | none => rw [q2] at P1; exact P1.elim
          | some m =>
            rw [q2] at P1
            simp only [] at P1
            cases q3 : noHM s1.muz.length m with
            | false => rw [q3] at P1; exact P1.elim
            | true =>
              rw [q3] at P1
              simp only [if_true] at P1
              obtain ⟨A3, fl, al3, R5, N5⟩ := R3.unhand N an ho al hf q1.1 q2 q1.2 q3
              exact P1 F' A3 H' dd fl al3 R5
        · simp only [if_neg q1] at P1
          exact P1.elim
end
end AG
set_option Elab.async false
set_option linter.all false
set_option maxRecDepth 100000
namespace AG
open PySem L2 PySem.Spec PyProof.Rows
section
variable {fa : List He.Fa} {fn : List He.DefD} {G : Cfg} {mg : Str → Option Value}
theorem Tx.cls (T : Tx fa fn G mg) (i : Nat) {x : Str} (h : fa[i]? = some (.cls x) := by rfl) : Cls G.K (He.ga G.K x) := He.cls_ok (T.says.fact i h)
theorem Tx.noat (T : Tx fa fn G mg) (i : Nat) {x f : Str} (h : fa[i]? = some (.noat x f) := by rfl) : NoAttr G.K (He.ga G.K x) f := He.noat_ok (T.says.fact i h)
theorem Tx.meth (T : Tx fa fn G mg) (i : Nat) {x m : Str} (h : fa[i]? = some (.meth x m) := by rfl) : Meth G.K (He.ga G.K x) m (He.ma G.K (He.ga G.K x) m) := He.meth_ok (T.says.fact i h)
theorem Tx.mkr (T : Tx fa fn G mg) (i : Nat) {x : Str} (h : fa[i]? = some (.mkr x) := by rfl) : Mk G.K (He.ga G.K x) (He.ma G.K (He.ga G.K x) "__init__") := He.mkr_ok (T.says.fact i h)
end
section
variable {fa : List He.Fa} {fn : List He.DefD} {G : Cfg} {W : WX} {X : Cx} {x : Str} {p pos : Pos} {e : Expr} {es : List Expr} {k : Nat}
theorem f_make {C : Calls} {ga : M (List D)} (c j : Nat) {d : He.DefD} (T : Tx fa fn G X.mg) (B : Tab X.prog X.w G X.mg X.base fn k C) (i i2 : Nat) (hr : Room (k + 1) X.A ∧ X.A.guards = some []) (tk : Takes X W) (ha : PA X (e :: es) (TAof G W ga)) (hj : fn[j]? = some d := by rfl) (hat : d.at_ = (x, some ("__init__" : Str)) := by rfl)
    (hi : fa[i]? = some (.glo x) := by rfl) (hi2 : fa[i2]? = some (.mkr x) := by rfl) (hc : G.CA c = He.ga G.K x := by rfl) (hK : X.K = G.K := by rfl) (hg : Gl X x := by rfl)
    (hdb : (x == ("__debug__" : Str)) = false := by decide) (he : starEach (e :: es) X.env = (false, eval e X.env) :: starEach es X.env := by rfl) (hpl : (backTo pos (starEach es X.env)).any (·.1) = false := by rfl) :
    PE X (.Call (.Name x p) (e :: es) [] pos) (TFof G W (makeF c (C j) ga)) := by
  obtain ⟨fd, ps, h1, h2, h3, _⟩ := (B j d hj).ex
  rw [hat] at h1 h3
  have hm := T.glo i hi
  have mk := T.mkr i2 hi2
  rw [← hK] at h1 h2 h3 hm mk
  refine f_make0 ?_
  rw [hc, ← hK]
  exact pe_makeG mk h3 hr hg hm h2 tk ha hdb he hpl
end
section
variable {G : Cfg} {E : Ent} {F : Hp} {A : Adr} {σ : L2.St} {H : Hp} {s : S}
theorem RepLF.len : ∀ {fs : List (Str × D)} {vs : List V}, RepLF G F A fs vs → vs.length = fs.length
  | [], vs, h => by simp only [RepLF] at h; subst h; rfl
  | (n, d) :: fs, vs, h => by
    simp only [RepLF] at h
    obtain ⟨v, r, rfl, _, h3⟩ := h
    simp [RepLF.len h3]
theorem RepLF.look : ∀ {fs : List (Str × D)} {vs : List V} {f : Str} {d : D}, RepLF G F A fs vs → fs.lookup f = some d → ∃ v, (List.zip (fs.map (·.1)) vs).lookup f = some v ∧ Rep G F A d v
  | [], _, _, _, _, e => by cases e
  | (n, y) :: fs, vs, f, d, h, e => by
    simp only [RepLF] at h
    obtain ⟨v, r, rfl, h2, h3⟩ := h
    simp only [List.lookup_cons] at e
    by_cases q : (f == n) = true
    · rw [q] at e
      simp only [Option.some.injEq] at e
      subst e
      exact ⟨v, by simp [List.lookup_cons, q], h2⟩
    · rw [Bool.not_eq_true] at q
      rw [q] at e
      obtain ⟨u, e1, e2⟩ := RepLF.look h3 e
      exact ⟨u, by simp [List.lookup_cons, q, e1], e2⟩
theorem ins_view (R : Rel G E F A σ H s) {d : D} {v : V} {c : Nat} {fs : List (Str × D)} (h : VOk G σ F A d v) (q : vw s d = .ins c fs) : ∃ a dx vs, v = .ref a ∧ H a = some (.ins (G.CA c) dx (List.zip (fs.map (·.1)) vs)) ∧ RepLF G F A fs vs := by
  have mo : ∀ (a : Addr) (m : MO), MoOk G F A H a m → frzD m = .ins c fs → ∃ dx vs, H a = some (.ins (G.CA c) dx (List.zip (fs.map (·.1)) vs)) ∧ RepLF G F A fs vs := fun a m hm q => by
    cases m with
    | mi c2 fs2 =>
      simp only [frzD, D.ins.injEq] at q
      obtain ⟨rfl, rfl⟩ := q
      exact hm
    | ml l => cases q
    | md t l => cases q
  cases d with
  | loc i =>
    simp only [vw] at q
    cases qi : s.rhz[i]? with
    | none => rw [qi] at q; cases q
    | some x =>
      rw [qi] at q
      cases x with
      | own m =>
        obtain ⟨a, rfl, hm⟩ := vw_loc R h qi
        obtain ⟨dx, vs, h1, h2⟩ := mo a m hm q
        exact ⟨a, dx, vs, rfl, h1, h2⟩
      | _ => cases q
  | hnd n =>
    simp only [vw] at q
    cases qi : s.muz[n]? with
    | none => rw [qi] at q; cases q
    | some m =>
      rw [qi] at q
      obtain ⟨a, rfl, hm⟩ := vw_hnd R h qi
      obtain ⟨dx, vs, h1, h2⟩ := mo a m hm q
      exact ⟨a, dx, vs, rfl, h1, h2⟩
  | ins c2 fs2 =>
    simp only [vw, D.ins.injEq] at q
    obtain ⟨rfl, rfl⟩ := q
    have h : Rep G F A (.ins c2 fs2) v := h
    simp only [Rep] at h
    obtain ⟨a, dx, vs, rfl, h2, h3⟩ := h
    rcases R.sub a _ h2 with z | ⟨z, _⟩
    · exact ⟨a, dx, vs, rfl, z, h3⟩
    · exact z.elim
  | _ => cases q
end
def fldD (cs : List Nat) (f : Str) (s : S) (x : D) : Option D := match vw s x with
  | .ins c fs => if c ∈ cs then fs.lookup f else none
  | _ => none
def AtOk (K : PySem.W.Frag) (G : Cfg) (cs : List Nat) (f : Str) : Prop := ∀ c ∈ cs, Cls K (G.CA c) ∧ NoAttr K (G.CA c) f
theorem at_nil {K : PySem.W.Frag} {G : Cfg} {f : Str} : AtOk K G [] f := fun c h => by cases h
theorem at_cons {K : PySem.W.Frag} {G : Cfg} {c : Nat} {cs : List Nat} {f x : Str} (h1 : Cls G.K (He.ga G.K x)) (h2 : NoAttr G.K (He.ga G.K x) f) (h : AtOk K G cs f) (hK : K = G.K := by rfl) (hc : G.CA c = He.ga G.K x := by rfl) : AtOk K G (c :: cs) f := fun c' h' => by
  rcases List.mem_cons.mp h' with rfl | h'
  · rw [hc, hK]
    exact ⟨h1, h2⟩
  · exact h c' h'
section
variable {G : Cfg} {W : WX} {X : Cx} {o e : Expr} {f : Str} {pos pos' : Pos} {g h : M D}
theorem x_fld (cs : List Nat) (ha : AtOk X.K G cs f) (he : PE X o (TEof G W g)) (hb : attributeBase o f X.env (eval o X.env) = eval o X.env := by rfl) : PE X (.Attribute o f pos) (TEof G W (unS (fldD cs f) g)) := by
  refine PEimp (pe_fld he hb) fun σ H Q ⟨E, F, A, s, R, P⟩ => ⟨E, F, A, s, R, PO.bind P fun x s1 F1 A1 H1 e1 g1 R1 P1 u hu => ?_⟩
  cases q : fldD cs f s1 x with
  | none => rw [q] at P1; exact P1.elim
  | some d =>
    rw [q] at P1
    unfold fldD at q
    split at q
    · rename_i c fs h1
      by_cases hc : c ∈ cs
      · rw [if_pos hc] at q
        obtain ⟨a, dx, vs, rfl, h2, h3⟩ := ins_view R1 hu h1
        obtain ⟨v, k1, k2⟩ := RepLF.look h3 q
        exact ⟨a, _, dx, _, v, rfl, h2, (ha c hc).1, (ha c hc).2, k1, P1 F1 A1 H1 (FLe.refl _) (ALe.refl _) R1 v (.of k2)⟩
      · rw [if_neg hc] at q
        cases q
    · cases q
def mi? (s : S) : D → Option (Nat × List (Str × D) × (List (Str × D) → S))
  | .hnd n => (match s.muz[n]? with
    | some (.mi c fs) => some (c, fs, fun fs' => { s with muz := s.muz.set n (.mi c fs') })
    | _ => none)
  | _ => none
def putFD (f : Str) (z : D) : List (Str × D) → List (Str × D)
  | [] => [(f, z)]
  | (g, y) :: r => if g = f then (g, z) :: r else (g, y) :: putFD f z r
def fputS (cs : List Nat) (f : Str) (fv fo : M D) : M Fl := fun s => (fv s).bind fun z s1 => (fo s1).bind fun x s2 => match mi? s2 x with
  | some (c, fs, put) => if sto z && decide (c ∈ cs) && decide (fs.length < 1000) then .ok .nx (put (putFD f z fs)) else .st
  | none => .st
theorem put_zip {F : Hp} {A : Adr} {f : Str} {z : D} {v : V} (hz : Rep G F A z v) : ∀ {fs : List (Str × D)} {vs : List V}, RepLF G F A fs vs → ∃ vs', putF f v (List.zip (fs.map (·.1)) vs) = List.zip ((putFD f z fs).map (·.1)) vs' ∧ RepLF G F A (putFD f z fs) vs'
  | [], vs, h => by
    simp only [RepLF] at h
    subst h
    exact ⟨[v], rfl, by simp only [putFD, RepLF]; exact ⟨v, [], rfl, hz, rfl⟩⟩
  | (g, y) :: fs, vs, h => by
    simp only [RepLF] at h
    obtain ⟨u, r, rfl, h2, h3⟩ := h
    by_cases q : g = f
    · refine ⟨v :: r, ?_, ?_⟩
      · simp only [List.map_cons, List.zip_cons_cons, putF, putFD, if_pos q]
      · simp only [putFD, if_pos q, RepLF]
        exact ⟨v, r, rfl, hz, h3⟩
    · obtain ⟨vs', e1, e2⟩ := put_zip (f := f) hz h3
      refine ⟨u :: vs', ?_, ?_⟩
      · simp only [List.map_cons, List.zip_cons_cons, putF, putFD, if_neg q, e1]
      · simp only [putFD, if_neg q, RepLF]
        exact ⟨u, vs', rfl, h2, e2⟩
theorem s_fput (cs : List Nat) (ha : AtOk X.K G cs f) {st : Stmt} (k : PS X st (sFld X.K (TEof G W g) (TEof G W h) f)) : PS X st (TSof G W (fputS cs f h g)) := by
  refine PSimp k fun D σ H ⟨E, F, A, s, R, P⟩ => ⟨E, F, A, s, R, PostS.bind P fun z s1 F1 A1 H1 e1 g1 R1 P1 v hv => ⟨E, F1, A1, s1, R1, PostS.bind P1 fun x s2 F2 A2 H2 e2 g2 R2 P2 u hu => ?_⟩⟩
  cases q : mi? s2 x with
  | none => simp only [q] at P2; exact P2.elim
  | some r =>
    obtain ⟨c, fs, put⟩ := r
    simp only [q] at P2
    cases qq : (sto z && decide (c ∈ cs) && decide (fs.length < 1000)) with
    | false => rw [qq] at P2; exact P2.elim
    | true =>
      rw [qq] at P2
      simp only [if_true] at P2
      simp only [Bool.and_eq_true, decide_eq_true_eq] at qq
      cases x with
      | hnd n =>
        simp only [mi?] at q
        split at q
        · rename_i c0 fs0 hi
          cases q
          obtain ⟨a, rfl, hm⟩ := vw_hnd R2 hu hi
          obtain ⟨dx, vs, h1, h2⟩ := hm
          have hr := (hv.mono e2 g2).rep qq.1.1
          obtain ⟨vs', k1, k2⟩ := put_zip (f := f) hr h2
          have hlen := RepLF.len h2
          refine ⟨a, _, dx, _, rfl, h1, (ha _ qq.1.2).1, (ha _ qq.1.2).2, ?_, ?_⟩
          · rw [List.length_zip, List.length_map, hlen, Nat.min_self]
            exact qq.2
          · rw [k1]
            have hu' : Rep G F2 A2 (.hnd n) (.ref a) := hu
            simp only [Rep] at hu'
            obtain ⟨b, y1, y2⟩ := hu'
            cases y2
            exact P2 σ F2 A2 _ (FLe.refl _) (ALe.refl _) (R2.updHnd hi y1 ⟨dx, vs', upd_same, k2⟩)
        · cases q
      | _ => cases q
end
end AG
set_option Elab.async false
set_option linter.all false
set_option maxRecDepth 100000
set_option maxHeartbeats 1000000
namespace AGS
open PySem PySem.Spec PyProof.Rows L2 PySem.W PySem.Calls
section
variable {P : Program} {w : World} {A : Around} {E : Value → Shared → Prop} {s : Shared}
theorem tup_collect {l : Addr} {us : List Value} {Z : List Value → Shared → Prop} (hl : s.heap.IsTuple l us.toArray) (small : us.length ≤ sizeLine)
    (k : ∀ h1 : Heap, (∀ b o, s.heap.get? b = some o → h1.get? b = some o) → s.heap.objs.size ≤ h1.objs.size → Z us { s with heap := h1 }) : wpAny (model P w) A (collect (.ref l)) Z E s := by
  obtain ⟨o, at_, cl, m, dt⟩ := hl
  have new : (s.heap.push (seqObj "list" #[] 0)).get? s.heap.objs.size = some (seqObj "list" #[] 0) := Heap.get?_push_size _ rfl
  have old : (s.heap.push (seqObj "list" #[] 0)).get? l = some o := Heap.get?_push_of_some _ at_
  unfold collect
  refine wpAny_bind (wpAny_runValue (codeAny_builtin entry_proto_collect' ?_))
  show wpAny _ _ (do again (.builtin "list.__iadd__" ⟨[← newList [], Value.ref l], []⟩)) _ _ s
  refine wpAny_bind (wpAny_newList (wpAny_pure ⟨Code.quiet_builtin _ (by decide +kernel), codeAny_builtin entry_list_iadd' ?_⟩))
  show wpAny _ _ (Builtin.List.listExtendWith (Value.ref s.heap.objs.size) (Value.ref l) (Value.ref s.heap.objs.size)) _ _ { s with heap := s.heap.push (seqObj "list" #[] 0) }
  unfold Builtin.List.listExtendWith
  refine wpAny_bind (wpAny_typeOf (T := "tuple") ⟨o, old, cl⟩ ?_)
  have tt : ((Value.type "tuple") == (Value.type "tuple")) = true := by rfl
  rw [if_pos (by rw [tt]; simp)]
  refine wpAny_bind (listItems_at old dt (wpAny_bind (listItems_at (xs := #[]) (n := 0) new rfl ?_)))
  rw [if_neg (by simp)]
  have sz : (#[] ++ us.toArray : Array Value).size ≤ sizeLine + 1 := by simp; omega
  refine wpAny_bind (listUpdate_at (n := 0) (xs := #[]) new rfl (wpAny_pure ?_) (Nat.zero_le _) sz)
  show wpAny (model P w) A (load s.heap.objs.size >>= fun o => match o.data with
      | .seq ys _ => pure ys.toList
      | _ => unsupported "internal:collect") Z E { s with heap := (s.heap.push (seqObj "list" #[] 0)).update s.heap.objs.size (Obj.mapSeq (· ++ us.toArray)) }
  refine wpAny_bind (wpAny_load (get?_update_seq new _) ?_)
  show wpAny _ _ (pure ((#[] : Array Value) ++ us.toArray).toList) Z E _
  rw [show ((#[] : Array Value) ++ us.toArray).toList = us by simp]
  refine wpAny_pure (k _ (fun b u e => ?_) ?_)
  · rw [Heap.get?_update_ne _ _ _ _ (Nat.ne_of_lt (Heap.lt_size e))]
    exact Heap.get?_push_of_some _ e
  · rw [Heap.size_update, size_push']
    exact Nat.le_succ _
theorem sorted_from {β : Type} {R : Value → β → Prop} {enc : β → PyData} {v : Value} {Z : Value → Shared → Prop}
    (hc : wpAny (model P w) A.in1 (collect v) (fun us s1 => ∃ bs : List β, EachIs R us bs ∧ EachIs (fun u b => ∃ as, Reads s1.heap u (enc b) as) us bs ∧ (AllAlike (bs.map enc) ∧ Sortable (bs.map enc)) ∧ bs.length ≤ sizeLine ∧ (∀ b, b ∈ bs → A.units + 2 + (enc b).depth < cLine) ∧
      ∀ (h2 : Heap) (p : Addr) (out : Array Value) (c : Nat), (∀ b o, s1.heap.get? b = some o → h2.get? b = some o) → s1.heap.objs.size ≤ p → h2.get? p = some (seqObj "list" out c) → EachIs R out.toList (bs.mergeSort (dataLe false enc)) → Z (.ref p) { s1 with heap := h2 }) E s) :
    wpAny (model P w) A (call (.builtin "sorted") [v]) Z E s := by
  refine Calls.call_function_entry kind_sorted plain_sorted entry_sorted (args_sorted1 _) ?_
  unfold Builtin.«sorted»
  refine wpAny_bind (m := checkCount "sorted" 1 1 _) (wpAny_pure (wpAny_bind (wpAny_mono hc (fun us s1 ⟨bs, e, er, ⟨hal, hk⟩, hL, hu, fin⟩ => ?_) fun _ _ z => z)))
  have len : us.length ≤ sizeLine := by rw [e.length]; exact hL
  refine wpAny_bind (wpAny_newList ?_ len)
  have hoL : (s1.heap.push (seqObj "list" us.toArray 0)).get? s1.heap.objs.size = some (seqObj "list" us.toArray 0) := Heap.get?_push_size _ rfl
  have old : ∀ b o, s1.heap.get? b = some o → (sortingHeap (s1.heap.push (seqObj "list" us.toArray 0)) s1.heap.objs.size us).get? b = some o := fun b o q => sortingHeap_old (Nat.ne_of_lt (Heap.lt_size q)) (Heap.get?_push_of_some _ q)
  have er' : EachIs (fun u b => ∃ as, Reads (sortingHeap (s1.heap.push (seqObj "list" us.toArray 0)) s1.heap.objs.size us) u (enc b) as) us bs := er.mono fun _ _ ⟨as, r⟩ => ⟨as, PyProof.Rows.Reads.keeps old r⟩
  refine wpAny_bind (wpAny_holding (wpAny_call_entry slot_list_sort ⟨_, hoL, rfl⟩ entry_list_sort (list_sort_vals (s := { s1 with heap := s1.heap.push (seqObj "list" us.toArray 0) }) hoL
    (SortsAt.data (s := { s1 with heap := sortingHeap (s1.heap.push (seqObj "list" us.toArray 0)) s1.heap.objs.size us }) (each_map (R := fun u d => ∃ as, Reads (sortingHeap (s1.heap.push (seqObj "list" us.toArray 0)) s1.heap.objs.size us) u d as) enc er') hal hk (bound_map hu)) len ⟨_, rfl, ?_⟩) (args_list_sort _)))
  obtain ⟨c, hcc⟩ := sortedHeap_at (vs := us) (out := (sortVals (dataKind _ (bs.map enc)) false us us).toArray) hoL
  refine wpAny_pure ⟨_, rfl, fin _ s1.heap.objs.size _ c (fun b u z => ?_) (Nat.le_refl _) hcc ?_⟩
  · have lt := Heap.lt_size z
    rw [sortedHeap_old (Nat.ne_of_lt lt) (by rw [size_push']; exact Nat.lt_succ_of_lt lt)]
    exact Heap.get?_push_of_some _ z
  · have := sortVals_data false e er' hal
    simpa using this
end
end AGS
set_option Elab.async false
set_option linter.all false
set_option maxRecDepth 100000
set_option maxHeartbeats 1000000
namespace AG
open PySem L2 PySem.Spec PyProof.Rows
section
variable {X : Cx} {pins : List (Addr × Obj)} {σ : L2.St} {H : Hp} {s s' : Shared} {a : Addr} {o : HO}
theorem Inv.other {d : Drawn} (I : L2.Inv X pins σ H s) : L2.Inv X pins σ H { s with drawn := d } := ⟨I.ok, I.os, I.bare, I.base, I.loc, I.cell, I.free, I.freeC, I.pin, I.hok, I.len⟩
theorem laid_any (I : L2.Inv X pins σ H s) (k : ∀ b u, s.heap.get? b = some u → s'.heap.get? b = some u) (g : s'.gens = s.gens) (eo : s'.os = s.os) (hp : s.heap.objs.size ≤ a) (new : ObjOk X.prog X.w (upd H a o) s'.heap a o) :
    L2.Inv X pins σ (upd H a o) s' := by
  obtain ⟨h', g', d', t', o'⟩ := s'
  cases g
  cases eo
  exact Inv.other (d := d') (I.laid (t' := t') k hp new)
theorem setO_ok {h : Heap} {ts : List Str} (R : AGS.TS X.prog X.w h a ts) : ObjOk X.prog X.w H h a (setO X.prog X.w a ts) := ⟨R, R.ob, fun _ _ z k => z.at k⟩
theorem setO_at {ts : List Str} (I : L2.Inv X pins σ H s) (h : H a = some (setO X.prog X.w a ts)) : AGS.TS X.prog X.w s.heap a ts := (I.hok _ _ h).1
end
def okPy (es : List PyData) : Bool := es.all (fun d => es.all fun e => PySem.W.alike d e && decide (d.depth ≤ 8)) && (es.all (fun d => match d with
  | .tuple (_ :: _) => true
  | _ => false) || es.all (fun d => match d with
  | .none => false
  | .tuple _ => false
  | _ => true))
theorem okPy_ok {es : List PyData} (h : okPy es = true) : (PySem.W.AllAlike es ∧ PySem.W.Sortable es) ∧ ∀ e ∈ es, e.depth ≤ 8 := by
  unfold okPy at h
  simp only [Bool.and_eq_true, Bool.or_eq_true, List.all_eq_true, decide_eq_true_eq] at h
  obtain ⟨h1, h2⟩ := h
  refine ⟨⟨fun d hd e he => (h1 d hd e he).1, ?_⟩, fun e he => (h1 e he e he).2⟩
  rcases h2 with h2 | h2
  · refine .inl fun d hd => ?_
    have := h2 d hd
    cases d with
    | tuple l =>
      cases l with
      | nil => cases this
      | cons x r => exact ⟨x, r, rfl⟩
    | _ => cases this
  · refine .inr fun d hd => ?_
    have := h2 d hd
    cases d with
    | none => cases this
    | tuple l => cases this
    | _ => exact ⟨by simp, by simp⟩
theorem sort_same {α : Type} {le : α → α → Bool} (anti : ∀ a b, le a b = true → le b a = true → a = b) : ∀ {l m : List α}, l.Pairwise (fun a b => le a b = true) → m.Pairwise (fun a b => le a b = true) → l.Perm m → l = m
  | [], m, _, _, p => (List.nil_perm.mp p).symm
  | a :: l, [], _, _, p => by
    have := p.length_eq
    simp at this
  | a :: l, b :: m, h1, h2, p => by
    obtain ⟨a1, a2⟩ := List.pairwise_cons.mp h1
    obtain ⟨b1, b2⟩ := List.pairwise_cons.mp h2
    have e : a = b := by
      rcases List.mem_cons.mp (p.mem_iff.mp List.mem_cons_self) with z | z
      · exact z
      · rcases List.mem_cons.mp (p.mem_iff.mpr (List.mem_cons_self (a := b) (l := m))) with y | y
        · exact y.symm
        · exact anti _ _ (a1 b y) (b1 a z)
    subst e
    rw [sort_same anti a2 b2 ((List.perm_cons a).mp p)]
def leT (a b : Str) : Bool := decide (a.cps.toList ≤ b.cps.toList)
theorem leT_eq : PySem.W.dataLe false (fun b : Str => PyData.str b) = leT := PySem.W.dataLe_str fun b => b
theorem leT_anti (a b : Str) (h : leT a b = true) (k : leT b a = true) : a = b := by
  unfold leT at h k
  simp only [decide_eq_true_eq] at h k
  exact PySem.W.str_of_cps (List.le_antisymm h k)
theorem leT_total : PySem.W.TotalLe leT := by
  have := PySem.W.sortLe_total (PyProof.Rows.listOrd PyProof.Rows.itemOrd) false (fun b : Str => PySem.W.keyToks (PyData.str b))
  have e : PySem.W.sortLe (PyProof.Rows.listOrd PyProof.Rows.itemOrd) false (fun b : Str => PySem.W.keyToks (PyData.str b)) = leT := leT_eq
  rw [e] at this
  exact this
def srtT (ts : List Str) : List Str := ts.mergeSort leT
theorem srtT_perm {a b : List Str} (h : a.Perm b) : srtT a = srtT b := by
  refine sort_same leT_anti ?_ ?_ (((List.mergeSort_perm a leT).trans h).trans (List.mergeSort_perm b leT).symm)
  · exact List.pairwise_mergeSort (fun x y z => leT_total.trans x y z) (fun x y => by
      rcases leT_total.total x y with h | h <;> simp [h]) a
  · exact List.pairwise_mergeSort (fun x y z => leT_total.trans x y z) (fun x y => by
      rcases leT_total.total x y with h | h <;> simp [h]) b
end AG
set_option Elab.async false
set_option linter.all false
set_option maxRecDepth 100000
set_option maxHeartbeats 1000000
namespace AG
open PySem L2 PySem.Spec PyProof.Rows
def pyT (d : D) : PyData := (pyOf d).getD .none
def leD : D → D → Bool := PySem.W.dataLe false pyT
def leZ : D × V → D × V → Bool := PySem.W.dataLe false fun z => pyT z.1
theorem pyL_all : ∀ {l : List D} {es : List PyData}, pyL l = some es → es = l.map pyT ∧ ∀ d ∈ l, pyOf d = some (pyT d)
  | [], es, h => by simp only [pyL, Option.some.injEq] at h; subst h; exact ⟨rfl, fun d h => by cases h⟩
  | d :: l, es, h => by
    unfold pyL at h
    cases q : pyOf d with
    | none => rw [q] at h; cases h
    | some e =>
      cases q2 : pyL l with
      | none => rw [q, q2] at h; cases h
      | some es2 =>
        rw [q, q2] at h
        cases h
        obtain ⟨h1, h2⟩ := pyL_all q2
        have e0 : pyT d = e := by unfold pyT; rw [q]; rfl
        refine ⟨by rw [List.map_cons, e0, ← h1], fun x hx => ?_⟩
        rcases List.mem_cons.mp hx with rfl | hx
        · rw [e0]; exact q
        · exact h2 x hx
def rSortedA (K : PySem.W.Frag) (P : Program) (w : World) : List V → Hp → VK → Prop := fun xs H Q =>
  (∃ (a : Addr) (zs : List (D × V)), xs = [.ref a] ∧ (SqL K H a (zs.map (·.2)) ∨ SqT K H a (zs.map (·.2))) ∧ (∀ z ∈ zs, Dp K H z.2 (pyT z.1)) ∧ okPy (zs.map fun z => pyT z.1) = true ∧ zs.length ≤ LIM ∧
    ∀ p, H p = none → Q (.ref p) (upd H p (.lst ((zs.mergeSort leZ).map (·.2))))) ∨
  ∃ (a : Addr) (ts : List Str), xs = [.ref a] ∧ H a = some (setO P w a ts) ∧ ts.length ≤ LIM ∧ ∀ p, H p = none → Q (.ref p) (upd H p (.lst ((srtT ts).map V.str)))
theorem each_vals : ∀ {zs : List (D × V)} {us : List Value}, Vals (zs.map (·.2)) us → PySem.W.EachIs (fun u z => RelV z.2 u) us zs
  | [], us, h => by cases h; exact .nil
  | z :: zs, us, h => by
    cases h with
    | cons h1 h2 => exact .cons h1 (each_vals h2)
theorem vals_each : ∀ {zs : List (D × V)} {us : List Value}, PySem.W.EachIs (fun u (z : D × V) => RelV z.2 u) us zs → Vals (zs.map (·.2)) us
  | [], us, h => by cases h; exact .nil
  | z :: zs, us, h => by
    cases h with
    | cons h1 h2 => exact .cons h1 (vals_each h2)
theorem each_and {α β : Type} {R S : α → β → Prop} : ∀ {as : List α} {bs : List β}, PySem.W.EachIs R as bs → (∀ a b, b ∈ bs → R a b → S a b) → PySem.W.EachIs S as bs
  | _, _, .nil, _ => .nil
  | _, _, .cons h t, k => .cons (k _ _ List.mem_cons_self h) (each_and t fun a b m => k a b (List.mem_cons_of_mem _ m))
theorem strs_each : ∀ {ts : List Str} {us : List Value}, (∀ u ∈ us, ∃ x t, u = Value.str x t) → us.map AGS.tkey = ts → PySem.W.EachIs (fun u (t : Str) => RelV (.str t) u) us ts
  | [], us, _, e => by
    have : us = [] := by simpa using e
    subst this
    exact .nil
  | t :: ts, us, h, e => by
    cases us with
    | nil => cases e
    | cons u us =>
      obtain ⟨x, k, rfl⟩ := h u List.mem_cons_self
      injection e with e1 e2
      subst e1
      exact .cons ⟨k, rfl⟩ (strs_each (fun u hu => h u (List.mem_cons_of_mem _ hu)) e2)
theorem each_strs : ∀ {ts : List Str} {us : List Value}, PySem.W.EachIs (fun u (t : Str) => RelV (.str t) u) us ts → Vals (ts.map V.str) us
  | [], us, h => by cases h; exact .nil
  | z :: zs, us, h => by
    cases h with
    | cons h1 h2 => exact .cons h1 (each_strs h2)
theorem cr_sorted {X : Cx} (hu : X.A.units + 64 < cLine) (hcalm : X.calm = true) : CallR X (.builtin "sorted") (rSortedA X.K X.prog X.w) := by
  intro pins s σ H vs us Q I r h
  have hh : X.A.in1.handled = none := I.ok.hd hcalm
  have lim : ∀ n, n ≤ LIM → n ≤ sizeLine := fun n h => lim_line h
  rcases h with ⟨a, zs, rfl, hs, hd, ok, hl, q⟩ | ⟨a, ts, rfl, hs, hl, q⟩
  · obtain ⟨u, rfl, ru⟩ := vals1 r
    obtain rfl : u = Value.ref a := ru
    obtain ⟨ok1, ok2⟩ := okPy_ok ok
    have fin : ∀ (its : List Value) (h1 : Heap), Vals (zs.map (·.2)) its → (∀ b o, s.heap.get? b = some o → h1.get? b = some o) → s.heap.objs.size ≤ h1.objs.size → ∃ bs : List (D × V), PySem.W.EachIs (fun u z => RelV z.2 u) its bs ∧ PySem.W.EachIs (fun u (z : D × V) => ∃ as, Reads h1 u (pyT z.1) as) its bs ∧
        (PySem.W.AllAlike (bs.map fun z => pyT z.1) ∧ PySem.W.Sortable (bs.map fun z => pyT z.1)) ∧ bs.length ≤ sizeLine ∧ (∀ b, b ∈ bs → X.A.units + 2 + (pyT b.1).depth < cLine) ∧
        ∀ (h2 : Heap) (p : Addr) (out : Array Value) (c : Nat), (∀ b o, h1.get? b = some o → h2.get? b = some o) → h1.objs.size ≤ p → h2.get? p = some (seqObj "list" out c) → PySem.W.EachIs (fun u (z : D × V) => RelV z.2 u) out.toList (bs.mergeSort (PySem.W.dataLe false fun z => pyT z.1)) → EP X pins σ Q (.ref p) { s with heap := h2 } := fun its h1 rv k kz => by
      refine ⟨zs, each_vals rv, each_and (each_vals rv) fun u z hz e => ?_, ok1, lim _ hl, fun b hb => ?_, fun h2 p out c k2 hp at_ e => ?_⟩
      · obtain ⟨as, hr⟩ := Dp.reads I (pyT z.1) z.2 u (hd z hz) e
        exact ⟨as, PyProof.Rows.Reads.keeps k hr⟩
      · have := ok2 _ (List.mem_map.mpr ⟨b, hb, rfl⟩)
        omega
      · have hp' : s.heap.objs.size ≤ p := Nat.le_trans kz hp
        refine ⟨.ref p, _, I.laid (t' := s.toks) (o := .lst ((zs.mergeSort leZ).map (·.2))) (fun b o z => k2 b o (k b o z)) hp' ⟨?_, out.toList, c, vals_each e, by simpa using at_⟩, rfl, q p (I.hok.fresh hp')⟩
        rw [List.length_map, List.length_mergeSort]
        exact lim _ hl
    rcases hs with hs | hs
    · obtain ⟨its, rv, pl, hz⟩ := I.list hs
      refine AGS.sorted_from (R := fun u (z : D × V) => RelV z.2 u) (enc := fun z : D × V => pyT z.1) (collect_list pl.isList ?_ (by rw [← rv.length]; exact hz))
      refine fin its _ rv (fun b o z => ?_) (by rw [Heap.size_update, size_push']; exact Nat.le_succ _)
      rw [Heap.get?_update_ne _ _ _ _ (Nat.ne_of_lt (Heap.lt_size z))]
      exact Heap.get?_push_of_some _ z
    · obtain ⟨its, rv, pl, hz⟩ := I.tuple hs
      exact AGS.sorted_from (R := fun u (z : D × V) => RelV z.2 u) (enc := fun z : D × V => pyT z.1) (AGS.tup_collect pl (by rw [← rv.length]; exact hz) fun h1 k kz => fin its h1 rv k kz)
  · obtain ⟨u, rfl, ru⟩ := vals1 r
    obtain rfl : u = Value.ref a := ru
    refine AGS.sorted_from (R := fun u (t : Str) => RelV (.str t) u) (enc := fun t : Str => PyData.str t) (AGS.ts_collect (setO_at I hs) hh fun s1 out k kz g eo hst pm => ?_)
    refine ⟨out.map AGS.tkey, strs_each hst rfl, each_and (strs_each hst rfl) fun u z hz e => ?_, ?_, ?_, fun b hb => ?_, fun h2 p o2 c k2 hp at_ e => ?_⟩
    · obtain ⟨t, rfl⟩ := e
      exact ⟨_, .str _ _⟩
    · refine ⟨PySem.W.AllAlike.of fun b b' => rfl, PySem.W.Sortable.others fun b => ⟨by simp, by simp⟩⟩
    · rw [pm.length_eq]; exact lim _ hl
    · show X.A.units + 2 + 0 < cLine
      omega
    · have hp' : s.heap.objs.size ≤ p := Nat.le_trans kz hp
      have e2 : (out.map AGS.tkey).mergeSort (PySem.W.dataLe false fun t : Str => PyData.str t) = srtT ts := by
        rw [leT_eq]
        exact srtT_perm pm
      rw [e2] at e
      refine ⟨.ref p, _, laid_any I (o := .lst ((srtT ts).map V.str)) (s' := { s1 with heap := h2 }) (fun b o z => k2 b o (k b o z)) g eo hp' ⟨?_, o2.toList, c, each_strs e, by simpa using at_⟩, rfl, q p (I.hok.fresh hp')⟩
      rw [List.length_map]
      unfold srtT
      rw [List.length_mergeSort]
      exact lim _ hl
end AG
set_option Elab.async false
set_option linter.all false
set_option maxRecDepth 100000
set_option maxHeartbeats 2000000
namespace AG
open PySem L2 PySem.Spec PyProof.Rows
end AG
set_option Elab.async false
set_option linter.all false
set_option maxRecDepth 100000
namespace AG
open PySem L2 PySem.Spec PyProof.Rows
section
variable {G : Cfg} {E : Ent} {W : WX} {X : Cx} {F : Hp} {A : Adr} {σ : L2.St} {H : Hp} {s : S} {t : Expr} {st : Stmt}
def dcL (b : Bool) (tg : D → M Unit) (c : M Bool) (kk vv : M D) (vs : List Nat) : List D → List (D × D) → M (List (D × D))
  | [], acc => fun s => .ok acc s
  | d :: ds, acc => fun s => (tg d s).bind fun _ s1 => (c s1).bind fun ok s2 => if ok = true then (kk s2).bind fun y s3 => (vv s3).bind fun z s4 =>
      if sto z && isKey b y && decide (acc.length < LIM) then dcL b tg c kk vv vs ds (putD b acc y z) { s4 with rhz := wipeR s4.rhz vs } else .st
    else dcL b tg c kk vv vs ds acc { s2 with rhz := wipeR s2.rhz vs }
def dcF (b : Bool) (it : M (List D)) (tg : D → M Unit) (c : M Bool) (kk vv : M D) (vs : List Nat) : M MO := fun s => (it s).bind fun ds s1 =>
  if vs.any (fun v => isOwn (s1.rhz.getD v .un)) then .st else match dcL b tg c kk vv vs ds [] { s1 with rhz := wipeR s1.rhz vs } with
    | .ok acc s2 => .ok (.md b acc) { s2 with rhz := backR s1.rhz s2.rhz vs }
    | _ => .st
end
end AG
set_option Elab.async false
set_option linter.all false
set_option maxRecDepth 100000
namespace AG
open PySem L2 PySem.Spec PyProof.Rows
section
variable {G : Cfg} {E : Ent} {F : Hp} {A : Adr} {σ : L2.St} {H : Hp} {s : S}
theorem Rel.see (R : Rel G E F A σ H s) {b : Addr} {vs : List V} (h : H b = some (.tup vs)) : ∃ F', FLe F F' ∧ Rel G E F' A σ H s ∧ F' b = some (.tup vs) := by
  cases q : F b with
  | some o =>
    refine ⟨F, FLe.refl _, R, ?_⟩
    rcases R.sub b o q with k | ⟨_, od, k⟩
    · rw [h] at k
      cases k
      exact q
    · rw [h] at k
      cases k
  | none =>
    have fl : FLe F (upd F b (.tup vs)) := fle_upd q
    have ne : ∀ {a : Addr} {m : MO}, MoOk G F A H a m → a ≠ b := fun {a m} hm z => by
      subst z
      exact hm.solid h trivial
    refine ⟨_, fl, ⟨fun a u hu => ?_, R.len, fun i x v h1 h2 => (R.slot i x v h1 h2).mono fl (ALe.refl _) fun a m h3 h4 h5 h6 h7 => ?_, R.dist, R.cells.mono fl (fun n a hn => ?_) (fun n a hn o' ho => ho), R.fle.trans fl, R.ale, R.nle, R.keep, R.tb, ⟨R.tabs.t, fun a ps h => by
      by_cases q : a = b
      · rw [q, upd_same] at h
        cases h
      · rw [upd_ne q] at h
        exact R.tabs.n a ps h⟩, fun a u hu => ?_, R.hz⟩, upd_same⟩
    · by_cases e : a = b
      · subst e
        rw [upd_same] at hu
        cases hu
        exact .inl h
      · rw [upd_ne e] at hu
        exact R.sub a u hu
    · have k := R.slot i x v h1 h2
      rw [h4] at k
      obtain ⟨c, k1, k2, _⟩ := k
      rw [h3] at k1
      cases k1
      exact ⟨by rw [upd_ne (ne k2)]; exact h5, h7, fun _ z => z⟩
    · obtain ⟨c, k1, k2, k3⟩ := R.cells.at_ n _ (List.getElem?_eq_getElem (R.cells.dom n a hn))
      rw [hn] at k1
      cases k1
      rw [upd_ne (ne k2)]
      exact k3
    · by_cases e : a = b
      · subst e
        rw [upd_same] at hu
        cases hu
        exact .inr (.inr trivial)
      · rw [upd_ne e] at hu
        exact R.fz a u hu
theorem keysD_mk : ∀ {l : List D} {k : List Key}, keysD l = some k → RepL G F A l (k.map kV)
  | [], k, h => by simp only [keysD, Option.some.injEq] at h; subst h; simp [RepL]
  | d :: l, k, h => by
    unfold keysD at h
    cases q : keyD d with
    | none => rw [q] at h; cases h
    | some k0 =>
      cases q2 : keysD l with
      | none => rw [q, q2] at h; cases h
      | some ks =>
        rw [q, q2] at h
        cases h
        simp only [List.map_cons, RepL]
        refine ⟨_, _, rfl, ?_, keysD_mk q2⟩
        cases d <;> first | (simp only [keyD, Option.some.injEq] at q; subst q; simp [Rep, kV]) | cases q
theorem keys_see (R : Rel G E F A σ H s) : ∀ {l : List (D × D)} {ks : List (List Key)} {vs : List V} {bs : List Addr}, ks.map some = l.map (fun p => keyT p.1) → ks.length = vs.length → IsKeys H (List.zip ks vs) bs → ∃ F', FLe F F' ∧ Rel G E F' A σ H s ∧ RepL G F' A (l.map (·.1)) (bs.map V.ref)
  | [], [], vs, bs, _, _, h => by
    cases vs with
    | nil => cases h; exact ⟨F, FLe.refl _, R, by simp [RepL]⟩
    | cons _ _ => rename_i z; simp at z
  | [], _ :: _, _, _, e, _, _ => by simp at e
  | _ :: _, [], _, _, e, _, _ => by simp at e
  | p :: l, k :: ks, [], bs, _, e, _ => by simp at e
  | p :: l, k :: ks, v :: vs, bs, e, en, h => by
    rw [List.zip_cons_cons] at h
    cases h with
    | @cons _ b _ bs' h1 h2 =>
      simp only [List.map_cons, List.cons.injEq] at e
      obtain ⟨F1, f1, R1, r1⟩ := keys_see R e.2 (by simpa using en) h2
      obtain ⟨F2, f2, R2, at_⟩ := R1.see h1
      refine ⟨F2, f1.trans f2, R2, ?_⟩
      simp only [List.map_cons, RepL]
      refine ⟨_, _, rfl, ?_, RepL.mono f2 (ALe.refl _) _ _ r1⟩
      have e1 := e.1.symm
      unfold keyT at e1
      split at e1
      · rename_i d l' ed
        rw [ed]
        simp only [Rep]
        exact ⟨b, _, rfl, at_, keysD_mk e1⟩
      · cases e1
theorem keys_rep : ∀ {l : List (D × D)} {ks : List Key} {vs : List V}, ks.map some = l.map (fun p => keyD p.1) → ks.length = vs.length → RepL G F A (l.map (·.1)) ((List.zip ks vs).map fun kv => kV kv.1)
  | [], [], [], _, _ => by simp [RepL]
  | [], [], _ :: _, _, e => by simp at e
  | [], _ :: _, _, e, _ => by simp at e
  | _ :: _, [], _, e, _ => by simp at e
  | p :: l, k :: ks, [], _, e => by simp at e
  | p :: l, k :: ks, v :: vs, e, en => by
    simp only [List.map_cons, List.cons.injEq] at e
    simp only [List.map_cons, List.zip_cons_cons, RepL]
    refine ⟨_, _, rfl, ?_, keys_rep e.2 (by simpa using en)⟩
    have := keysD_mk (G := G) (F := F) (A := A) (l := [p.1]) (k := [k]) (by simp [keysD, ← e.1])
    simp only [RepL, List.map_cons, List.map_nil] at this
    obtain ⟨v', r', h1, h2, _⟩ := this
    cases h1
    exact h2
def listE (s : S) : List D → Option MO
  | [x] => (match vw s x with
    | .dct _ l => some (.ml (l.map (·.1)))
    | _ => listN s [x])
  | _ => none
def rListE (K : PySem.W.Frag) : List V → Hp → VK → Prop := fun xs H Q => (rListA K xs H Q ∨ (∃ (a : Addr) (kvs : List (Key × V)), xs = [.ref a] ∧ Rd H a (.dK kvs) ∧ ∀ p, H p = none → Q (.ref p) (upd H p (.lst (kvs.map fun kv => kV kv.1))))) ∨
  (∃ d kvs, xs = [V.ref d] ∧ Rd H d (.dT kvs) ∧ ∀ p bs, H p = none → IsKeys H kvs bs → Q (.ref p) (upd H p (.lst (bs.map V.ref))))
theorem cr_listE {X : Cx} (hc : X.calm = true) : CallR X (.type "list") (rListE X.K) := CallR.or (CallR.or cr_list (call_listD hc)) (call_list_dT hc)
theorem cn_listE : ClN G (rListE G.K) listE := by
  intro E F A σ H s xs ds m Q R hx q k
  unfold listE at q
  split at q
  · rename_i x
    split at q
    · rename_i t l hv
      cases q
      obtain ⟨v, rfl, hx1⟩ := paired1 hx rfl
      obtain ⟨a, vs, o, rfl, r, hr, hd⟩ := dct_view R hx1 hv
      cases t with
      | false =>
        obtain ⟨ks, rfl, h2, h3⟩ := hd
        refine .inl (.inr ⟨a, _, rfl, hr, fun p hp => ?_⟩)
        obtain ⟨R2, k1, k2, k3, k4⟩ := R.laid (o := .lst ((List.zip ks vs).map fun kv => kV kv.1)) hp
        exact k p F A _ (FLe.refl _) (ALe.refl _) R2 ⟨⟨_, upd_same, keys_rep h2 h3⟩, k1, k2, k3, k4⟩
      | true =>
        obtain ⟨ks, rfl, h2, h3⟩ := hd
        refine .inr ⟨a, _, rfl, hr, fun p bs hp hk => ?_⟩
        obtain ⟨F1, f1, R1, r1⟩ := keys_see R h2 h3 hk
        obtain ⟨R2, k1, k2, k3, k4⟩ := R1.laid (o := .lst (bs.map V.ref)) hp
        exact k p F1 A _ f1 (ALe.refl _) R2 ⟨⟨_, upd_same, r1⟩, k1, k2, k3, k4⟩
    · exact .inl (.inl (cn_list E F A σ H s xs _ m Q R hx q k))
  · cases q
end
end AG
set_option Elab.async false
set_option linter.all false
set_option maxRecDepth 100000
namespace AG
open PySem L2 PySem.Spec PyProof.Rows
theorem set_view {G : Cfg} {E : Ent} {F : Hp} {A : Adr} {σ : L2.St} {H : Hp} {s : S} (R : Rel G E F A σ H s) {d : D} {v : V} {l : List D} (h : VOk G σ F A d v) (q : vw s d = .set l) : ∃ a ts, v = .ref a ∧ H a = some (setO G.P G.w a ts) ∧ l = ts.map D.str := by
  cases d with
  | set l' =>
    cases q
    have h' : Rep G F A (.set l) v := h
    simp only [Rep] at h'
    obtain ⟨a, ts, h1, h2, h3⟩ := h'
    refine ⟨a, ts, h1, ?_, h3⟩
    rcases R.sub a _ h2 with k | ⟨k, _⟩
    · exact k
    · exact k.elim
  | loc i =>
    simp only [vw] at q
    split at q
    · rename_i m _
      cases m <;> cases q
    · cases q
  | hnd i =>
    simp only [vw] at q
    split at q
    · rename_i m _
      cases m <;> cases q
    · cases q
  | _ => cases q
def sortN (s : S) : List D → Option MO
  | [x] => (match vw s x with
    | .set l => (match strsOf l with
      | some ts => if ts.length ≤ LIM then some (.ml ((srtT ts).map .str)) else none
      | none => none)
    | y => (match seqO y with
      | some l => (match pyL l with
        | some es => if okPy es && decide (l.length ≤ LIM) then some (.ml (l.mergeSort leD)) else none
        | none => none)
      | none => none))
  | _ => none
theorem strs_repL {G : Cfg} {F : Hp} {A : Adr} : ∀ ts : List Str, RepL G F A (ts.map D.str) (ts.map V.str)
  | [] => by simp [RepL]
  | t :: ts => by
    simp only [List.map_cons, RepL, Rep]
    exact ⟨_, _, rfl, rfl, strs_repL ts⟩
theorem str_inj : ∀ {a b : List Str}, a.map D.str = b.map D.str → a = b
  | [], [], _ => rfl
  | [], _ :: _, h => by cases h
  | _ :: _, [], h => by cases h
  | x :: a, y :: b, h => by
    simp only [List.map_cons, List.cons.injEq, D.str.injEq] at h
    rw [h.1, str_inj h.2]
theorem zs_of {G : Cfg} {F : Hp} {A : Adr} : ∀ {l : List D} {vs : List V}, RepL G F A l vs → (List.zip l vs).map (·.1) = l ∧ (List.zip l vs).map (·.2) = vs ∧ ∀ z ∈ List.zip l vs, Rep G F A z.1 z.2
  | [], vs, h => by simp only [RepL] at h; subst h; exact ⟨rfl, rfl, fun z h => by cases h⟩
  | d :: l, vs, h => by
    simp only [RepL] at h
    obtain ⟨v, r, rfl, h2, h3⟩ := h
    obtain ⟨e1, e2, e3⟩ := zs_of h3
    refine ⟨by simp [e1], by simp [e2], fun z hz => ?_⟩
    rcases List.mem_cons.mp hz with rfl | hz
    · exact h2
    · exact e3 z hz
theorem of_zs {G : Cfg} {F : Hp} {A : Adr} : ∀ {zs : List (D × V)}, (∀ z ∈ zs, Rep G F A z.1 z.2) → RepL G F A (zs.map (·.1)) (zs.map (·.2))
  | [], _ => by simp [RepL]
  | z :: zs, h => by
    simp only [List.map_cons, RepL]
    exact ⟨_, _, rfl, h z List.mem_cons_self, of_zs fun y hy => h y (List.mem_cons_of_mem _ hy)⟩
theorem cn_sort : ClN G (rSortedA G.K G.P G.w) sortN := by
  intro E F A σ H s xs ds m Q R hx q k
  unfold sortN at q
  split at q
  · rename_i x
    obtain ⟨v, rfl, hv⟩ := paired1 hx rfl
    split at q
    · rename_i l h1
      obtain ⟨a, ts, rfl, h2, rfl⟩ := set_view R hv h1
      split at q
      · rename_i ts' h3
        have e : ts = ts' := by
          exact str_inj (strsOf_map h3)
        subst e
        split at q
        · rename_i hl
          cases q
          refine .inr ⟨a, ts, rfl, h2, hl, fun p hp => ?_⟩
          obtain ⟨R2, k1, k2, k3, k4⟩ := R.laid (o := .lst ((srtT ts).map V.str)) hp
          exact k p F A _ (FLe.refl _) (ALe.refl _) R2 ⟨⟨_, upd_same, strs_repL _⟩, k1, k2, k3, k4⟩
        · cases q
      · cases q
    · rename_i y hy
      split at q
      · rename_i l h3
        split at q
        · rename_i es h4
          split at q
          · rename_i h5
            simp only [Bool.and_eq_true, decide_eq_true_eq] at h5
            cases q
            obtain ⟨a, vs, rfl, h6, r⟩ := seq_view R hv h3
            obtain ⟨e1, e2, e3⟩ := zs_of r
            obtain ⟨e4, e5⟩ := pyL_all h4
            have e6 : (List.zip l vs).map (fun z => pyT z.1) = es := by
              rw [e4]
              conv => rhs; rw [← e1]
              rw [List.map_map]
              rfl
            refine .inl ⟨a, List.zip l vs, rfl, by rw [e2]; exact h6, fun z hz => ?_, by rw [e6]; exact h5.1, ?_, fun p hp => ?_⟩
            · refine dp_rep R.sub _ _ _ (e3 z hz) (e5 _ ?_)
              rw [← e1]
              exact List.mem_map_of_mem hz
            · have := congrArg List.length e1
              simp only [List.length_map] at this
              rw [this]
              exact h5.2
            · obtain ⟨R2, k1, k2, k3, k4⟩ := R.laid (o := .lst (((List.zip l vs).mergeSort leZ).map (·.2))) hp
              refine k p F A _ (FLe.refl _) (ALe.refl _) R2 ⟨⟨_, upd_same, ?_⟩, k1, k2, k3, k4⟩
              have e7 : l.mergeSort leD = ((List.zip l vs).mergeSort leZ).map (·.1) := by
                have e8 := List.map_mergeSort (r := leZ) (s := leD) (f := fun z : D × V => z.1) (l := List.zip l vs) (fun a _ b _ => rfl)
                rw [e1] at e8
                exact e8.symm
              rw [e7]
              exact of_zs fun z hz => e3 z ((List.mergeSort_perm _ _).mem_iff.mp hz)
          · cases q
        · cases q
      · cases q
  · cases q
def setD (s : S) : List D → Option D
  | [x] => (match seqO (vw s x) with
    | some l => (match strsOf l with
      | some ts => if ts.length ≤ 4000 then some (.set ((AGS.dist [] ts).map .str)) else none
      | none => none)
    | none => none)
  | _ => none
def rSetA (K : PySem.W.Frag) (P : Program) (w : World) : List V → Hp → VK → Prop := fun xs H Q => ∃ a ts, xs = [.ref a] ∧ (SqL K H a (ts.map V.str) ∨ SqT K H a (ts.map V.str)) ∧ ts.length ≤ 4000 ∧ ∀ p, H p = none → Q (.ref p) (upd H p (setO P w p (AGS.dist [] ts)))
theorem strs_are : ∀ {ts : List Str} {us : List Value}, Vals (ts.map V.str) us → StrsAre us ts
  | [], us, h => by cases h; exact .nil
  | t :: ts, us, h => by
    cases h with
    | cons h1 h2 =>
      obtain ⟨k, rfl⟩ := h1
      exact .cons _ _ (strs_are h2)
theorem cr_set {X : Cx} (hc : X.calm = true) : CallR X (.type "set") (rSetA X.K X.prog X.w) := by
  intro pins s σ H vs us Q I r h
  obtain ⟨a, ts, rfl, hs, hl, q⟩ := h
  obtain ⟨u, rfl, ru⟩ := vals1 r
  obtain rfl : u = Value.ref a := ru
  have few : ts.length + 1 < scanBound := Nat.lt_of_le_of_lt (Nat.succ_le_succ hl) (by decide)
  have fin : ∀ (h2 : Heap) (tk : Nat), AGS.TS X.prog X.w h2 s.heap.objs.size (AGS.dist [] ts) → (∀ b o, s.heap.get? b = some o → h2.get? b = some o) → EP X pins σ Q (.ref s.heap.objs.size) { s with heap := h2, toks := tk } := fun h2 tk z k =>
    ⟨.ref _, _, I.laid (t' := tk) k (Nat.le_refl _) (setO_ok z), rfl, q _ (I.hok.fresh (Nat.le_refl _))⟩
  rcases hs with hs | hs
  · obtain ⟨its, rv, pl, hz⟩ := I.list hs
    exact AGS.set_of_list ts (I.ok.hd hc) pl.isList (by simpa using strs_are rv) few fin
  · obtain ⟨its, rv, pl, hz⟩ := I.tuple hs
    exact AGS.set_of_tuple ts (I.ok.hd hc) pl (by simpa using strs_are rv) few fin
theorem cd_set : ClD G (rSetA G.K G.P G.w) setD := by
  intro E F A σ H s xs ds d Q R hx q k
  unfold setD at q
  split at q
  · rename_i x
    obtain ⟨v, rfl, hv⟩ := paired1 hx rfl
    split at q
    · rename_i l h1
      obtain ⟨a, vs, rfl, h2, r⟩ := seq_view R hv h1
      split at q
      · rename_i ts h3
        split at q
        · rename_i hl
          cases q
          obtain rfl := strsOf_map h3
          have e := RepL.strs r
          subst e
          refine ⟨a, ts, rfl, h2, hl, fun p hp => ?_⟩
          have fl := fle_upd (o := setO G.P G.w p (AGS.dist [] ts)) (R.sub.none hp)
          refine k _ _ A _ fl (ALe.refl _) (R.newFz hp) ?_
          show Rep G _ A (.set _) _
          simp only [Rep]
          exact ⟨p, _, rfl, upd_same, rfl⟩
        · cases q
      · cases q
    · cases q
  · cases q
def lenE (s : S) : List D → Option D
  | [x] => (match vw s x with
    | .set l => if l.length ≤ LIM then some (.int l.length) else none
    | .dct _ l => some (.int l.length)
    | .scr ns => (match x with
      | .scr ms => some (.int ms.length)
      | _ => none)
    | _ => lenD s [x])
  | _ => none
def rLenE (K : PySem.W.Frag) (P : Program) (w : World) : List V → Hp → VK → Prop := fun xs H Q => rLenA K xs H Q ∨ (∃ a ts, xs = [.ref a] ∧ H a = some (setO P w a ts) ∧ ts.length ≤ LIM ∧ Q (.int ts.length) H) ∨
  (∃ a kvs, xs = [V.ref a] ∧ Rd H a (.dK kvs) ∧ Q (.int (kvs.length : Nat)) H) ∨ ∃ a kvs, xs = [V.ref a] ∧ Rd H a (.dT kvs) ∧ Q (.int (kvs.length : Nat)) H
theorem cr_lenE {X : Cx} : CallR X (.builtin "len") (rLenE X.K X.prog X.w) := by
  intro pins s σ H vs us Q I r h
  rcases h with h | ⟨a, ts, rfl, hs, hl, q⟩ | ⟨a, kvs, rfl, hs, q⟩ | ⟨a, kvs, rfl, hs, q⟩
  · exact cr_len pins s σ H vs us Q I r h
  · obtain ⟨u, rfl, ru⟩ := vals1 r
    obtain rfl : u = Value.ref a := ru
    obtain ⟨ob, elts, epo, tab, g, x, d, els, pm, nod, z, f, _⟩ := setO_at I hs
    have n : elts.size = ts.length := by
      have := pm.length_eq
      simpa using this
    refine call_len_set g x d f (by rw [n]; unfold LIM at hl; omega) ?_
    rw [n]
    exact ⟨.int ((ts.length : Nat) : Int), H, I.tok _, ⟨_, rfl⟩, q⟩
  · obtain ⟨u, rfl, ru⟩ := vals1 r
    cases ru
    exact d_len I hs fun t s' I' => ⟨.int (kvs.length : Nat), H, I', ⟨t, rfl⟩, q⟩
  · obtain ⟨u, rfl, rx⟩ := vals1 r
    obtain rfl : u = Value.ref a := rx
    obtain ⟨z, hd, ys, rel, dd⟩ := dt_rd I.hok hs
    have hl : kvs.length = ys.length := Paired.length rel
    refine call_len_dictH hd dd (by rw [sizeLine_eq] at z; omega) ?_
    rw [← hl]
    exact ⟨.int ((kvs.length : Nat) : Int), H, I.tok _, ⟨_, rfl⟩, q⟩
theorem cd_lenE : ClD G (rLenE G.K G.P G.w) lenE := by
  intro E F A σ H s xs ds d Q R hx q k
  unfold lenE at q
  split at q
  · rename_i x
    split at q
    · rename_i l h1
      obtain ⟨v, rfl, hv⟩ := paired1 hx rfl
      obtain ⟨a, ts, rfl, h2, rfl⟩ := set_view R hv h1
      split at q
      · rename_i hl
        cases q
        refine .inr (.inl ⟨a, ts, rfl, h2, by simpa using hl, ?_⟩)
        have := k (.int ((ts.map D.str).length : Nat)) F A H (FLe.refl _) (ALe.refl _) R vok_int
        simpa using this
      · cases q
    · rename_i t l h1
      cases q
      obtain ⟨v, rfl, hv⟩ := paired1 hx rfl
      obtain ⟨a, vs, o, rfl, r, hr, hd⟩ := dct_view R hv h1
      cases t with
      | false =>
        obtain ⟨ks, rfl, h2, h3⟩ := hd
        exact .inr (.inr (.inl ⟨a, _, rfl, hr, by rw [zip_len h2 h3]; exact k _ F A H (FLe.refl _) (ALe.refl _) R vok_int⟩))
      | true =>
        obtain ⟨ks, rfl, h2, h3⟩ := hd
        exact .inr (.inr (.inr ⟨a, _, rfl, hr, by rw [zip_len h2 h3]; exact k _ F A H (FLe.refl _) (ALe.refl _) R vok_int⟩))
    · split at q
      · rename_i ms h1
        cases q
        obtain ⟨v, rfl, hv⟩ := paired1 hx rfl
        have hv : Rep G F A (.scr ms) v := hv
        simp only [Rep] at hv
        obtain ⟨a, e, h1⟩ := hv
        have hh : SqL G.K H a (ms.map V.int) := by
          rcases h1 with (h | ⟨o, h⟩) | h
          · rcases R.sub _ _ h with k | ⟨k, _⟩
            · exact .inl (.inl k)
            · exact k.elim
          · rcases R.sub _ _ h with k | ⟨k, _⟩
            · exact .inl (.inr ⟨o, k⟩)
            · exact k.elim
          · exact .inr h
        refine .inl (.inl ⟨a, _, by rw [e], .inl hh, ?_⟩)
        rw [List.length_map]
        exact k (.int (ms.length : Nat)) F A H (FLe.refl _) (ALe.refl _) R vok_int
      · cases q
    · exact .inl (cd_len E F A σ H s xs _ d Q R hx q k)
  · cases q
end AG
set_option Elab.async false
set_option linter.all false
set_option maxRecDepth 100000
set_option maxHeartbeats 2000000
namespace AGS
open PySem PySem.Spec PyProof.Rows L2 PySem.W PySem.Calls
end AGS
set_option Elab.async false
set_option linter.all false
set_option maxRecDepth 100000
set_option maxHeartbeats 2000000
namespace AG
open PySem L2 PySem.Spec PyProof.Rows LamX
structure Grow (T : List (Addr × Str)) (H H' : Hp) : Prop where
  all : ∀ b o, H b = some o → (∀ ps, o ≠ .tbl ps) → H' b = some o
  tbl : ∀ b ps, H b = some (.tbl ps) → ∃ qs, H' b = some (.tbl qs)
  tabs : Tabs T H'
theorem Grow.rfl' {T : List (Addr × Str)} {H : Hp} (t : Tabs T H) : Grow T H H := ⟨fun _ _ h _ => h, fun _ ps h => ⟨ps, h⟩, t⟩
section
variable {X : Cx} {pins : List (Addr × Obj)} {σ : L2.St} {H : Hp} {s : Shared}
theorem no_frame (I : L2.Inv X pins σ H s) {f : Addr} (hf : s.heap.objs.size ≤ f) : f ∉ frs X.stack := fun z => by
  rcases List.mem_cons.mp (I.stkSub _ z) with e | e
  · exact Nat.lt_irrefl _ (Nat.lt_of_lt_of_le (e ▸ I.lt) hf)
  · exact I.nofs hf e
structure Maker (X : Cx) (T : List (Addr × Str)) (c p : Addr) : Prop where
  b : TabB X.base X.mg c p
  cd : X.env.code = .ref c
  mem : (p, X.env.qual ++ "<lambda>") ∈ T
  one : ∀ r ∈ T, r.1 = p → r.2 = X.env.qual ++ "<lambda>"
theorem lam_made {T : List (Addr × Str)} {c p : Addr} {ps : Arguments} {body : Expr} {sc : Scope} {pos : Pos} {Er Z : Value → Shared → Prop} (I : L2.Inv X pins σ H s) (M : Maker X T c p) (t0 : Tabs T H) (nodef : defaultsOf ps X.env = ([], [])) (free : ∀ y ∈ sc.names, y.2 = .free → ∃ c, X.env.cells.lookup y.1 = some c)
    (k : ∀ (f c' : Addr) (pm ctv : Value) (H1 : Hp) (s' : Shared), L2.Inv X pins σ H1 s' → Grow T H H1 → s'.heap.get? f = some (PySem.W.kla_obj "<lambda>" (X.env.qual ++ "<lambda>") ps body sc (cloFrom X.env.cells sc.names []) pm c' ctv) → H1 f = none → f ∉ frs X.stack →
      H1 c' = some (CodeO c' (X.env.qual ++ "<lambda>")) → Z (.ref f) s') : wpAny (model X.prog X.w) X.A (eval (.Lambda ps body sc pos) X.env) Z Er s := by
  obtain ⟨tv, at_, tri, named⟩ := t0 _ M.mem
  have bl : s.heap.BuiltinsAt X.mg p := M.b.bm.keeps I.bk
  have raw : s.heap.get? p = some { cls := .none, data := .fields tv } := I.hok p _ at_
  have gl := I.mod.glob.keeps I.bk
  refine PySem.W.kla_eval nodef ?_
  cases found : codeAmong pos tv.toList with
  | some cv =>
    obtain ⟨c', rfl, told⟩ := named pos cv found
    refine PySem.W.kla_makeFunctionHit (mg := X.mg) (c := c) (P := p) (ps := tv) (closure_ok free) I.ok.glob gl M.cd (M.b.code.keeps I.bk) raw tri found bl fun ctv h2 tk grow size_ => ?_
    exact k _ _ _ ctv H _ (I.kept (t' := tk) fun b o e => Heap.get?_push_of_some _ (grow b o e)) (Grow.rfl' t0) (Heap.get?_push_size _ rfl) (I.hok.fresh size_) (no_frame I size_) told
  | none =>
    refine PySem.W.kla_makeFunction (mg := X.mg) (c := c) (P := p) (ps := tv) (closure_ok free) I.ok.glob gl M.cd (M.b.code.keeps I.bk) raw tri found M.b.gP bl fun c' ctv h2 tk grow above below named2 tab2 => ?_
    obtain ⟨_, oc, fs, tok, e2, g1, g2, g3⟩ := named2
    cases e2
    have size_ : s.heap.objs.size ≤ h2.objs.size := by omega
    have fresh_ : H c' = none := I.hok.fresh above
    have pc : p ≠ c' := ne_of_none at_ fresh_
    have J := inv_table (t' := tk) (more := #[rawInt pos.line, rawInt pos.col, .ref c']) (h' := h2.push (PySem.W.kla_obj "<lambda>" (X.env.qual ++ "<lambda>") ps body sc (cloFrom X.env.cells sc.names []) ((X.mg "__name__").getD .none) c' ctv)) I at_ (fun b o nb e => Heap.get?_push_of_some _ (grow b o nb e)) (Heap.get?_push_of_some _ tab2) above ⟨oc, fs, tok, Heap.get?_push_of_some _ g1, g2, g3⟩
    have same : ∀ b o, H b = some o → (∀ r, o ≠ .tbl r) → upd (upd H p (.tbl (tv ++ #[rawInt pos.line, rawInt pos.col, .ref c']))) c' (CodeO c' (X.env.qual ++ "<lambda>")) b = some o := fun b o e no => by
      have bp : b ≠ p := fun z => by rw [z, at_] at e; exact no tv (Option.some.inj e).symm
      rw [upd_ne (ne_of_none e fresh_), upd_ne bp, e]
    have list_ : (tv ++ #[rawInt pos.line, rawInt pos.col, .ref c']).toList = tv.toList ++ [rawInt pos.line, rawInt pos.col, .ref c'] := by simp
    have at2 : upd (upd H p (.tbl (tv ++ #[rawInt pos.line, rawInt pos.col, .ref c']))) c' (CodeO c' (X.env.qual ++ "<lambda>")) p = some (.tbl (tv ++ #[rawInt pos.line, rawInt pos.col, .ref c'])) := by rw [upd_ne pc, upd_same]
    refine k h2.objs.size c' ((X.mg "__name__").getD .none) ctv _ _ J ⟨same, fun b r e => ?_, fun r hr => ?_⟩ (Heap.get?_push_size _ rfl) ?_ (no_frame I size_) upd_same
    · by_cases bp : b = p
      · exact ⟨_, by rw [bp]; exact at2⟩
      · exact ⟨r, by rw [upd_ne (ne_of_none e fresh_), upd_ne bp, e]⟩
    · by_cases bp : r.1 = p
      · rw [M.one r hr bp, bp]
        refine ⟨_, at2, by rw [list_]; exact PySem.TriplesOk_snoc _ _ _ _ tri, fun pos2 cv hcv => ?_⟩
        rw [list_] at hcv
        rcases among_app _ tri hcv with z | z
        · obtain ⟨c0, e1, e2⟩ := named pos2 cv z
          exact ⟨c0, e1, same _ _ e2 codeO_ne⟩
        · exact ⟨c', z, upd_same⟩
      · obtain ⟨ps2, a1, a2, a3⟩ := t0 r hr
        refine ⟨ps2, by rw [upd_ne (ne_of_none a1 fresh_), upd_ne bp]; exact a1, a2, fun pos2 cv hcv => ?_⟩
        obtain ⟨c0, e1, e2⟩ := a3 pos2 cv hcv
        exact ⟨c0, e1, same _ _ e2 codeO_ne⟩
    · have n1 : h2.objs.size ≠ c' := by omega
      have n2 : h2.objs.size ≠ p := by
        exact Nat.ne_of_gt (Nat.lt_of_lt_of_le (Heap.lt_size raw) size_)
      rw [upd_ne n1, upd_ne n2]
      exact I.hok.fresh size_
end
theorem Rel.grow {G : Cfg} {E : Ent} {F : Hp} {A : Adr} {σ : L2.St} {H H' : Hp} {s : S} (R : Rel G E F A σ H s) (g : Grow G.T H H') : Rel G E F A σ H' s := by
  refine ⟨fun a o h => ?_, R.len, fun i x v h1 h2 => (R.slot i x v h1 h2).mono (FLe.refl _) (ALe.refl _) fun a m h3 h4 h5 h6 h7 => ⟨h5, h7, fun o ho => ?_⟩, R.dist, R.cells.mono (FLe.refl _) (fun n a h => ?_) (fun n a h o ho => ?_), R.fle, R.ale, R.nle, fun a o h1 h2 h3 => g.all a o (R.keep a o h1 h2 h3) h3, fun a ps h => ?_, ⟨g.tabs, R.tabs.n⟩, R.fz, R.hz⟩
  · rcases R.sub a o h with k | ⟨k, od, k2⟩
    · by_cases t : ∃ ps, o = .tbl ps
      · obtain ⟨ps, rfl⟩ := t
        exact absurd h (R.tabs.n a ps)
      · exact .inl (g.all a o k fun ps e => t ⟨ps, e⟩)
    · exact .inr ⟨k, od, g.all a _ k2 fun ps e => by cases e⟩
  · have k := R.slot i x v h1 h2
    rw [h4] at k
    obtain ⟨b, k1, k2, _⟩ := k
    rw [h3] at k1
    cases k1
    exact g.all a o ho (stuck_not (k2.solid ho))
  · obtain ⟨b, h1, h2, h3⟩ := R.cells.at_ n _ (List.getElem?_eq_getElem (R.cells.dom n a h))
    rw [h] at h1
    cases h1
    exact h3
  · obtain ⟨b, h1, h2, h3⟩ := R.cells.at_ n _ (List.getElem?_eq_getElem (R.cells.dom n a h))
    rw [h] at h1
    cases h1
    exact g.all a o ho (stuck_not (h2.solid ho))
  · obtain ⟨qs, k⟩ := R.tb a ps h
    exact g.tbl a qs k
end AG
set_option Elab.async false
set_option linter.all false
set_option maxRecDepth 100000
set_option maxHeartbeats 2000000
namespace AG
open PySem L2 PySem.Spec PyProof.Rows LamX PySem.W AGS
def kD (d : D) : PyData := match pyT d with
  | .tuple l => .tuple [.int (l.length : Nat), .tuple l]
  | _ => .none
def leK : D → D → Bool := dataLe false kD
end AG
set_option Elab.async false
set_option linter.all false
set_option maxRecDepth 100000
set_option maxHeartbeats 2000000
namespace AG
open PySem L2 PySem.Spec PyProof.Rows LamX PySem.W AGS
def isTT : D → Bool
  | .tup l => (strsOf l).isSome
  | _ => false
theorem py_strs : ∀ ts : List Str, pyL (ts.map D.str) = some (ts.map PyData.str)
  | [] => rfl
  | t :: ts => by
    show pyL (D.str t :: ts.map D.str) = _
    unfold pyL
    rw [py_strs ts]
    rfl
def keySortF (ga : M (List D)) : M MO := fun s => (ga s).bind fun xs s1 => match xs with
  | [x] => (match vw s1 x with
    | .lst l => if l.all isTT && decide (l.length ≤ LIM) then .ok (.ml (l.mergeSort leK)) s1 else .st
    | _ => .st)
  | _ => .st
end AG
set_option Elab.async false
set_option linter.all false
set_option maxRecDepth 100000
set_option maxHeartbeats 1000000
namespace AG
open PySem L2 PySem.Spec PyProof.Rows
section
variable {X : Cx} {W : WX} {k : Nat} {f : Addr} {fd : FuncData} {ps : List Str} {sp : Sp} {pins : List (Addr × Obj)} {σ : L2.St} {H : Hp} {s : Shared} {Q : VK} {us : List Value} {vs : List V}
theorem run_own {A : Around} (F : FnG X.prog X.w X.K X.mg X.base (L2.CX X.prog X.w) k f ps fd sp) (hr : Room k A ∧ A.guards = some []) (hfr : A.frames = some X.stack) (hb : L2.Binds X.K fd ps []) (tk : Takes X W) (I : L2.Inv X pins σ H s) (r : Vals vs us) (q : sp vs H Q (WE W σ)) :
    wpAny (model X.prog X.w) A (call (.ref f) us) (EP X pins σ Q) X.xe s := by
  refine wpAny_call (codeAny_mono (F.keeps A X.stack s H ⟨us, []⟩ us vs Q (WE W σ) hr { I.env0 with frames := hfr } ?_ r q) fun rr s' z => ?_)
  · have hl : us.length = ps.length := r.length ▸ F.size _ _ _ _ q
    simpa using hb s us I.kIn (by simpa using hl)
  · have := after_g tk I rr s' z
    rcases rr with er | fl
    · exact this
    · cases fl with
      | ret u => exact this
      | _ => exact this.elim
end
def isOf (c : Nat) (m : Str) (s : S) (x : D) : Bool := match vw s x with
  | .ins c' fs => decide (c' = c) && (fs.lookup m).isNone
  | _ => false
theorem look_none {G : Cfg} {F : Hp} {A : Adr} : ∀ {fs : List (Str × D)} {vs : List V} {f : Str}, RepLF G F A fs vs → fs.lookup f = none → (List.zip (fs.map (·.1)) vs).lookup f = none
  | [], vs, f, h, _ => by simp
  | (n, y) :: fs, vs, f, h, e => by
    simp only [RepLF] at h
    obtain ⟨v, r, rfl, h2, h3⟩ := h
    simp only [List.lookup_cons] at e
    cases q : (f == n) with
    | true => rw [q] at e; cases e
    | false =>
      rw [q] at e
      simp [List.lookup_cons, q, look_none h3 e]
theorem isOf_view {G : Cfg} {E : Ent} {F : Hp} {A : Adr} {σ : L2.St} {H : Hp} {s : S} (R : Rel G E F A σ H s) {d : D} {v : V} {c : Nat} {m : Str} (h : VOk G σ F A d v) (q : isOf c m s d = true) : ∃ a dx fs, v = .ref a ∧ H a = some (.ins (G.CA c) dx fs) ∧ fs.lookup m = none := by
  unfold isOf at q
  split at q
  · rename_i c' fs hv
    simp only [Bool.and_eq_true, decide_eq_true_eq, Option.isNone_iff_eq_none] at q
    obtain ⟨rfl, q2⟩ := q
    obtain ⟨a, dx, vs, rfl, h2, r⟩ := ins_view R h hv
    exact ⟨a, dx, _, rfl, h2, look_none r q2⟩
  · cases q
section
variable {G : Cfg} {W : WX} {X : Cx} {t : Expr} {c : Nat} {m : Str} {call : List D → List MO → R} {f g : M D} {ga : M (List D)}
theorem call_here {E : Ent} {F : Hp} {A : Adr} {σ : L2.St} {H : Hp} {s : S} {ds : List D} {vs : List V} {Q : VK} (R : Rel G E F A σ H s) (hv : Paired (VOk G σ F A) ds vs)
    (P : PO G E W σ (okE G σ Q) F A (if ds.all sto = true then match call ds s.muz with
      | .ok d muz => .ok d { s with muz := muz }
      | .err e muz => .err e { s with muz := muz }
      | .st => .st else .st)) : spOf G call vs H Q (WE W σ) := by
  cases q : ds.all sto with
  | false => rw [q] at P; exact P.elim
  | true =>
    rw [q] at P
    simp only [if_true] at P
    refine ⟨F, A, ds, s.muz, ⟨R.sub, R.tabs⟩, R.cells, reps_of hv q, ?_⟩
    cases qc : call ds s.muz with
    | st => rw [qc] at P; exact P.elim
    | ok d muz' =>
      rw [qc] at P
      intro v F' A' H' hf hr
      obtain ⟨fl, al, R2⟩ := R.call hf
      exact P F' A' H' fl al R2 v (.of hr)
    | err er muz' =>
      rw [qc] at P
      intro F' A' H' dd hf
      obtain ⟨fl, al, R2⟩ := R.call hf
      exact P F' A' H' dd fl al R2
end
end AG
set_option Elab.async false
set_option linter.all false
set_option maxRecDepth 100000
set_option maxHeartbeats 1000000
namespace AG
open PySem L2 PySem.Spec PyProof.Rows
end AG
set_option Elab.async false
set_option linter.all false
set_option maxRecDepth 100000
set_option maxHeartbeats 1000000
namespace AG
open PySem L2 PySem.Spec PyProof.Rows
def own2 (c : Nat) (m : Str) (f g : M D) : M (List D) := fun s => (f s).bind fun x s1 => (g s1).bind fun y s2 => if (isOf c m s2 x && isOf c m s2 y) = true then .ok [x, y] s2 else .st
def blS (f : M D) : M D := fun s => (f s).bind fun d s1 => match d with
  | .bl b => .ok (.bl b) s1
  | _ => .st
section
variable {fa : List He.Fa} {fn : List He.DefD} {G : Cfg} {W : WX} {X : Cx} {x m : Str} {p pos apos : Pos} {a b e o : Expr} {es : List Expr} {k : Nat} {C : Calls} {f g : M D} {ga : M (List D)} {d : He.DefD}
theorem meth_at (c j i2 : Nat) (T : Tx fa fn G X.mg) (B : Tab X.prog X.w G X.mg X.base fn k C) (hj : fn[j]? = some d) (hat : d.at_ = (x, some m)) (hi2 : fa[i2]? = some (.meth x m)) (hc : G.CA c = He.ga G.K x) (hK : X.K = G.K) :
    ∃ (fd : FuncData) (ps : List Str), Meth X.K (G.CA c) m (He.ma G.K (He.ga G.K x) m) ∧ L2.Binds X.K fd ps [] ∧ FnG X.prog X.w X.K X.mg X.base (L2.CX X.prog X.w) k (He.ma G.K (He.ga G.K x) m) ps fd (spOf G (C j)) := by
  obtain ⟨fd, ps, h1, h2, h3, _⟩ := (B j d hj).ex
  rw [hat] at h3
  have mt := T.meth i2 hi2
  rw [hc]
  rw [← hK] at h2 h3 mt ⊢
  exact ⟨fd, ps, mt, h2, h3⟩
end
end AG
set_option Elab.async false
set_option linter.all false
set_option maxRecDepth 100000
set_option maxHeartbeats 1000000
namespace AG
open PySem L2 PySem.Spec PyProof.Rows
section
variable {X : Cx} {pins : List (Addr × Obj)} {σ : L2.St} {H : Hp} {s : Shared} {a C dx : Addr} {fs : List (Str × V)}
theorem inst_at (I : L2.Inv X pins σ H s) (e : H a = some (.ins C dx fs)) : ∃ od, PySem.W.InstAt s.heap a (PySem.W.instObj C dx) C (some od) := by
  obtain ⟨mA, O, _⟩ := ins_get I.hok e
  obtain ⟨od, J, _⟩ := O.look
  exact ⟨od, J⟩
end
section
variable {fa : List He.Fa} {fn : List He.DefD} {G : Cfg} {W : WX} {X : Cx} {x m : Str} {p pos apos : Pos} {a b : Expr} {k : Nat} {C : Calls} {f g : M D} {d : He.DefD}
theorem room_in {k : Nat} {A : Around} (hr : Room (k + 1) A ∧ A.guards = some []) : Room k A.in1 ∧ A.in1.guards = some [] := ⟨hr.1.in1, hr.2⟩
end
end AG
set_option Elab.async false
set_option linter.all false
set_option maxRecDepth 100000
set_option maxHeartbeats 1000000
namespace AG
open PySem L2 PySem.Spec PyProof.Rows
def isiC (c : Nat) (s : S) (x : D) : Option D := match vw s x with
  | .ins c' _ => if c' = c then some (.bl true) else none
  | y => (match tyN y with
    | some _ => some (.bl false)
    | none => none)
def isCS (c : Nat) (f : M D) : M D := unS (isiC c) f
end AG
set_option Elab.async false
set_option linter.all false
set_option maxRecDepth 100000
set_option maxHeartbeats 1000000
namespace AG
open PySem L2 PySem.Spec PyProof.Rows
theorem u0 {k : Nat} {A : Around} {g : Prop} (r : Room k A ∧ g) : A.units < cLine := by have := r.1.un; omega
theorem maker_of {tf : List He.DefD} {exs : List Str} {G : Cfg} {X : Cx} {d : He.DefD} (L : Tl tf exs G X.mg X.base) (i : Nat) (hd : tf[i]? = some d) (hc : X.env.code = .ref (He.codeOf G.K d.at_)) (hq : X.env.qual = d.qual ++ ".<locals>.") : Maker X G.T (He.cT G.K d.at_).1 (He.cT G.K d.at_).2 := by
  obtain ⟨h1, h2, h3⟩ := L.one (List.mem_of_getElem? hd)
  exact ⟨h1, hc, by rw [hq]; exact h2, by rw [hq]; exact h3⟩
def strD (_ : S) : List D → Option D
  | [.str a] => some (.str a)
  | [.int i] => if i.natAbs.log2 < 1920 then some (.str (toString i)) else none
  | _ => none
section
variable {G : Cfg}
def isBD (_ : S) (x y : D) : Option D := match x, y with
  | .bl a, .bl b => some (.bl (decide (a = b)))
  | _, _ => none
def isNotBD (_ : S) (x y : D) : Option D := match x, y with
  | .bl a, .bl b => some (.bl (!decide (a = b)))
  | _, _ => none
def firstAt (d : PyData) : List PyData → Option Nat
  | [] => none
  | z :: r => if PyData.eqv z d = true then some 0 else (firstAt d r).map (· + 1)
theorem firstAt_ok {d : PyData} : ∀ {ds : List PyData} {j : Nat}, firstAt d ds = some j → ∃ z, ds[j]? = some z ∧ PyData.eqv z d = true ∧ ∀ (m : Nat) (z' : PyData), m < j → ds[m]? = some z' → PyData.eqv z' d = false
  | [], _, h => by simp [firstAt] at h
  | z :: r, j, h => by
    unfold firstAt at h
    by_cases q : PyData.eqv z d = true
    · rw [if_pos q] at h
      cases h
      exact ⟨z, rfl, q, fun m z' hm => absurd hm (Nat.not_lt_zero m)⟩
    · rw [if_neg q] at h
      simp only [Option.map_eq_some_iff] at h
      obtain ⟨i, h1, rfl⟩ := h
      obtain ⟨z1, e1, e2, e3⟩ := firstAt_ok h1
      refine ⟨z1, by simpa using e1, e2, fun m z' hm hz => ?_⟩
      cases m with
      | zero =>
        simp only [List.getElem?_cons_zero, Option.some.injEq] at hz
        subst hz
        simpa using q
      | succ m => exact e3 m z' (by omega) (by simpa using hz)
def indexD (s : S) (x y : D) : Option D := match vw s x with
  | .lst l => (match pyL l, pyOf (vw s y) with
    | some es, some e => if (SeqAt.shaped (.list es) && SeqAt.shaped e) = true then (firstAt e es).map fun j => .int (j : Nat) else none
    | _, _ => none)
  | _ => none
def indexS (f g : M D) : M D := fun s => (f s).bind fun x s1 => match vw s1 x with
  | .lst _ => (g s1).bind fun y s2 => (match indexD s2 x y with
    | some d => .ok d s2
    | none => .st)
  | _ => .st
theorem x_index {W : WX} {X : Cx} {t : Expr} {f g : M D} (hK : X.K = G.K) (k : PE X t (tBM X.K "list" (rIndexD X.K) (TEof G W f) (tCons (TEof G W g) tNil))) : PE X t (TEof G W (indexS f g)) := by
  refine PEimp k fun σ H Q ⟨E, F, A, s, R, P⟩ => ⟨E, F, A, s, R, PO.bind P fun x s1 F1 A1 H1 e1 g1 R1 P1 u hu => ?_⟩
  split at P1
  · rename_i l0 h0
    obtain ⟨a0, vs0, rfl, h20, r0⟩ := lst_view R1 hu h0
    refine ⟨.inl ⟨rfl, vs0, .of h20⟩, E, F1, A1, s1, R1, PO.bind P1 fun y s2 F2 A2 H2 e2 g2 R2 P2 w hw => ?_⟩
    cases q : indexD s2 x y with
    | none => rw [q] at P2; exact P2.elim
    | some d =>
      rw [q] at P2
      unfold indexD at q
      split at q
      · rename_i l h1
        split at q
        · rename_i es e h2 h3
          split at q
          · rename_i h4
            simp only [Bool.and_eq_true] at h4
            simp only [Option.map_eq_some_iff] at q
            obtain ⟨j, h5, rfl⟩ := q
            obtain ⟨z, z1, z2, z3⟩ := firstAt_ok h5
            have hl := dp_view R2 (hu.mono e2 g2) (e := .list es) (by rw [h1]; exact pyOf_lst h2)
            refine ⟨a0, w, e, es, j, z, rfl, rfl, by rw [hK]; exact hl, by rw [hK]; exact dp_view R2 hw h3, h4.1, h4.2, z1, z2, z3, ?_⟩
            exact P2 F2 A2 H2 (FLe.refl _) (ALe.refl _) R2 _ vok_int
          · cases q
        · cases q
      · cases q
  · exact P1.elim
end
end AG
namespace AG
open PySem L2 PySem.Spec PyProof.Rows
def exOf (exs : List Str) (tf : List He.DefD) (K : PySem.W.Frag) : Bool := (exs.all fun x => exB K exs x) && decide ((tf.map fun d => (He.cT K d.at_).2).Nodup)
theorem exOf_ex {exs : List Str} {tf : List He.DefD} {K : PySem.W.Frag} (h : exOf exs tf K = true) : (∀ x ∈ exs, exB K exs x = true) ∧ (tf.map fun d => (He.cT K d.at_).2).Nodup := by
  obtain ⟨h1, h2⟩ := He.ba h
  exact ⟨List.all_eq_true.mp h1, of_decide_eq_true h2⟩
end AG
set_option Elab.async false
set_option linter.all false
set_option maxRecDepth 100000
set_option maxHeartbeats 1000000
namespace AG
open PySem L2 PySem.Spec PyProof.Rows
end AG
set_option Elab.async false
set_option linter.all false
set_option maxRecDepth 100000
namespace AG
open PySem L2
end AG
set_option Elab.async false
set_option linter.all false
set_option maxRecDepth 100000
namespace AG
open PySem L2 PySem.Spec PyProof.Rows
def pairsD : List D → Option (List (D × D))
  | [] => some []
  | .tup [k, v] :: ds => match pairsD ds with
    | some ps => if isKey false k = true then some ((k, v) :: ps) else none
    | none => none
  | _ => none
def foldP (l : List (D × D)) (ps : List (D × D)) : List (D × D) := ps.foldl (fun l p => putD false l p.1 p.2) l
def dictN (s : S) : List D → Option MO
  | [x] => (match vw s x with
    | .lst l => (match pairsD l with
      | some ps => some (.md false (foldP [] ps))
      | none => none)
    | _ => none)
  | _ => none
def rDictP (K : PySem.W.Frag) : List V → Hp → VK → Prop := fun xs H Q => ∃ (a : Addr) (ps : List Addr) (kvs : List (Key × V)), xs = [.ref a] ∧ SqL K H a (ps.map V.ref) ∧ Paired (fun p kv => SqT K H p [kV kv.1, kv.2]) ps kvs ∧
    ∀ p, H p = none → Q (.ref p) (upd H p (.dK (mergeK [] kvs)))
section
variable {G : Cfg} {E : Ent} {W : WX} {F : Hp} {A : Adr} {σ : L2.St} {H : Hp} {s : S}
theorem pairs_rep (R : Rel G E F A σ H s) : ∀ (l : List D) (ps : List (D × D)) (vs : List V), pairsD l = some ps → RepL G F A l vs →
    ∃ (as : List Addr) (kvs : List (Key × V)), vs = as.map V.ref ∧ Paired (fun p kv => SqT G.K H p [kV kv.1, kv.2]) as kvs ∧ kvs.map (fun kv => some kv.1) = ps.map (fun p => keyD p.1) ∧ RepL2 G F A ps (kvs.map (·.2))
  | [], ps, vs, q, r => by
    cases q
    simp only [RepL] at r
    subst r
    exact ⟨[], [], rfl, .nil, rfl, by simp [RepL2]⟩
  | d :: ds, ps, vs, q, r => by
    simp only [RepL] at r
    obtain ⟨u, us, rfl, ru, rs⟩ := r
    unfold pairsD at q
    split at q
    · rename_i e; cases e
    · rename_i k v ds' e
      cases e
      cases qs : pairsD ds with
      | none => rw [qs] at q; cases q
      | some ps' =>
        rw [qs] at q
        simp only at q
        by_cases hk : isKey false k = true
        · rw [if_pos hk] at q
          cases q
          obtain ⟨as, kvs, rfl, hp, h2, h3⟩ := pairs_rep R ds ps' us qs rs
          simp only [Rep, RepL] at ru
          obtain ⟨a, ws, rfl, hf, w1, r1, rfl, hk1, w2, r2, rfl, hv1, rfl⟩ := ru
          simp only [isKey, Option.isSome_iff_exists] at hk
          obtain ⟨key, hk⟩ := hk
          have ew := keyD_rep hk hk1
          subst ew
          exact ⟨a :: as, (key, w2) :: kvs, rfl, .cons (.of (R.tup hf)) hp, by simp [h2, hk], by simp only [List.map_cons, RepL2]; exact ⟨w2, _, rfl, hv1, h3⟩⟩
        · rw [if_neg hk] at q
          cases q
    · cases q
theorem merge_rep : ∀ (ps : List (D × D)) (kvs : List (Key × V)) (l : List (D × D)) (vs : List V) (ks : List Key), kvs.map (fun kv => some kv.1) = ps.map (fun p => keyD p.1) → RepL2 G F A ps (kvs.map (·.2)) → RepL2 G F A l vs → ks.map some = l.map (fun p => keyD p.1) → ks.length = vs.length →
    ∃ ks' vs', mergeK (List.zip ks vs) kvs = List.zip ks' vs' ∧ RepL2 G F A (foldP l ps) vs' ∧ ks'.map some = (foldP l ps).map (fun p => keyD p.1) ∧ ks'.length = vs'.length
  | [], kvs, l, vs, ks, h1, h2, h3, h4, h5 => by
    have : kvs = [] := by simpa using h1
    subst this
    exact ⟨ks, vs, rfl, h3, h4, h5⟩
  | (k, d) :: ps, kvs, l, vs, ks, h1, h2, h3, h4, h5 => by
    cases kvs with
    | nil => cases h1
    | cons kv kvs =>
      simp only [List.map_cons, List.cons.injEq] at h1
      simp only [List.map_cons, RepL2] at h2
      obtain ⟨w, r, e, hz, h2'⟩ := h2
      cases e
      obtain ⟨ks', vs', e1, r2, k4, k5⟩ := zip_put (q := keyQ false) (y := k) (z := d) (v := kv.2) (k := kv.1) (fun x k0 hx => by unfold keyQ; rw [hx, ← h1.1]) h3 h4 h5 h1.1.symm hz
      obtain ⟨ks2, vs2, e2, r3, k6, k7⟩ := merge_rep ps kvs _ vs' ks' h1.2 h2' r2 k4 k5
      refine ⟨ks2, vs2, ?_, r3, k6, k7⟩
      show mergeK (putK (List.zip ks vs) kv.1 kv.2) kvs = _
      rw [e1]
      exact e2
end
theorem cn_dictP {G : Cfg} : ClN G (rDictP G.K) dictN := by
  intro E F A σ H s xs ds m Q R hx q k
  unfold dictN at q
  split at q
  · rename_i x
    obtain ⟨v, rfl, hv⟩ := paired1 hx rfl
    split at q
    · rename_i l h1
      cases qp : pairsD l with
      | none => rw [qp] at q; cases q
      | some ps =>
        rw [qp] at q
        cases q
        obtain ⟨a, vs, rfl, h2, r⟩ := lst_view R hv h1
        obtain ⟨as, kvs, rfl, hp, h3, h4⟩ := pairs_rep R l ps vs qp r
        obtain ⟨ks', vs', e1, r2, k4, k5⟩ := merge_rep ps kvs [] [] [] h3 h4 (by simp [RepL2]) rfl rfl
        refine ⟨a, as, kvs, rfl, .of h2, hp, fun p hpn => ?_⟩
        have e1' : mergeK [] kvs = List.zip ks' vs' := e1
        rw [e1']
        obtain ⟨R2, k1, k2, k3, k6⟩ := R.laid (o := .dK (List.zip ks' vs')) hpn
        exact k p F A _ (FLe.refl _) (ALe.refl _) R2 ⟨⟨vs', _, r2, upd_same, ⟨ks', rfl, k4, k5⟩⟩, k1, k2, k3, k6⟩
    · cases q
  · cases q
def numD (l : List D) : List D := l.mapIdx fun i d => .tup [.int (i : Nat), d]
def itEnum (ga : M (List D)) : M (List D) := fun s => (ga s).bind fun ds s1 => match ds with
  | [.lst l] => .ok (numD l) s1
  | _ => .st
section
variable {G : Cfg} {E : Ent} {W : WX} {X : Cx} {F : Hp} {A : Adr} {σ : L2.St} {H : Hp} {s : S} {ga : M (List D)} {a b : Expr}
theorem enum_ok {K : PySem.W.Frag} {a : Addr} {vs : List V} {ds : List D} (h1 : F a = some (.lst vs)) (h2 : RepL G F A ds vs) : ItOk G F A (Ite K a) (numD ds) := fun E F' A' σ H s e g R => by
  have hs : SqL K H a vs := .of (R.lst (e _ _ h1))
  have h3 := RepL.mono e g _ _ h2
  have hl : (numD ds).length = ds.length := by unfold numD; simp
  refine ⟨fun i hi => ⟨vs, hs, by rw [RepL.length h2]; omega⟩, fun i d hd => ?_⟩
  unfold numD at hd
  rw [List.getElem?_mapIdx, Option.map_eq_some_iff] at hd
  obtain ⟨d0, hd0, rfl⟩ := hd
  obtain ⟨v, h4, h5⟩ := RepL.get h3 hd0
  refine ⟨⟨vs, v, hs, h4⟩, fun x H' ⟨T, y, e1, hn, e2, h6⟩ => ?_⟩
  subst e1 e2
  have h7 := h6 vs hs
  rw [h4] at h7
  cases h7
  refine ⟨upd F' T (.tup [.int (i : Nat), v]), fle_upd (R.sub.none hn), R.newFz hn, ?_⟩
  simp only [Rep]
  refine ⟨T, [.int (i : Nat), v], rfl, upd_same, ?_⟩
  simp only [RepL, Rep]
  exact ⟨_, _, rfl, rfl, _, _, rfl, Rep.mono (fle_upd (R.sub.none hn)) (ALe.refl _) _ _ h5, rfl⟩
theorem i_enum (k : PI X a b (iEnum X.K (TAof G W ga))) : PI X a b (TIof G W (itEnum ga)) := by
  refine ⟨fun pins s σ H R I hw => ?_⟩
  obtain ⟨E, F, A, s0, Rl, P⟩ := hw
  refine k.run pins s σ H R I ⟨E, F, A, s0, Rl, PO.bind P fun ds s1 F1 A1 H1 e1 g1 R1 P1 vs hv => ?_⟩
  split at P1
  · rename_i l
    obtain ⟨v, rfl, hw⟩ := paired1 hv rfl
    have hr : Rep G F1 A1 (.lst l) v := hw
    simp only [Rep] at hr
    obtain ⟨ad, us, rfl, h1, h2⟩ := hr
    exact ⟨ad, us, rfl, .of (R1.lst h1), P1.ok_here R1 _ (enum_ok h1 h2)⟩
  · exact P1.elim
end
def kEnum : List D → S → O (List D) := fun ds s1 => match ds with
  | [.lst l] => .ok (numD l) s1
  | _ => .st
theorem itEnum_ap (ga : M (List D)) (s : S) : itEnum ga s = (ga s).bind kEnum := Eq.trans rfl rfl
theorem kEnum_ap (l : List D) (s : S) : kEnum [.lst l] s = .ok (numD l) s := Eq.trans rfl rfl
end AG
set_option Elab.async false
set_option linter.all false
set_option maxRecDepth 100000
set_option maxHeartbeats 1000000
namespace AG
open PySem L2 PySem.Spec PyProof.Rows
end AG
set_option Elab.async false
set_option linter.all false
set_option maxRecDepth 100000
namespace AG
open PySem L2 PySem.Spec PyProof.Rows
def permL {α : Type} (p : List Nat) (l : List α) : List α := p.filterMap fun i => l[i]?
def permS (n : Nat) (p : List Nat) (ga : M (List D)) : M (List D) := fun s => (ga s).bind fun ds s1 => if ds.length = n then .ok (permL p ds) s1 else .st
end AG
set_option Elab.async false
set_option linter.all false
set_option maxRecDepth 100000
set_option maxHeartbeats 1000000
namespace AG
open PySem L2 PySem.Spec PyProof.Rows
section
variable {X : Cx} {pins : List (Addr × Obj)} {σ : L2.St} {H : Hp} {s : Shared} {a D : Addr} {oe : Obj} {vs : Array Value}
theorem inv_exc (J : L2.Inv X pins σ H s) (na : H a = none) (ha : s.heap.get? a = some oe) (hz : Zc (.ref D) none oe) (hd : oe.data = .fields vs) (fr : X.s_0.heap.get? a = none) (nL : a ≠ X.env.locals) (np : ∀ p ∈ X.pn ++ pins, p.1 ≠ a) : L2.Inv X pins σ (upd H a (excO D a)) s := by
  have ne : ∀ {b : Addr} {u : HO}, H b = some u → b ≠ a := fun {b u} e q => by rw [q, na] at e; cases e
  have nb : ∀ {b : Addr}, b ≠ a → upd H a (excO D a) b = H b := fun {b} h => by rw [upd_ne h]
  have f0 : ∀ {b : Addr} {o : Obj}, X.s_0.heap.get? b = some o → b ≠ a := fun {b o} e q => by rw [q, fr] at e; cases e
  refine ⟨J.ok, J.os, J.bare, ⟨J.base.keep, J.base.slot, fun b o e n hx => ?_, J.base.there, fun b xs e => ?_, fun b o u e => ?_, fun b ps e => ?_⟩, J.loc, J.cell, ?_, fun x c e => ?_, fun p hp => ?_, fun b u e => ?_, J.len⟩
  · rw [nb (f0 e)]
    exact J.base.free b o e n hx
  · have k := J.base.tups b xs e
    rw [nb (ne k)]
    exact k
  · have k := J.base.frzs b o u e
    rw [nb (ne k)]
    exact k
  · obtain ⟨more, k⟩ := J.base.tbls b ps e
    exact ⟨more, by rw [nb (ne k)]; exact k⟩
  · rw [nb nL.symm]
    exact J.free
  · obtain ⟨v, o, h1, h2⟩ := J.cell x c e
    have : c ≠ a := fun q => by
      rw [q, ha] at h1
      cases h1
      rw [hd] at h2
      cases h2
    rw [nb this]
    exact J.freeC x c e
  · obtain ⟨h1, h2, h3⟩ := J.pin p hp
    exact ⟨h1, by rw [nb (np p hp)]; exact h2, h3⟩
  · by_cases q : b = a
    · subst q
      rw [upd_same] at e
      cases e
      exact ⟨⟨oe, vs, ha, hz, hd⟩, ⟨oe, ha⟩, fun h1 h2 ⟨o, w, e1, e2, e3⟩ st => ⟨o, w, st _ e1, e2, e3⟩⟩
    · rw [nb q] at e
      exact (J.hok b u e).stay (fun c v _ z => z) (fun c z => by rw [nb (ne z)]; exact z) fun c xs z => by rw [nb (ne z)]; exact z
end
def wKeep (K : PySem.W.Frag) (c : Value) (i : Nat) (ts : Addr → Value → Option Addr → TS) (nx : Addr → Addr → L2.St → Hp → Prop) : WX := fun cls d σ H =>
  ∃ b, PySem.W.exmOne K cls c = some b ∧ b = true ∧ d = none ∧ ∃ D, cls = .ref D ∧ ∀ a, H a = none → ts a cls d { nx := fun σ' H' => nx a D (σ'.set i none) H', rt := fun _ _ => False, bk := fun _ _ => False, ct := fun _ _ => False } (σ.set i (some (.ref a))) H
section
variable {X : Cx} {x n : Str} {c : Value} {i : Nat} {body suite : List Stmt} {b₀ : Stmt} {np pos pos' : Pos} {tb : WX → TS} {ts : Addr → Value → Option Addr → TS}
theorem ps_try_keep (hex : X.ex = []) (hs : X.stack = X.env :: X.outer) (hf : X.env.frame = some X.env.locals) (hN : X.N.Nodup) (hi : X.N[i]? = some n) (hln : X.env.kindOf n = some .local) (hc : Names X x c)
    (hb : ∀ (W : WX) (pn : List (Addr × Obj)) (xe : Value → Shared → Prop), Takes (X.tr pn xe) W → PassesOwn (model X.prog X.w) X.A X.env xe → PSs (X.tr pn xe) body (tb W))
    (hsu : ∀ (a : Addr) (oe : Obj) (cls : Value) (d : Option Addr) (pn : List (Addr × Obj)), Zc cls d oe → (∃ vs, oe.data = .fields vs) → PSs (X.suite a ((a, oe) :: pn)) (b₀ :: suite) (ts a cls d)) :
    PS X (.Try body [.ExceptHandler (some (.Name x np)) (some n) (b₀ :: suite) pos'] [] [] pos) (fun D σ H => ∃ nx, (∀ a C σ' H', H' a = none → nx a C σ' H' → D.nx σ' (upd H' a (excO C a))) ∧ tb (wKeep X.K c i ts nx) { D with rt := fun _ _ => False, bk := fun _ _ => False, ct := fun _ _ => False } σ H) := by
  refine ⟨fun pins s σ H D I h => ?_⟩
  obtain ⟨nx, hnx, h⟩ := h
  have ok := I.ok
  have hfr : X.A.frames = some (X.env :: X.outer) := by rw [ok.frames, hs]
  have hloc : Loc X.env.scope n := .inl hln
  refine wpAny_Try_except ?_
  refine wpAny_mono ((hb (wKeep X.K c i ts nx) (X.pn ++ pins) (fun e s₁ => wpAny (model X.prog X.w) X.A (noteFrame e X.env) (fun _ s₂ => wpAny (model X.prog X.w) X.A (setFlight e none) (fun _ s₃ =>
    wpAny (model X.prog X.w) X.A (handleBy e X.env [.ExceptHandler (some (.Name x np)) (some n) (b₀ :: suite) pos']) (SP X pins D) X.xe s₃) X.xe s₂) X.xe s₁) (fun u s' xx => ?_) PassesOwn.looking).run [] s σ H _ (I.toTry _) h) (fun f s1 hsp => ?_) (fun e s1 he => he)
  · obtain ⟨a, B, sI, pins', σ', H', cls, d, rfl, J', nb, up, sky, na, os, ag, b, hb1, rfl, rfl, C, rfl, hts⟩ := xx
    have J : L2.Inv X pins σ' H' sI := J'.ofTry ok
    have sky' : Sky B (X.env :: X.outer) a (Zc (.ref C) none) X.env.locals s'.heap := by rw [← hs]; exact sky
    show wpAny (model X.prog X.w) X.A (noteFrame (.ref a) X.env) _ _ _
    refine Sky.land Zc.steady hfr hf sky' fun h3 fl3 up3 => ?_
    have J3 : L2.Inv X pins σ' H' { s' with heap := h3 } := J.landed nb fl3.1 (up.trans up3) os ag
    obtain ⟨oe3, vs3, he3, hz3, hd3⟩ := fl3.there
    have nofr : a ∉ frs (X.env :: X.outer) := fun hm => by
      obtain ⟨_, o', e', hnf⟩ := fl3.2.2.1.mem hm
      rw [he3] at e'
      cases e'
      exact hnf _ hd3
    have nL : a ≠ X.env.locals := fun z => nofr (List.mem_filterMap.mpr ⟨X.env, List.mem_cons_self, by rw [hf, z]⟩)
    have nF : a ∉ X.fs := fun hm => by
      obtain ⟨e, he, q⟩ := List.mem_filterMap.mp hm
      exact nofr (List.mem_filterMap.mpr ⟨e, List.mem_cons_of_mem _ he, q⟩)
    have ground : B.get? a = none := fl3.2.1
    have old : ∀ {c : Addr} {o : Obj}, sI.heap.get? c = some o → c ∉ frs X.stack → c ≠ a := fun {c o} e hm q => by
      have := nb c o e hm
      rw [q, ground] at this
      cases this
    have fresh0 : X.s_0.heap.get? a = none := by
      cases q : X.s_0.heap.get? a with
      | none => rfl
      | some o =>
        exfalso
        obtain ⟨o', e⟩ := J.base.there a o q (by rw [hex]; exact List.not_mem_nil)
        exact old e (by rw [hs]; exact nofr) rfl
    have npin : ∀ p ∈ X.pn ++ pins, p.1 ≠ a := fun p hp q => by
      obtain ⟨h1, _, h3, h4, _⟩ := J.pin p hp
      exact old h1 (by rw [hs, q]; exact nofr) q
    have S3 := J3.suite he3 hd3 na nL nF
    refine wpAny_handleBy_cons (codeAny_handlers_test ?_) (by intro q; cases q)
    have LT : PySem.W.Looks (model X.prog X.w) h3 (typeOf (.ref a)) (.ref C) := fun A Q E s k q => wpAny_typeOf_ref (k _ _ he3) (by rw [hz3.1]; exact q)
    have LM := PySem.W.exm_one (M := model X.prog X.w) (J3.kIn) LT hb1
    have test : ∀ {Q : Value → Shared → Prop} {E : Value → Shared → Prop}, Q c { s' with heap := h3 } → wpAny (model X.prog X.w) (X.A.mark (some (.ref a))) (eval (.Name x np) X.env) Q E { s' with heap := h3 } := fun {Q E} q => by
      obtain ⟨hg, hdbg, hm | ⟨hm, hv, hnn⟩⟩ := hc
      · exact ld_glob (X := X.suite a ((a, oe3) :: (X.pn ++ pins))) S3 hg hm q hdbg
      · exact ld_blt (X := X.suite a ((a, oe3) :: (X.pn ++ pins))) S3 hg hm hv q hnn hdbg
    refine test (LM.here ?_)
    refine codeAny_handlers_suite_as ?_
    refine HandSPX.lands_againZ fl3 fun h4 fl4 up4 => ?_
    have J4 : L2.Inv X pins σ' H' { s' with heap := h4 } := J.landed nb fl4.1 ((up.trans up3).trans up4) os ag
    obtain ⟨oe4, vs4, he4, hz4, hd4⟩ := fl4.there
    have S4 := J4.suite he4 hd4 na nL nF
    refine store_ok (X := X.suite a ((a, oe4) :: (X.pn ++ pins))) (v := .ref a) S4 hN hi hloc rfl (fun s5 S5 => ?_) (.inr hln)
    refine wpAny_mono ((hsu a oe4 (.ref C) none (X.pn ++ pins) hz4 ⟨_, hd4⟩).run [] s5 _ H' _ S5 (hts a na)) (fun f s6 hsp => ?_) (fun _ _ z => False.elim z)
    cases f with
    | next =>
      obtain ⟨σ6, H6, S6, q6⟩ := hsp
      obtain ⟨e6, n6, _⟩ := S6.pin (a, oe4) (List.mem_append_left _ List.mem_cons_self)
      have J6 : L2.Inv X ((a, oe4) :: pins) σ6 H6 s6 := by
        have U := S6.unsuite ok
        refine ⟨U.ok, U.os, U.bare, U.base, U.loc, U.cell, U.free, U.freeC, fun p hp => ?_, U.hok, U.len⟩
        have hp' : p ∈ (a, oe4) :: (X.pn ++ pins) := by
          simp only [List.mem_append, List.mem_cons] at hp ⊢
          rcases hp with z | z | z
          · exact .inr (.inl z)
          · exact .inl z
          · exact .inr (.inr z)
        exact S6.pin p (List.mem_append_left _ hp')
      refine gone_ok J6 hN hi hln fun s7 J7 => ?_
      obtain ⟨e7, n7, _⟩ := J7.pin (a, oe4) (List.mem_append_right _ List.mem_cons_self)
      have J8 : L2.Inv X pins (σ6.set i none) H6 s7 := ⟨J7.ok, J7.os, J7.bare, J7.base, J7.loc, J7.cell, J7.free, J7.freeC, fun p hp => J7.pin p (by
        simp only [List.mem_append, List.mem_cons] at hp ⊢
        rcases hp with z | z
        · exact .inl z
        · exact .inr (.inr z)), J7.hok, J7.len⟩
      exact ⟨_, _, inv_exc J8 n7 e7 hz4 hd4 fresh0 nL npin, hnx a C _ _ n7 q6⟩
    | brk =>
      obtain ⟨σ6, H6, S6, q6⟩ := hsp
      exact q6.elim
    | cont =>
      obtain ⟨σ6, H6, S6, q6⟩ := hsp
      exact q6.elim
    | ret u =>
      obtain ⟨v6, σ6, H6, S6, r6, q6⟩ := hsp
      exact q6.elim
  · cases f with
    | next =>
      obtain ⟨σ', H', J', q⟩ := hsp
      exact wpAny_execs_nil ⟨σ', H', J'.ofTry ok, q⟩
    | brk =>
      obtain ⟨σ', H', J', q⟩ := hsp
      exact q.elim
    | cont =>
      obtain ⟨σ', H', J', q⟩ := hsp
      exact q.elim
    | ret u =>
      obtain ⟨v, σ', H', J', r, q⟩ := hsp
      exact q.elim
end
def rIsX (K : PySem.W.Frag) : List V → Hp → VK → Prop := fun xs H Q => ∃ (a D : Addr) (c : V) (cv : Value) (b : Bool), xs = [.ref a, c] ∧ H a = some (excO D a) ∧ ExcC K D ∧ (∀ u, RelV c u → u = cv) ∧ PySem.W.kitOne K (.ref D) cv = some b ∧ Q (.bl b) H
theorem call_isX {X : Cx} : CallR X (.builtin "isinstance") (rIsX X.K) := by
  intro pins s σ H xs us Q I r h
  obtain ⟨a, D, c, cv, b, rfl, ea, C, hcv, e, q⟩ := h
  cases r with
  | cons rx rr =>
    cases rr with
    | cons rt rr =>
      cases rr
      cases rx
      have ec := hcv _ rt
      subst ec
      obtain ⟨⟨oe, vs, hget, hz, hv⟩, _⟩ := I.hok a _ ea
      have J : PySem.W.InstAt s.heap a oe D none := by
        obtain ⟨oc, od, oda, osl⟩ := oe
        obtain ⟨h1, h2⟩ := hz
        dsimp only at h1 h2 hv
        subst h1 h2 hv
        exact ⟨hget, rfl, rfl, trivial⟩
      exact PySem.W.kia_one (PySem.W.handS_kitx_exc C.hg C.hk C.hs C.hd C.ha C.hn C.ht C.hm) I.kIn J e (fun z => nomatch z) fun tk => ⟨.bl b, H, I.kept (t' := tk) fun _ _ z => z, rfl, q⟩
section
open LamX
variable {X : Cx} {pins : List (Addr × Obj)} {σ : L2.St} {H : Hp} {s : Shared}
theorem act_g {CXg : CXT} {Eg : XK} {Ng : List Str} {qg : Str} {sg : Scope} {g f c' : Addr} {cdg pm ctv : Value} {params : Arguments} {body : Expr} {scope : Scope} {k i : Nat} {a : Str} {pn : List (Addr × Obj)} {xe : Value → Shared → Prop} {W : WX} {tb : XK → TE} {p1 p2 : Pos}
    (I : L2.Inv X pins σ H s) (L : LamS X.env.scope scope) (hf : s.heap.get? f = some (PySem.W.kla_obj "<lambda>" (X.env.qual ++ "<lambda>") params body scope (cloFrom X.env.cells scope.names []) pm c' ctv)) (hfn : H f = none) (hfr : f ∉ frs X.stack)
    (hbind : bindArgs (PySem.W.kla_fn "<lambda>" (X.env.qual ++ "<lambda>") params body scope (cloFrom X.env.cells scope.names []) pm (.ref c') ctv) ⟨[], []⟩ = pure [])
    (tk : Takes ((cxOf CXg X.prog X.w X.K X.mg X.base Ng qg sg g cdg X.A X.stack s H Eg).tr pn xe) W) (hr : Room (k + 1) (X.A.deeper (envOfC qg sg s.heap.objs.size g cdg))) (hgu : X.A.guards = some [])
    (hbody : ∀ (A : Around) (outer : List Env) (s : Shared) (H : Hp) (E : XK), Room k (A.deeper (lamEnv X scope s.heap.objs.size f c')) ∧ (A.deeper (lamEnv X scope s.heap.objs.size f c')).guards = some [] → PE (lamCx X A outer s H E scope f c') body (tb E))
    (hN : Ng[i]? = some a) (hv : Vis sg a) (hd : (a == ("__debug__" : Str)) = false := by decide) (hcd : (a == ("__classdict__" : Str)) = false := by decide) :
    PE ((cxOf CXg X.prog X.w X.K X.mg X.base Ng qg sg g cdg X.A X.stack s H Eg).tr pn xe) (.Call (.Name a p1) [] [] p2)
      (fun σZ HZ Q => σZ[i]? = some (some (.ref f)) ∧ HZ c' = some (CodeO c' (X.env.qual ++ "<lambda>")) ∧ tb (WE W σZ) σ HZ Q) := by
  refine ⟨fun pinsZ sZ σZ HZ Q IZ ⟨hs, hc, ht⟩ => ?_⟩
  refine wpAny_Call_Name_kw (thn ((pe_var (pos := p1) (i := i) hN hv hd hcd).run pinsZ sZ σZ HZ (fun v H1 => v = .ref f ∧ H1 = HZ) IZ ⟨.ref f, hs, rfl, rfl⟩) fun u s1 ⟨v, H1, I1, r1, q1⟩ => ?_)
  obtain ⟨rfl, eH⟩ := q1
  rw [eH] at I1
  obtain rfl : u = Value.ref f := r1
  have of1 := I1.base.keep f _ hf hfn hfr (fun z => nomatch (show f ∈ ([] : List Addr) from z))
  refine PySem.W.callWith_F0 ⟨_, _, _, _, of1⟩ ?_
  have un : Un (frs X.stack) [] H HZ s.heap s1.heap := I1.base
  obtain ⟨⟨oc, vs, t, hoc, hdc, hvc⟩, _, _⟩ := I1.hok c' _ hc
  have rc : codeAny (model X.prog X.w) (X.A.deeper (envOfC qg sg s.heap.objs.size g cdg)) (.call (.ref f) ⟨[], []⟩) (CR (L2.CX X.prog X.w) (envOfC qg sg s.heap.objs.size g cdg :: X.stack) X.prog X.w HZ s1 Q (WE W σZ)) s1 := by
    refine PySem.W.kla_callFunE hr.depth of1 rfl L.co L.gen rfl ⟨c', oc, vs, t, rfl, hoc, hdc, hvc⟩ ?_
    rw [hbind]
    refine wpAny_pure (wpAny_newFunctionEnv (fun y hy => (L.own y hy).2) (fun y hy => absurd hy (by simp)) (fun h₁ hns hsb => ⟨I1.nolimit.fresh _ hsb, ?_⟩) L.kind)
    show codeAny _ _ (.expr body (lamEnv X scope s1.heap.objs.size f c')) _ _
    have kp : ∀ b o, s1.heap.get? b = some o → h₁.get? b = some o := fun b o e => hsb.extBut b o (Nat.ne_of_lt (Heap.lt_size e)) (Heap.get?_push_of_some _ e)
    have J : L2.Inv (lamCx X (X.A.deeper (envOfC qg sg s.heap.objs.size g cdg)) (envOfC qg sg s.heap.objs.size g cdg :: X.stack) s1 HZ (WE W σZ) scope f c') [] σ HZ { s1 with heap := h₁, toks := s1.toks + ([] : List (Str × Value)).length } :=
      lam_start2 I L I1.env0 hr.hd un hns kp
    refine PySem.W.kla_codeExpr (wpAny_mono ((hbody _ _ s1 HZ (WE W σZ) ⟨hr.deeper _, hgu⟩).run [] _ _ HZ Q J ht) (fun v s' ⟨w', H', J', rv, q⟩ => ⟨w', H', J'.os, J'.bare, J'.base, J'.hok, rv, q⟩) fun e s' hq => hq)
  refine wpAny_call (codeAny_mono rc fun r s' hq => ?_)
  rcases r with e | fl
  · exact passAt tk σZ pinsZ HZ s1 e s' I1 hq
  · cases fl with
    | ret u => exact I1.after hq
    | _ => exact hq.elim
end
end AG
set_option Elab.async false
set_option linter.all false
set_option maxRecDepth 100000
set_option maxHeartbeats 1000000
namespace AG
open PySem L2 PySem.Spec PyProof.Rows LamX
theorem Rel.inner {G : Cfg} {E : Ent} {F : Hp} {A : Adr} {σ σ' : L2.St} {H : Hp} {s : S} (R : Rel G E F A σ H s) {rhz : List SV} (hl : σ'.length = rhz.length) (no : ∀ j, isOwn (rhz.getD j .un) = false) (hs : ∀ (i : Nat) (x : SV) (v : Option V), rhz[i]? = some x → σ'[i]? = some v → SlotOk G ⟨H, F, A, s.muz.length⟩ F A H v x) :
    Rel G ⟨H, F, A, s.muz.length⟩ F A σ' H ⟨rhz, s.muz⟩ := ⟨R.sub, hl, hs, fun i j a _ _ o1 _ _ _ => absurd (show isOwn (rhz.getD i .un) = true from o1) (by rw [no i]; exact Bool.false_ne_true), R.cells, FLe.refl _, ALe.refl _, Nat.le_refl _, fun _ _ h _ _ => h, fun _ ps h => ⟨ps, h⟩, R.tabs, fun _ _ h => .inl h, fun _ _ h => .inl h⟩
def tailS (c3 : M Fl) (rhz : List SV) (s : S) : O D := match c3 ⟨rhz, s.muz⟩ with
  | .ok (.rt d) s3 => .ok d ⟨s.rhz, s3.muz⟩
  | .err e s3 => .err e ⟨s.rhz, s3.muz⟩
  | _ => .st
def heardS (ok : Nat → Bool) (f : M D) (c3 : M Fl) : M D := fun s => match f s with
  | .ok d s' => if sto d = true then tailS c3 [.un, .d d, .d .non, .un] s' else .st
  | .err e s' => if ok e.c = true then tailS c3 [.un, .d .non, .d (.exc e.c), .un] s' else .st
  | .st => .st
theorem vok_of {G : Cfg} {σ : L2.St} {F : Hp} {A : Adr} {x : D} {v : V} (r : Rep G F A x v) : VOk G σ F A x v := by
  cases x <;> first | exact r | (simp only [Rep] at r)
section
variable {G : Cfg} {W : WX} {E : Ent} {F F' : Hp} {A A' : Adr} {σ σh : L2.St} {H H' : Hp} {s s' : S} {c3 : M Fl} {rhz : List SV} {Q : VK}
theorem tail_ok (R : Rel G E F' A' σ H' s') (e : FLe F F') (g : ALe A A') (hl : σh.length = rhz.length) (no : ∀ j, isOwn (rhz.getD j .un) = false) (hs : ∀ (i : Nat) (x : SV) (v : Option V), rhz[i]? = some x → σh[i]? = some v → SlotOk G ⟨H', F', A', s'.muz.length⟩ F' A' H' v x)
    (P : PO G E W σ (okE G σ Q) F A (tailS c3 rhz s')) (nx : VK → Prop) : TSof G (fun cls dd _ H => WE W σ cls dd H) c3 { nx := fun _ H' => Q .non H', rt := Q } σh H' := by
  refine ⟨_, F', A', _, R.inner hl no hs, ?_⟩
  unfold tailS at P
  cases q : c3 ⟨rhz, s'.muz⟩ with
  | st => rw [q] at P; exact P.elim
  | err er s3 =>
    rw [q] at P
    intro σ2 F2 A2 H2 dd f1 f2 R2
    obtain ⟨fl, al, R3⟩ := R.call (muz' := s3.muz) ⟨σ2, s3.rhz, R2⟩
    exact P F2 A2 H2 dd (e.trans fl) (g.trans al) R3
  | ok fl s3 =>
    rw [q] at P
    cases fl with
    | rt x =>
      intro v σ2 F2 A2 H2 f1 f2 R2 hv
      obtain ⟨fl, al, R3⟩ := R.call (muz' := s3.muz) ⟨σ2, s3.rhz, R2⟩
      exact P F2 A2 H2 (e.trans fl) (g.trans al) R3 v (vok_of hv)
    | nx => exact P.elim
    | bk => exact P.elim
    | ct => exact P.elim
end
section
variable {fa : List He.Fa} {fn : List He.DefD} {G : Cfg} {W : WX} {X : Cx} {x a n1 n2 ne ae : Str} {k : Nat} {d : He.DefD} {c p : Addr} {f : M D} {c3 : M Fl} {st1 st3 : Stmt} {params : Arguments} {body : Expr} {scope : Scope} {lpos pos pp p1 p2 p3 p4 p5 p6 p7 p8 p9 p10 p11 p12 p13 p14 p15 p16 p17 : Pos} {x1 x2 : Nat} {j1 j2 cs : Nat}
def T1 (K : PySem.W.Frag) : TS := tAsg (tTup (tCons (tC .non) (tCons (tC .non) tNil))) (gTup K 2 (gCons (gName 1) (gCons (gName 2) gNil)))
theorem x_heard (j i ia : Nat) (ok : Nat → Bool) (T : Tx fa fn G X.mg) (M : Maker X G.T c p) (hr : Room (k + 3) X.A ∧ X.A.guards = some []) (tk : Takes X W) (L : LamS X.env.scope scope)
    (hbl : ∀ (q : Str) (cl : List (Str × Addr)) (pm cv ctv : Value), bindArgs (PySem.W.kla_fn "<lambda>" q params body scope cl pm cv ctv) ⟨[], []⟩ = pure [])
    (hlam : ∀ (A : Around) (outer : List Env) (s : Shared) (H : Hp) (E : XK) (f' c' : Addr), Room (k + 1) (A.deeper (lamEnv X scope s.heap.objs.size f' c')) ∧ (A.deeper (lamEnv X scope s.heap.objs.size f' c')).guards = some [] → PE (lamCx X A outer s H E scope f' c') body (TEof G (fun cls d _ H => E cls d H) f))
    (hs3 : ∀ (cdv : Value) (s : Shared) (H : Hp) (E : XK), cdv = .ref (He.codeOf G.K d.at_) → Room (k + 1) (X.A.deeper (envOfC d.qual d.scope s.heap.objs.size (He.fAd G.K d.at_) cdv)) ∧ X.A.guards = some [] →
      PSs (cxOf (L2.CX X.prog X.w) X.prog X.w X.K X.mg X.base [a, n1, n2, ne] d.qual d.scope (He.fAd G.K d.at_) cdv X.A X.stack s H E) [st3] (TSof G (fun cls dd _ H => E cls dd H) c3))
    (hs1 : ∀ (cdv : Value) (s : Shared) (H : Hp) (E : XK), PS (cxOf (L2.CX X.prog X.w) X.prog X.w X.K X.mg X.base [a, n1, n2, ne] d.qual d.scope (He.fAd G.K d.at_) cdv X.A X.stack s H E) st1 (T1 X.K))
    (hbd : d.body = [st1,
      .Try [.Assign [.Name n1 p8] (.Call (.Name a p9) [] [] p10) p11] [.ExceptHandler (some (.Name ae p12)) (some ne) [.Assign [.Name n2 p13] (.Name ne p14) p15] p16] [] [] p17, st3])
    (hsc : FnScope [a, n1, n2, ne] [a] d.scope) (hb : ∀ (kV doc pm : Value) (an : Option Addr) (cdv ct : Value) (us : List Value), us.length = 1 → bindArgs (PySem.W.fnOf d.name d.qual d.params d.body d.scope .none kV doc pm an cdv ct) ⟨us, []⟩ = pure ([a].zip us))
    (l1 : d.scope.names.lookup n1 = some .local) (l2 : d.scope.names.lookup n2 = some .local) (l3 : d.scope.names.lookup ne = some .local) (la : d.scope.names.lookup a = some .local)
    (hga : d.scope.names.lookup ae = some .globalImplicit) (hde : (ae == ("__debug__" : Str)) = false) (hia : fa[ia]? = some (.glo ae)) (hcs : He.ga G.K ae = G.CA cs) (hex : ∀ e, ok e = true → PySem.W.exmOne G.K (.ref (G.CA e)) (.ref (G.CA cs)) = some true)
    (hda : (a == ("__debug__" : Str)) = false) (hdn : (ne == ("__debug__" : Str)) = false) (hca : (a == ("__classdict__" : Str)) = false) (hcn : (ne == ("__classdict__" : Str)) = false)
    (hdf : d.dvs G.K = [] := by rfl) (hj : fn[j]? = some d := by rfl) (hat : d.at_ = (x, none) := by rfl) (hi : fa[i]? = some (.glo x) := by rfl) (hK : X.K = G.K := by rfl) (hg : Gl X x := by rfl) (hdef : defaultsOf params X.env = ([], []) := by rfl) (hdb : (x == ("__debug__" : Str)) = false := by decide) :
    PE X (.Call (.Name x pp) [.Lambda params body scope lpos] [] pos) (TEof G W (heardS ok f c3)) := by
  obtain ⟨fd', FD⟩ := T.says.def_ j hj
  obtain ⟨oc, od, dV, kV, doc, pmo, an, cdv, ct, osl, efd, lk, hcd, hD, _⟩ := FD.ex
  rw [hdf] at hD
  have ed : dV = .none := by
    rcases hD with ⟨_, z⟩ | ⟨z, _⟩
    · exact z
    · exact absurd rfl z
  have hm := T.glo i hi
  have hma := T.glo ia hia
  have ecd : cdv = .ref (He.codeOf G.K d.at_) := code_is ⟨oc, od, fd', osl, lk, by rw [efd], hcd⟩
  have kp := FD.kp
  have ef : He.fAd G.K d.at_ = He.ga G.K x := by rw [hat]; rfl
  refine ⟨fun pins s σ H Q I h => ?_⟩
  obtain ⟨E, F, A, s0, R, P⟩ := h
  refine wpAny_Call_Name_kw (ld_glob I hg hm ?_ hdb)
  rw [← ef]
  refine PySem.W.callWith_K (h₀ := X.base) I.ok.mod.kin (hK ▸ kp) ?_ (by rfl) (by rfl)
  show wpAny _ _ (spliced ((false, eval (.Lambda params body scope lpos) X.env) :: backTo pos (starEach [] X.env))) _ _ s
  refine Calls.spliced_cons (lam_made I M R.tabs.t hdef (L.has I.ok) fun f0 c' pm' ctv H1 s' I1 gr hf hfn hfr hco => ?_)
  refine Calls.spliced_nil ⟨I1.kIn, ?_⟩
  have R1 := R.grow gr
  have rc : codeAny (model X.prog X.w) X.A (.call (.ref (He.fAd G.K d.at_)) ⟨[.ref f0], []⟩) (CR (L2.CX X.prog X.w) X.stack X.prog X.w H1 s' Q (WE W σ)) s' := by
    have lk' : X.K.lookup (He.fAd G.K d.at_) = some ⟨oc, od, .func (PySem.W.fnOf d.name d.qual d.params d.body d.scope .none kV doc pmo an cdv ct), osl⟩ := by rw [hK, lk, efd, ed]
    refine run_ofS (N := [a, n1, n2, ne]) (ps := [a]) (us := [.ref f0]) (vs := [.ref f0]) (k := k + 2) lk' (by rw [hK]; exact hcd) hsc hr.1 I1.env0 (BindsTo.of_eq (hb kV doc pmo an cdv ct [.ref f0] rfl)) (.cons rfl .nil) rfl fun hr' => ?_
    have nd : ([a, n1, n2, ne] : List Str).Nodup := hsc.nd
    have hma' : X.mg ae = some (.ref (G.CA cs)) := by rw [hma, hcs]
    rw [hbd]
    have s1 := hs1 cdv s' H1 (WE W σ)
    have s2 := ps_try_keep (X := cxOf (L2.CX X.prog X.w) X.prog X.w X.K X.mg X.base [a, n1, n2, ne] d.qual d.scope (He.fAd G.K d.at_) cdv X.A X.stack s' H1 (WE W σ)) (x := ae) (n := ne) (c := .ref (G.CA cs)) (i := 3) (np := p12) (pos := p17) (pos' := p16)
      (tb := fun W' => tAsg (fun σZ HZ Q => σZ[0]? = some (some (.ref f0)) ∧ HZ c' = some (CodeO c' (X.env.qual ++ "<lambda>")) ∧ TEof G (fun cls d _ H => WE W' σZ cls d H) f σ HZ Q) (gName 1)) (ts := fun a cls d => tAsg (tVar 3) (gName 2)) rfl rfl rfl nd rfl l3 ⟨hga, hde, .inl hma'⟩
      (fun W' pn xe tk' _ => pss_one (ps_set (pos := p11) (pos' := p8) nd rfl (.inl l1) (act_g (i := 0) (p1 := p9) (p2 := p10) (tb := fun E => TEof G (fun cls d _ H => E cls d H) f) I1 L hf hfn hfr (hbl _ _ _ _ _) tk' hr' hr.2 (fun A outer s H E hr2 => hlam A outer s H E f0 c' ⟨hr2.1.mono (by omega), hr2.2⟩) rfl (.inl la) hda hca) (hf := .inr l1)))
      (fun a oe cls d pn _ _ => pss_one (ps_set (pos := p15) (pos' := p13) nd rfl (.inl l2) (pe_var (pos := p14) rfl (.inl l3) hdn hcn) (hf := .inr l2)))
    have s3 := hs3 cdv s' H1 (WE W σ) ecd ⟨hr'.mono (by omega), hr.2⟩
    refine ⟨_, pss_cons s1 (pss_cons s2 s3), ?_⟩
    refine ⟨by decide, fun pt hpt => ⟨pt, [.non, .non], rfl, .of upd_same, rfl, .non, [.non], rfl, .non, [], rfl, rfl, ?_⟩⟩
    have n4 : ∀ (x1 x2 : SV), isOwn x1 = false → isOwn x2 = false → ∀ j, isOwn (([.un, x1, x2, .un] : List SV).getD j .un) = false := fun x1 x2 h1 h2 j => by
      rcases j with _ | _ | _ | _ | j
      · rfl
      · exact h1
      · exact h2
      · rfl
      · rfl
    refine ⟨fun a C σ' H' => TSof G (fun cls dd _ H => WE W σ cls dd H) c3 { nx := fun _ H' => Q .non H', rt := Q } σ' (upd H' a (excO C a)), fun a C σ' H' _ h => h, rfl, ?_, ?_⟩
    · show upd H1 pt _ c' = _
      rw [upd_ne (fun e => by rw [e, hpt] at hco; cases hco)]
      exact hco
    refine ⟨E, F, A, s0, (R1.laid hpt).1, ?_⟩
    cases q : f s0 with
    | st =>
      have P1 := P
      unfold heardS at P1
      rw [q] at P1
      exact P1.elim
    | ok dv s2 =>
      have P1 := P
      unfold heardS at P1
      rw [q] at P1
      intro F2 A2 H2 e2 g2 R2 v hv
      cases hq : sto dv with
      | false => simp only [hq, Bool.false_eq_true, if_false] at P1; exact P1.elim
      | true =>
        simp only [hq, if_true] at P1
        refine tail_ok R2 e2 g2 (rhz := [.un, .d dv, .d .non, .un]) rfl (n4 _ _ rfl rfl) (fun i x w h1 h2 => ?_) P1 (fun _ => True)
        rcases i with _ | _ | _ | _ | i
        · cases h1; trivial
        · cases h1; cases h2; exact ⟨v, rfl, hv.rep hq⟩
        · cases h1; cases h2; exact ⟨.non, rfl, by simp [Rep]⟩
        · cases h1; trivial
        · simp at h1
    | err er s2 =>
      have P1 := P
      unfold heardS at P1
      rw [q] at P1
      intro F2 A2 H2 dd e2 g2 R2
      cases hq : ok er.c with
      | false => simp only [hq, Bool.false_eq_true, if_false] at P1; exact P1.elim
      | true =>
        simp only [hq, if_true] at P1
        refine ⟨true, by rw [hK]; exact hex _ hq, rfl, dd.2, G.CA er.c, rfl, fun b nb => ⟨.ref b, rfl, ?_⟩⟩
        have R3 := R2.newFz (o := excO (G.CA er.c) b) nb (by intro ps z; unfold excO at z; cases z)
        refine tail_ok R3 (e2.trans (fle_upd (R2.sub.none nb))) g2 (rhz := [.un, .d .non, .d (.exc er.c), .un]) rfl (n4 _ _ rfl rfl) (fun i x w h1 h2 => ?_) P1 (fun _ => True)
        rcases i with _ | _ | _ | _ | i
        · cases h1; trivial
        · cases h1; cases h2; exact ⟨.non, rfl, by simp [Rep]⟩
        · cases h1; cases h2; exact ⟨.ref b, rfl, by simp only [Rep]; exact ⟨b, rfl, upd_same⟩⟩
        · cases h1; trivial
        · simp at h1
  refine wpAny_call (codeAny_mono rc fun r s2 hq => ?_)
  have := after_g tk I1 r s2 hq
  rcases r with er | fl
  · exact this
  · cases fl with
    | ret u => exact this
    | _ => exact this.elim
end
end AG
set_option Elab.async false
set_option linter.all false
set_option maxRecDepth 100000
set_option maxHeartbeats 1000000
namespace AG
open PySem L2 PySem.Spec PyProof.Rows LamX
theorem excC_of {K : PySem.W.Frag} {exs : List Str} {x : Str} (h : excB K exs x = true) : ExcC K (He.ga K x) ∧ (∀ y ∈ exs, excN.contains y = true → PySem.W.kitOne K (.ref (He.ga K x)) (.ref (He.ga K y)) = some (decide (x = y))) ∧ PySem.W.exmOne K (.ref (He.ga K x)) (.ref (He.ga K "AgainError")) = some true ∧ PySem.W.kitOne K (.ref (He.ga K x)) (.type "ValueError") = some true := by
  unfold excB at h
  obtain ⟨h0, h1⟩ := He.ba h
  obtain ⟨a1, b1⟩ := He.ba h0
  obtain ⟨a2, b2⟩ := He.ba b1
  obtain ⟨a3, b3⟩ := He.ba b2
  obtain ⟨a4, b4⟩ := He.ba b3
  obtain ⟨a5, b5⟩ := He.ba b4
  obtain ⟨a6, b6⟩ := He.ba b5
  obtain ⟨a7, a8⟩ := He.ba b6
  obtain ⟨c1, c23⟩ := He.ba h1
  obtain ⟨c2, c3⟩ := He.ba c23
  refine ⟨⟨He.eqO_ok a1, He.eqO_ok a2, of_decide_eq_true a3, a4, He.eqO_ok a5, He.eqO_ok a6, of_decide_eq_true a7, of_decide_eq_true a8⟩, fun y hy hn => ?_, of_decide_eq_true c2, of_decide_eq_true c3⟩
  have := List.all_eq_true.mp c1 y hy
  rw [hn] at this
  simpa using this
def isES (es : List (Nat × Str)) (c : Nat) (f : M D) : M D := fun s => (f s).bind fun x s1 => match x with
  | .exc e => if (es.map (·.1)).contains e = true then .ok (.bl (decide (e = c))) s1 else .st
  | _ => .st
theorem exm_of {G : Cfg} {exs : List Str} {es : List (Nat × Str)} (h : ∀ p ∈ es, excB G.K exs p.2 = true ∧ G.CA p.1 = He.ga G.K p.2) {cs : Nat} (hcs : He.ga G.K "AgainError" = G.CA cs) : ∀ e, (es.map (·.1)).contains e = true → PySem.W.exmOne G.K (.ref (G.CA e)) (.ref (G.CA cs)) = some true := fun e he => by
  obtain ⟨p, hp, rfl⟩ := List.mem_map.mp (List.contains_iff_mem.mp he)
  obtain ⟨h1, h2⟩ := h p hp
  rw [h2, ← hcs]
  exact (excC_of h1).2.2.1
section
variable {fa : List He.Fa} {fn tf : List He.DefD} {exs : List Str} {G : Cfg} {W : WX} {X : Cx} {x : Str} {p q pos : Pos} {a : Expr} {f : M D}
theorem x_isE (es : List (Nat × Str)) (c i : Nat) (h1 : ∀ p ∈ es, excB G.K exs p.2 = true ∧ G.CA p.1 = He.ga G.K p.2) (h2 : ∀ p ∈ es, decide (p.2 = x) = decide (p.1 = c)) (hx : x ∈ exs) (hn : excN.contains x = true) (T : Tx fa fn G X.mg) (ha : PE X a (TEof G W f)) (hm : X.mg "isinstance" = none) (hi : fa[i]? = some (.glo x) := by rfl) (hK : X.K = G.K := by rfl) (hg : Gl X "isinstance" := by rfl) (hg2 : Gl X x := by rfl) (hdb : (x == ("__debug__" : Str)) = false := by decide)
    (he : starEach [a, .Name x q] X.env = (false, eval a X.env) :: starEach [.Name x q] X.env := by rfl) (hpl : (backTo pos (starEach [.Name x q] X.env)).any (·.1) = false := by rfl) :
    PE X (.Call (.Name "isinstance" p) [a, .Name x q] [] pos) (TEof G W (isES es c f)) := by
  have mg := T.glo i hi
  have k := pe_callB (p := p) (pos := pos) call_isX hg hm (by decide +kernel) (pa_cons (hs := he) ha (pa_cons (pe_glob (v := .ref (He.ga G.K x)) (pos := q) hg2 mg rfl hdb) pa_nil)) (by decide) (by decide) he hpl
  refine PEimp k fun σ H Q ⟨E, F, A, s, R, P⟩ => ⟨E, F, A, s, R, PO.bind P fun y s1 F1 A1 H1 e1 g1 R1 P1 u hu => ?_⟩
  show rIsX X.K [u, .ref (He.ga G.K x)] H1 Q
  cases y with
  | exc e =>
    by_cases hc : (es.map (·.1)).contains e = true
    · simp only [if_pos hc] at P1
      obtain ⟨p0, hp, rfl⟩ := List.mem_map.mp (List.contains_iff_mem.mp hc)
      obtain ⟨b1, b2⟩ := h1 p0 hp
      obtain ⟨c1, c2, _⟩ := excC_of b1
      have hr : Rep G F1 A1 (.exc p0.1) u := hu
      simp only [Rep] at hr
      obtain ⟨a0, rfl, fa0⟩ := hr
      have ha0 : H1 a0 = some (excO (G.CA p0.1) a0) := by
        rcases R1.sub a0 _ fa0 with z | ⟨z, _⟩
        · exact z
        · exact z.elim
      refine ⟨a0, G.CA p0.1, .ref (He.ga G.K x), .ref (He.ga G.K x), decide (p0.1 = c), rfl, ha0, by rw [hK, b2]; exact c1, fun u hu => hu, by rw [hK, b2, c2 x hx hn, h2 p0 hp], P1.ok_here R1 _ vok_bl⟩
    · simp only [if_neg hc] at P1
      exact P1.elim
  | _ => exact P1.elim
theorem takes_lam {A : Around} {outer : List Env} {s : Shared} {H : Hp} {E : XK} {scope : Scope} {f' c' : Addr} : Takes (lamCx X A outer s H E scope f' c') (fun cls d _ H => E cls d H) := takes_of rfl rfl rfl rfl
end
def stS : M Fl := fun _ => .st
theorem pss_dead {G : Cfg} {W : WX} {X : Cx} {b : List Stmt} : PSs X b (TSof G W stS) := ⟨fun pins s σ H D I ⟨_, _, _, _, _, P⟩ => P.elim⟩
def rCountD (K : PySem.W.Frag) : V → List V → Hp → VK → Prop := fun x xs H Q => ∃ (a : Addr) (y : V) (d : PyData) (ds : List PyData), x = V.ref a ∧ xs = [y] ∧ Dp K H (V.ref a) (.list ds) ∧ Dp K H y d ∧ SeqAt.shaped (.list ds) = true ∧ SeqAt.shaped d = true ∧ Q (.int (ds.countP fun z => PyData.eqv z d : Nat)) H
theorem mt_countD {X : Cx} (hu : X.A.units + 65 < cLine) : MtR X "list.count" (rCountD X.K) := by
  intro pins s σ H x xs v us Q I rx rxs h
  obtain ⟨a, y, d, ds, rfl, rfl, hl, hy, sl, sd, q⟩ := h
  cases rx
  obtain ⟨uy, rfl, ry⟩ := rxs.one
  obtain ⟨bs, r1⟩ := Dp.reads I d y uy hy ry
  have hxs : PyData.canLayAll0 ds = true := SeqAt.canLay_of_shaped sl
  have hroom : X.A.units + 1 + min (PyData.depthAll ds) d.depth < cLine := room_in_shaped sd hu
  cases hl with
  | lst hs ha =>
    obtain ⟨its, rv, ⟨⟨cls, dd, data, sls⟩, n, ho, hc, hdn, hdt⟩, hlen⟩ := I.list hs
    simp only at hc hdt
    subst hc hdt
    obtain ⟨as, h4⟩ := Dp.readsAll I ds _ its ha rv
    have hmap : its.map (SeqAt.readOf s.heap) = ds := SeqAt.readsAll_map ds its as hxs h4
    refine call_meets PySem.F.slot_list_count ⟨_, ho, rfl⟩ PySem.F.entry_list_count (PySem.F.args_list_count_2 _ _)
      (SeqAt.list_countAt a its.toArray n dd sls uy (fun u => PyData.eqv (SeqAt.readOf s.heap u) d)) ⟨ho, SeqAt.items_eqAt (vs := its.toArray) (show ReadsAll s.heap its.toArray.toList ds as from h4) r1 hxs (SeqAt.canLay_of_shaped sd) hroom, ?_⟩
    have ec : its.toArray.toList.countP (fun u => PyData.eqv (SeqAt.readOf s.heap u) d) = ds.countP fun z => PyData.eqv z d := by
      rw [← hmap, List.countP_map]
      rfl
    refine ⟨.int (ds.countP fun z => PyData.eqv z d : Nat), H, I.tok _, ⟨s.toks, ?_⟩, q⟩
    show Value.int ((its.toArray.toList.countP (fun u => PyData.eqv (SeqAt.readOf s.heap u) d) : Nat) : Int) s.toks = _
    rw [ec]
def countD (s : S) (x y : D) : Option D := match vw s x with
  | .lst l => (match pyL l, pyOf (vw s y) with
    | some es, some e => if (SeqAt.shaped (.list es) && SeqAt.shaped e) = true then some (.int (es.countP fun z => PyData.eqv z e : Nat)) else none
    | _, _ => none)
  | _ => none
def countS (f g : M D) : M D := fun s => (f s).bind fun x s1 => match vw s1 x with
  | .lst _ => (g s1).bind fun y s2 => match countD s2 x y with
    | some d => .ok d s2
    | none => .st
  | _ => .st
theorem x_count {G : Cfg} {W : WX} {X : Cx} {t : Expr} {f g : M D} (hK : X.K = G.K) (k : PE X t (tBM X.K "list" (rCountD X.K) (TEof G W f) (tCons (TEof G W g) tNil))) : PE X t (TEof G W (countS f g)) := by
  refine PEimp k fun σ H Q ⟨E, F, A, s, R, P⟩ => ⟨E, F, A, s, R, PO.bind P fun x s1 F1 A1 H1 e1 g1 R1 P1 u hu => ?_⟩
  split at P1
  · rename_i l0 h0
    obtain ⟨a0, vs0, rfl, h20, r0⟩ := lst_view R1 hu h0
    refine ⟨.inl ⟨rfl, vs0, .of h20⟩, E, F1, A1, s1, R1, PO.bind P1 fun y s2 F2 A2 H2 e2 g2 R2 P2 w hw => ?_⟩
    cases q : countD s2 x y with
    | none => rw [q] at P2; exact P2.elim
    | some d =>
      rw [q] at P2
      unfold countD at q
      split at q
      · rename_i l h1
        split at q
        · rename_i es e h2 h3
          split at q
          · rename_i h4
            simp only [Bool.and_eq_true] at h4
            cases q
            have hl := dp_view R2 (hu.mono e2 g2) (e := .list es) (by rw [h1]; exact pyOf_lst h2)
            refine ⟨a0, w, e, es, rfl, rfl, by rw [hK]; exact hl, by rw [hK]; exact dp_view R2 hw h3, h4.1, h4.2, ?_⟩
            exact P2 F2 A2 H2 (FLe.refl _) (ALe.refl _) R2 _ vok_int
          · cases q
        · cases q
      · cases q
  · exact P1.elim
end AG
set_option Elab.async false
set_option linter.all false
set_option maxRecDepth 100000
namespace AG
open PySem L2
end AG
set_option Elab.async false
set_option linter.all false
set_option maxRecDepth 100000
namespace AG
open PySem L2 PySem.Spec PyProof.Rows
def isiXD (cs : List Nat) (T : String) (s : S) (x : D) : Option D := match vw s x with
  | .ins c _ => if cs.contains c = true then some (.bl false) else none
  | _ => isiD T s x
def isiXS (cs : List (Nat × Str)) (T : String) (f : M D) : M D := unS (isiXD (cs.map (·.1)) T) f
end AG
set_option Elab.async false
set_option linter.all false
set_option maxRecDepth 100000
namespace AG
open PySem L2
def tgU (ts : List (D → M Unit)) : D → M Unit := fun d s => match d with
  | .lst ds => tgsS ts ds s
  | _ => .st
theorem tgU_ap (ts : List (D → M Unit)) (ds : List D) (s : S) : tgU ts (.lst ds) s = tgsS ts ds s := Eq.trans rfl rfl
end AG
set_option Elab.async false
set_option linter.all false
set_option maxRecDepth 100000
set_option maxHeartbeats 1000000
namespace AG
open PySem L2 PySem.Spec PyProof.Rows
open AutoSeq1 (wpAny_loadPart')
end AG
set_option Elab.async false
set_option linter.all false
set_option maxRecDepth 100000
set_option maxHeartbeats 1000000
namespace AG
open PySem L2 PySem.Spec PyProof.Rows LamX
end AG
namespace AG
open PySem L2
end AG
set_option Elab.async false
set_option linter.all false
set_option maxRecDepth 100000
set_option maxHeartbeats 1000000
namespace AG
open PySem L2 PySem.Spec PyProof.Rows
def revD (s : S) (x : D) : Option D := match vw s x with
  | .lst l => some (.lst l.reverse)
  | .tup l => some (.tup l.reverse)
  | _ => none
theorem revD_tup (s : S) (l : List D) : revD s (.tup l) = some (.tup l.reverse) := Eq.trans rfl rfl
theorem revD_lst (s : S) (l : List D) : revD s (.lst l) = some (.lst l.reverse) := Eq.trans rfl rfl
end AG
set_option Elab.async false
set_option linter.all false
set_option maxRecDepth 100000
namespace PySem.SeqAt
open PySem PyProof.Rows
end PySem.SeqAt
namespace AG
open PySem L2 PyProof.Rows
end AG
set_option Elab.async false
set_option linter.all false
set_option maxRecDepth 100000
namespace AG
open PySem L2 PyProof.Rows
end AG
set_option Elab.async false
set_option linter.all false
set_option maxRecDepth 100000
set_option maxHeartbeats 1000000
namespace AG
open PySem L2 PySem.Spec PyProof.Rows
section
variable {G : Cfg} {E : Ent} {W : WX} {X : Cx} {F F' F0 : Hp} {A A' A0 : Adr} {σ σ0 : L2.St} {H H0 : Hp} {s s0 : S} {t : Expr} {a : Addr} {u u0 : HO} {od : Obj}
abbrev Ent.lk (E : Ent) (a : Addr) (od : Obj) (u : HO) : Ent := { E with H := upd E.H a (.frz od u), F := upd E.F a u }
theorem tabs_write {T : List (Addr × Str)} (h : LamX.Tabs T H) {o : HO} (hne : ∀ x, H a = some x → isDict x ∨ ∃ od y, x = .frz od y) : LamX.Tabs T (upd H a o) := fun p hp => by
  obtain ⟨ps, h1, h2, h3⟩ := h p hp
  have n1 : p.1 ≠ a := fun e => by
    rw [e] at h1
    rcases hne _ h1 with k | ⟨_, _, k⟩
    · exact k
    · cases k
  refine ⟨ps, by rw [upd_ne n1]; exact h1, h2, fun pos cv hc => ?_⟩
  obtain ⟨c, e1, e2⟩ := h3 pos cv hc
  refine ⟨c, e1, ?_⟩
  have n2 : c ≠ a := fun e => by
    rw [e] at e2
    rcases hne _ e2 with k | ⟨_, _, k⟩
    · exact k
    · cases k
  rw [upd_ne n2]
  exact e2
theorem at_dict (R : Rel G E F A σ H s) (hF : F a = some u) (hu : isDict u) : ∀ x, H a = some x → isDict x ∨ ∃ od y, x = .frz od y := fun x hx => by
  rcases R.sub a u hF with k | ⟨_, od, k⟩
  · rw [k] at hx; cases hx; exact .inl hu
  · rw [k] at hx; cases hx; exact .inr ⟨_, _, rfl⟩
theorem Rel.lock (R : Rel G E F A σ H s) (hF : F a = some u) (hu : isDict u) (od : Obj) : Rel G (E.lk a od u) F A σ (upd H a (.frz od u)) s := by
  have na : ∀ {b : Addr}, F b = none → b ≠ a := fun h z => by subst z; rw [hF] at h; cases h
  have nu : ∀ ps, u ≠ .tbl ps := fun ps z => by subst z; exact hu
  refine ⟨fun b o hb => ?_, R.len, fun i x v h1 h2 => ?_, R.dist, ⟨fun n m h => ?_, R.cells.dom, R.cells.inj⟩, fun b o h => ?_, R.ale, R.nle, fun b o h1 h2 h3 => ?_, fun b ps h => ?_, ⟨tabs_write R.tabs.t (at_dict R hF hu), R.tabs.n⟩, fun b o h => ?_, fun n b h => ?_⟩
  · by_cases q : b = a
    · subst q
      rw [hF] at hb
      cases hb
      exact .inr ⟨hu, od, upd_same⟩
    · rw [upd_ne q]
      exact R.sub b o hb
  · have k := R.slot i x v h1 h2
    cases x with
    | un => trivial
    | d x => exact k
    | own m =>
      obtain ⟨b, k1, k2, k3, k4, k5⟩ := k
      have q := na k3
      refine ⟨b, k1, MoOk.mono (FLe.refl _) (ALe.refl _) (fun o ho => by rw [upd_ne q]; exact ho) k2, k3, ?_, k5⟩
      show upd E.H a _ b = none
      rw [upd_ne q]
      exact k4
  · obtain ⟨b, h1, h2, h3⟩ := R.cells.at_ n m h
    exact ⟨b, h1, MoOk.mono (FLe.refl _) (ALe.refl _) (fun o ho => by rw [upd_ne (na h3)]; exact ho) h2, h3⟩
  · change upd E.F a u b = some o at h
    by_cases q : b = a
    · subst q
      rw [upd_same] at h
      cases h
      exact hF
    · rw [upd_ne q] at h
      exact R.fle b o h
  · change upd E.H a _ b = some o at h1
    by_cases q : b = a
    · subst q
      rw [upd_same] at h1
      rw [upd_same]
      exact h1
    · rw [upd_ne q] at h1
      rw [upd_ne q]
      exact R.keep b o h1 h2 h3
  · change upd E.H a _ b = _ at h
    by_cases q : b = a
    · subst q
      rw [upd_same] at h
      cases h
    · rw [upd_ne q] at h
      rw [upd_ne q]
      exact R.tb b ps h
  · show upd E.F a u b = some o ∨ upd E.H a _ b = none ∨ isTup o
    by_cases q : b = a
    · subst q
      rw [hF] at h
      cases h
      exact .inl upd_same
    · rw [upd_ne q, upd_ne q]
      exact R.fz b o h
  · show E.A n = some b ∨ upd E.H a _ b = none
    have hl := R.cells.dom n b h
    obtain ⟨b', h1, h2, h3⟩ := R.cells.at_ n _ (List.getElem?_eq_getElem hl)
    rw [h] at h1
    cases h1
    rw [upd_ne (na h3)]
    exact R.hz n b h
theorem Rel.unlock (R0 : Rel G E F0 A0 σ0 H0 s0) (hF : F0 a = some u) (hu : isDict u) (h0 : H0 a = some u0) (hu0 : u0 = u ∨ ∃ od', u0 = .frz od' u) (R : Rel G (E.lk a od u) F A σ H s) (e : FLe F0 F) : Rel G E F A σ (upd H a u0) s := by
  have hF' := e _ _ hF
  have na : ∀ {b : Addr}, F b = none → b ≠ a := fun h z => by subst z; rw [hF'] at h; cases h
  have no : ∀ {b : Addr}, b ≠ a → (E.lk a od u).H b = E.H b := fun q => by show upd E.H a _ _ = _; rw [upd_ne q]
  refine ⟨fun b o hb => ?_, R.len, fun i x v h1 h2 => ?_, R.dist, ⟨fun n m h => ?_, R.cells.dom, R.cells.inj⟩, R0.fle.trans e, R.ale, R.nle, fun b o h1 h2 h3 => ?_, fun b ps h => ?_, ⟨tabs_write R.tabs.t (at_dict R hF' hu), R.tabs.n⟩, fun b o h => ?_, fun n b h => ?_⟩
  · by_cases q : b = a
    · subst q
      rw [hF'] at hb
      cases hb
      rw [upd_same]
      rcases hu0 with rfl | ⟨od', rfl⟩
      · exact .inl rfl
      · exact .inr ⟨hu, od', rfl⟩
    · rw [upd_ne q]
      exact R.sub b o hb
  · have k := R.slot i x v h1 h2
    cases x with
    | un => trivial
    | d x => exact k
    | own m =>
      obtain ⟨b, k1, k2, k3, k4, k5⟩ := k
      have q := na k3
      exact ⟨b, k1, MoOk.mono (FLe.refl _) (ALe.refl _) (fun o ho => by rw [upd_ne q]; exact ho) k2, k3, by rw [← no q]; exact k4, k5⟩
  · obtain ⟨b, h1, h2, h3⟩ := R.cells.at_ n m h
    exact ⟨b, h1, MoOk.mono (FLe.refl _) (ALe.refl _) (fun o ho => by rw [upd_ne (na h3)]; exact ho) h2, h3⟩
  · by_cases q : b = a
    · subst q
      have k := R0.keep b o h1 h2 h3
      rw [h0] at k
      rw [upd_same]
      exact k
    · rw [upd_ne q]
      exact R.keep b o (by rw [no q]; exact h1) h2 h3
  · by_cases q : b = a
    · subst q
      obtain ⟨qs, k⟩ := R0.tb b ps h
      rw [h0] at k
      rcases hu0 with rfl | ⟨od', rfl⟩
      · cases k; exact hu.elim
      · cases k
    · rw [upd_ne q]
      exact R.tb b ps (by rw [no q]; exact h)
  · by_cases q : b = a
    · subst q
      rw [hF'] at h
      cases h
      exact R0.fz b _ hF
    · rcases R.fz b o h with k | k | k
      · change upd E.F a u b = some o at k
        rw [upd_ne q] at k
        exact .inl k
      · exact .inr (.inl (by rw [← no q]; exact k))
      · exact .inr (.inr k)
  · have hl := R.cells.dom n b h
    obtain ⟨b', h1, h2, h3⟩ := R.cells.at_ n _ (List.getElem?_eq_getElem hl)
    rw [h] at h1
    cases h1
    rcases R.hz n b h with k | k
    · exact .inl k
    · exact .inr (by rw [← no (na h3)]; exact k)
theorem New.unlock {p : Addr} {m : MO} (N : New G (E.lk a od u) F A σ H s p m) (hF : F a = some u) : New G E F A σ (upd H a u0) s p m := by
  have q : p ≠ a := fun z => by have := N.nf; rw [z, hF] at this; cases this
  refine ⟨MoOk.mono (FLe.refl _) (ALe.refl _) (fun o ho => by rw [upd_ne q]; exact ho) N.mo, N.nf, ?_, N.nA, N.nσ⟩
  have := N.ne
  change upd E.H a _ p = none at this
  rw [upd_ne q] at this
  exact this
def Lkd (a : Addr) (o : HO) (E : Ent) : Prop := E.H a = some o ∧ ∀ n, E.A n ≠ some a
theorem Lkd.at {o : HO} (h : Lkd a o E) (ho : ∀ ps, o ≠ .tbl ps) (R : Rel G E F A σ H s) : H a = some o := R.keep a o h.1 h.2 ho
def ItOkP (G : Cfg) (Pe : Ent → Prop) (F : Hp) (A : Adr) (J : It) (ds : List D) : Prop := ∀ (E : Ent), Pe E → ∀ (F' : Hp) (A' : Adr) (σ : L2.St) (H : Hp) (s : S), FLe F F' → ALe A A' → Rel G E F' A' σ H s →
  (∀ i, ds.length ≤ i → J.stop i H) ∧ ∀ i d, ds[i]? = some d → J.go i H ∧ ∀ x H', J.yld i H x H' → ∃ F'', FLe F' F'' ∧ Rel G E F'' A' σ H' s ∧ Rep G F'' A' d x
end
section
variable {G : Cfg} {W : WX} {X : Cx} {t : Expr} {st : Stmt}
theorem key_rep {d : D} {k : L2.Key} {F : Hp} {A : Adr} (h : keyD d = some k) : Rep G F A d (kV k) := by
  cases d <;> first | (cases h; simp only [Rep]; rfl) | cases h
theorem pv (i : Nat) {x : Str} {pos : Pos} (hN : X.N[i]? = some x := by rfl) (hv : Vis X.env.scope x := by first | exact Or.inl rfl | exact Or.inr (Or.inl rfl) | exact Or.inr (Or.inr rfl)) (hd : (x == ("__debug__" : Str)) = false := by decide)
    (hcd : (x == ("__classdict__" : Str)) = false := by decide) : PE X (.Name x pos) (tVar i) := pe_var hN hv hd hcd
def dictC (s : S) : List D → Option MO
  | [x] => (match vw s x with
    | .dct false l => some (.md false l)
    | _ => none)
  | _ => none
def rDictC : List V → Hp → VK → Prop := fun xs H Q => ∃ (a : Addr) (kvs : List (L2.Key × V)), xs = [.ref a] ∧ Rd H a (.dK kvs) ∧ ∀ p, H p = none → Q (.ref p) (upd H p (.dK kvs))
theorem cn_dictC : ClN G rDictC dictC := by
  intro E F A σ H s xs ds m Q R hx q k
  unfold dictC at q
  split at q
  · rename_i x
    split at q
    · rename_i l hv
      cases q
      obtain ⟨v, rfl, hx1⟩ := paired1 hx rfl
      obtain ⟨a, vs, o, rfl, r, hr, hd⟩ := dct_view R hx1 hv
      obtain ⟨ks, rfl, h2, h3⟩ := hd
      refine ⟨a, _, rfl, hr, fun p hp => ?_⟩
      obtain ⟨R2, k1, k2, k3, k4⟩ := R.laid (o := .dK (List.zip ks vs)) hp
      exact k p F A _ (FLe.refl _) (ALe.refl _) R2 ⟨⟨vs, _, r, upd_same, ⟨ks, rfl, h2, h3⟩⟩, k1, k2, k3, k4⟩
    · cases q
  · cases q
end
end AG
set_option Elab.async false
set_option linter.all false
set_option maxRecDepth 100000
namespace AG
open PySem L2 PyProof.Rows
end AG
set_option Elab.async false
set_option linter.all false
set_option maxRecDepth 100000
namespace AG
open PySem L2 PySem.Spec PyProof.Rows
end AG
set_option Elab.async false
set_option linter.all false
set_option maxRecDepth 100000
namespace AG
open PySem L2 PySem.Spec PyProof.Rows
def lnS (call : List D → List MO → R) (c : Nat) (f : M D) : M D := fun s => (f s).bind fun x s1 => if (isOf c "__len__" s1 x && sto x) = true then (match call [x] s1.muz with
  | .ok (.int n) muz => if 0 ≤ n ∧ n < 2 ^ 62 then .ok (.int n) { s1 with muz := muz } else .st
  | _ => .st) else .st
def rLenO (G : Cfg) (c : Nat) (call : List D → List MO → R) : List V → Hp → VK → Prop := fun xs H Q => ∃ z dx fs, xs = [.ref z] ∧ H z = some (.ins (G.CA c) dx fs) ∧ ∀ σ, spOf G call [.ref z] H (fun v H' => ∃ n : Int, v = .int n ∧ (0 ≤ n ∧ n < 2 ^ 63) ∧ Q v H') (WE W0 σ)
section
variable {fa : List He.Fa} {fn : List He.DefD} {G : Cfg} {W : WX} {X : Cx} {x m : Str} {p pos apos : Pos} {a b : Expr} {k : Nat} {C : Calls} {f g : M D} {d : He.DefD}
theorem cr_lenO (c j i2 : Nat) (T : Tx fa fn G X.mg) (B : Tab X.prog X.w G X.mg X.base fn k C) (hr : Room (k + 1) X.A ∧ X.A.guards = some []) (hj : fn[j]? = some d := by rfl) (hat : d.at_ = (x, some ("__len__" : Str)) := by rfl) (hi2 : fa[i2]? = some (.meth x "__len__") := by rfl) (hc : G.CA c = He.ga G.K x := by rfl) (hK : X.K = G.K := by rfl) :
    CallR X (.builtin "len") (rLenO G c (C j)) := by
  obtain ⟨fd, ps, mt, hbd, F⟩ := meth_at c j i2 T B hj hat hi2 hc hK
  intro pins s σ H xs us Q I r h
  obtain ⟨z, dx, fs, rfl, ea, q⟩ := h
  obtain ⟨u, rfl, ru⟩ := vals1 r
  obtain rfl : u = Value.ref z := ru
  obtain ⟨od, J⟩ := inst_at I ea
  obtain ⟨m', Fr'⟩ := I.fr
  have tk : Takes X W0 := fun u s' ⟨a, B, sI, pins, σ, H, cls, d, e, I, nb, up, sky, na, os, ag, w⟩ => w.elim
  refine PySem.W.len_K Fr' I.ok.mod.kin J mt.at_ mt.fn (wpAny_mono (run_own (us := [.ref z]) (vs := [.ref z]) F (room_in hr) I.ok.frames hbd tk I (.cons rfl .nil) (q σ)) (fun v t h => ?_) fun _ _ e => e)
  obtain ⟨y, H', I', r', n, rfl, h0, q'⟩ := h
  obtain ⟨tt, rfl⟩ := r'
  exact ⟨h0, .int n, H', I'.tok _, ⟨_, rfl⟩, q'⟩
theorem x_lenO {t : Expr} (c j : Nat) (k : PE X t (tCB (rLenO G c (C j)) (tCons (TEof G W f) tNil))) : PE X t (TEof G W (lnS (C j) c f)) := by
  refine PEimp k fun σ H Q ⟨E, F, A, s, R, P⟩ => ⟨E, F, A, s, R, PO.bind P fun x s1 F1 A1 H1 e1 g1 R1 P1 v hv => ?_⟩
  by_cases q : (isOf c "__len__" s1 x && sto x) = true
  · rw [if_pos q] at P1
    rw [Bool.and_eq_true] at q
    obtain ⟨a1, da, fs, rfl, ea, _⟩ := isOf_view R1 hv q.1
    refine ⟨a1, da, fs, rfl, ea, fun σ' => ?_⟩
    have w : spOf G (C j) [.ref a1] H1 (fun v H' => ∃ n : Int, v = .int n ∧ (0 ≤ n ∧ n < 2 ^ 63) ∧ Q v H') (WE W0 σ) := by
      refine call_here R1 (.cons hv .nil) ?_
      simp only [List.all_cons, List.all_nil, q.2, Bool.and_self, if_true]
      split at P1
      · rename_i n muz e
        rw [e]
        split at P1
        · rename_i hn
          intro F2 A2 H2 e2 g2 R2 v2 hv2
          exact ⟨n, hv2.int, ⟨hn.1, by omega⟩, P1 F2 A2 H2 e2 g2 R2 v2 hv2⟩
        · exact P1.elim
      · exact P1.elim
    exact w
  · rw [if_neg q] at P1
    exact P1.elim
end
end AG
set_option Elab.async false
set_option linter.all false
set_option maxRecDepth 100000
namespace AG
open PySem L2 PyProof.Rows
end AG
set_option Elab.async false
set_option linter.all false
set_option maxRecDepth 100000
namespace AG
open PySem L2
mutual
def nd : D → Bool
  | .tup l => ndL l
  | .lst l => ndL l
  | .dct _ _ => false
  | .ins _ fs => ndF fs
  | .loc _ => false
  | _ => true
def ndL : List D → Bool
  | [] => true
  | d :: l => nd d && ndL l
def ndF : List (Str × D) → Bool
  | [] => true
  | (_, d) :: l => nd d && ndF l
end
end AG
set_option Elab.async false
set_option linter.all false
set_option maxRecDepth 100000
namespace PySem.SeqAt
open PySem PyProof.Rows PySem.W
end PySem.SeqAt
namespace AG
open PySem L2 PySem.Spec PyProof.Rows
end AG
set_option Elab.async false
set_option linter.all false
set_option maxRecDepth 100000
namespace AG
open PySem L2 PyProof.Rows
def pairT (p : D × D) : D := .tup [p.1, p.2]
def itI (i : Nat) : M (List D) := fun s => match s.rhz[i]? with
  | some (.d (.dct false l)) => .ok (l.map pairT) s
  | _ => .st
def noE : O Fl → O Fl
  | .err _ _ => .st
  | o => o
def forI (it : M (List D)) (tg : D → M Unit) (b : M Fl) : M Fl := fun s => (it s).bind fun ds s1 => noE (forL tg b ds s1)
section
variable {G : Cfg} {W : WX} {X : Cx} {t : Expr} {st : Stmt}
theorem items_ok {F : Hp} {A : Adr} {a : Addr} {od : Obj} {ks : List L2.Key} {vs : List V} {l : List (D × D)} (hr : RepL2 G F A l vs) (hk : ks.map some = l.map (fun p => keyD p.1)) (hl : ks.length = vs.length) : ItOkP G (Lkd a (.frz od (.dK (List.zip ks vs)))) F A (Iti a od (List.zip ks vs)) (l.map pairT) := by
  intro E hE F' A' σ H s e g R
  have hH := hE.at (fun ps z => by cases z) R
  have h1 : ks.length = l.length := by simpa using congrArg List.length hk
  have hz : (List.zip ks vs).length = l.length := by rw [List.length_zip, ← hl, h1, Nat.min_self]
  refine ⟨fun i hi => ⟨hH, by rw [hz]; simpa using hi⟩, fun i d hd => ?_⟩
  rw [List.getElem?_map, Option.map_eq_some_iff] at hd
  obtain ⟨p, hp, rfl⟩ := hd
  have hi := (List.getElem?_eq_some_iff.mp hp).1
  refine ⟨⟨hH, by omega⟩, fun x H' y => ?_⟩
  obtain ⟨T, k, v, e1, rfl, hn, rfl⟩ := y
  obtain ⟨z1, z2⟩ := List.getElem?_eq_some_iff.mp e1
  rw [List.getElem_zip] at z2
  have z3 : k = ks[i]'(by omega) := (congrArg Prod.fst z2).symm
  have z5 : v = vs[i]'(by omega) := (congrArg Prod.snd z2).symm
  have z4 : (ks.map some)[i]? = (l.map fun p => keyD p.1)[i]? := by rw [hk]
  rw [List.getElem?_map, List.getElem?_map, hp, List.getElem?_eq_getElem (by omega)] at z4
  have kk : keyD p.1 = some k := by
    rw [z3]
    exact (Option.some.inj z4).symm
  have rv : Rep G F A p.2 v := by
    rw [z5]
    clear z5 z3 z2 e1 z4 kk hH hE
    have gen : ∀ (l : List (D × D)) (vs : List V), RepL2 G F A l vs → ∀ (i : Nat) (p : D × D), l[i]? = some p → ∀ h : i < vs.length, Rep G F A p.2 vs[i] := by
      intro l
      induction l with
      | nil => intro vs _ i p hp; cases hp
      | cons q l ih =>
        intro vs r i p hp h
        obtain ⟨qk, qv⟩ := q
        simp only [RepL2] at r
        obtain ⟨v, r', rfl, r1, r2⟩ := r
        cases i with
        | zero =>
          cases hp
          exact r1
        | succ i => exact ih r' r2 i p hp (by simpa using h)
    exact gen l vs hr i p hp (by omega)
  refine ⟨upd F' T (.tup [kV k, v]), fle_upd (R.sub.none hn), R.newFz hn, ?_⟩
  unfold pairT
  simp only [Rep]
  refine ⟨T, [kV k, v], rfl, upd_same, ?_⟩
  simp only [RepL]
  exact ⟨_, _, rfl, key_rep kk, _, _, rfl, Rep.mono (e.trans (fle_upd (R.sub.none hn))) g _ _ rv, rfl⟩
theorem s_forI {i : Nat} {ws : List Nat} {tg : D → M Unit} {sf : M Fl} (hT : ∀ d s e s', tg d s ≠ .err e s') (k : PS X st (tFor (iItems (tVar i)) (TGof G ws tg) (TSof G W0 sf))) : PS X st (TSof G W (forI (itI i) tg sf)) := by
  refine ⟨fun pins sh σ H D I h => ?_⟩
  obtain ⟨E, F, A, s, R, P⟩ := h
  unfold forI itI at P
  cases hi : s.rhz[i]? with
  | none => simp only [hi] at P; exact P.elim
  | some sv =>
    cases sv with
    | un => simp only [hi] at P; exact P.elim
    | own m => simp only [hi] at P; exact P.elim
    | d dd =>
      cases dd with
      | dct b l =>
        cases b with
        | true => simp only [hi] at P; exact P.elim
        | false =>
          simp only [hi, O.bind_ok] at P
          have li : i < σ.length := by rw [R.len]; exact (List.getElem?_eq_some_iff.mp hi).1
          obtain ⟨w, hw, rw'⟩ := R.slot i _ _ hi (List.getElem?_eq_getElem li)
          have hσ : σ[i]? = some (some w) := by rw [List.getElem?_eq_getElem li, hw]
          simp only [Rep] at rw'
          obtain ⟨a, vs, o, rfl, r2, hF, hd⟩ := rw'
          obtain ⟨ks, rfl, k2, k3⟩ := hd
          have hA : ∀ n, E.A n ≠ some a := fun n z => by
            have z2 := R.ale _ _ z
            have hl := R.cells.dom n a z2
            obtain ⟨b', h1, h2, h3⟩ := R.cells.at_ n _ (List.getElem?_eq_getElem hl)
            rw [z2] at h1
            cases h1
            rw [hF] at h3
            cases h3
          have main : ∀ (od : Obj) (u0 : HO), H a = some u0 → (u0 = .dK (List.zip ks vs) ∨ ∃ od', u0 = .frz od' (.dK (List.zip ks vs))) → ∀ D' : Ends,
              (∀ σ' H', H' a = some (.frz od (.dK (List.zip ks vs))) → D.nx σ' (upd H' a u0) → D'.nx σ' H') → (∀ v H', H' a = some (.frz od (.dK (List.zip ks vs))) → D.rt v (upd H' a u0) → D'.rt v H') →
              (∀ σ' H', H' a = some (.frz od (.dK (List.zip ks vs))) → D.bk σ' (upd H' a u0) → D'.bk σ' H') → (∀ σ' H', H' a = some (.frz od (.dK (List.zip ks vs))) → D.ct σ' (upd H' a u0) → D'.ct σ' H') →
              tFor (iItems (tVar i)) (TGof G ws tg) (TSof G W0 sf) D' σ (upd H a (.frz od (.dK (List.zip ks vs)))) := by
            intro od u0 h0 hu0 D' dn dr db dc
            have R1 := R.lock hF trivial od
            have hE : Lkd a (.frz od (.dK (List.zip ks vs))) (E.lk a od (.dK (List.zip ks vs))) := ⟨upd_same, hA⟩
            have P1 : PostS G (E.lk a od (.dK (List.zip ks vs))) W0 D' F A (noE (forL tg sf (l.map pairT) s)) := by
              cases q : forL tg sf (l.map pairT) s with
              | st => rw [q] at P; exact P
              | err e s' => rw [q] at P; exact P
              | ok fl s' =>
                rw [q] at P
                cases fl with
                | nx => exact fun σ' F' A' H' e g R' => dn σ' H' (hE.at (fun ps z => by cases z) R') (P σ' F' A' _ e g (R.unlock hF trivial h0 hu0 R' e))
                | bk => exact fun σ' F' A' H' e g R' => db σ' H' (hE.at (fun ps z => by cases z) R') (P σ' F' A' _ e g (R.unlock hF trivial h0 hu0 R' e))
                | ct => exact fun σ' F' A' H' e g R' => dc σ' H' (hE.at (fun ps z => by cases z) R') (P σ' F' A' _ e g (R.unlock hF trivial h0 hu0 R' e))
                | rt x => exact fun v σ' F' A' H' e g R' r => dr v H' (hE.at (fun ps z => by cases z) R') (P v σ' F' A' _ e g (R.unlock hF trivial h0 hu0 R' e) r)
            refine ⟨.ref a, hσ, a, od, _, rfl, upd_same, fun i m σ H => m + i = (l.map pairT).length ∧ ∃ F2 A2 s2, FLe F F2 ∧ ALe A A2 ∧ Rel G (E.lk a od (.dK (List.zip ks vs))) F2 A2 σ H s2 ∧ PostS G (E.lk a od (.dK (List.zip ks vs))) W0 D' F2 A2 (noE (forL tg sf ((l.map pairT).drop i) s2)), ⟨(l.map pairT).length, by omega, F, A, s, FLe.refl _, ALe.refl _, R1, P1⟩, ?_⟩
            rintro i m σ2 H2 ⟨hm, F2, A2, s2, e2, g2, R2, P2⟩
            obtain ⟨h1, h2⟩ := items_ok r2 k2 k3 _ hE F2 A2 σ2 H2 s2 e2 g2 R2
            cases q : (l.map pairT)[i]? with
            | none =>
              have hl : (l.map pairT).length ≤ i := List.getElem?_eq_none_iff.mp q
              rw [List.drop_eq_nil_of_le hl] at P2
              exact .inl ⟨h1 i hl, P2 _ _ _ _ (FLe.refl _) (ALe.refl _) R2⟩
            | some d =>
              have hl := (List.getElem?_eq_some_iff.mp q).1
              obtain ⟨h3, h4⟩ := h2 i d q
              have ed : (l.map pairT).drop i = d :: (l.map pairT).drop (i + 1) := by
                rw [List.drop_eq_getElem_cons hl, (List.getElem?_eq_some_iff.mp q).2]
              rw [ed] at P2
              refine .inr ⟨h3, fun σ' H' => ∃ F3 A3 s3, FLe F F3 ∧ ALe A A3 ∧ Rel G (E.lk a od (.dK (List.zip ks vs))) F3 A3 σ' H' s3 ∧ PostS G (E.lk a od (.dK (List.zip ks vs))) W0 D' F3 A3 (noE (forL tg sf ((l.map pairT).drop (i + 1)) s3)), fun σ' H' h => ⟨m - 1, by omega, by omega, h⟩, fun x H3 y => ?_⟩
              obtain ⟨F3, e3, R3, r3⟩ := h4 x H3 y
              refine ⟨_, F3, A2, s2, d, R3, r3, ?_⟩
              simp only [forL] at P2
              cases qt : tg d s2 with
              | st => rw [qt] at P2; exact P2
              | err er s3 =>
                rw [qt] at P2
                exact (hT d s2 er s3 qt).elim
              | ok u s3 =>
                rw [qt] at P2
                intro σ4 R4 _
                refine ⟨_, F3, A2, s3, R4, ?_⟩
                have P3 := PostS.mono P2 e3 (ALe.refl _)
                simp only [O.bind_ok] at P3
                cases qb : sf s3 with
                | st => rw [qb] at P3; exact P3
                | err er s4 => rw [qb] at P3; exact P3.elim
                | ok fl s4 =>
                  rw [qb] at P3
                  cases fl with
                  | nx => exact fun σ5 F5 A5 H5 e5 g5 R5 => ⟨F5, A5, s4, e2.trans (e3.trans e5), g2.trans g5, R5, PostS.mono P3 e5 g5⟩
                  | ct => exact fun σ5 F5 A5 H5 e5 g5 R5 => ⟨F5, A5, s4, e2.trans (e3.trans e5), g2.trans g5, R5, PostS.mono P3 e5 g5⟩
                  | bk => exact fun σ5 F5 A5 H5 e5 g5 R5 => P3 σ5 F5 A5 H5 e5 g5 R5
                  | rt x => exact fun v σ5 F5 A5 H5 e5 g5 R5 => P3 v σ5 F5 A5 H5 e5 g5 R5
          rcases R.sub a _ hF with h0 | ⟨_, od, h0⟩
          · exact (ps_lock k).run pins sh σ H D I ⟨a, _, h0, trivial, fun od => main od _ h0 (.inl rfl) _ (fun σ' H' e q => ⟨e, q⟩) (fun v H' e q => ⟨e, q⟩) (fun σ' H' e q => ⟨e, q⟩) (fun σ' H' e q => ⟨e, q⟩)⟩
          · have e : upd H a (.frz od (.dK (List.zip ks vs))) = H := by
              funext b
              by_cases q : b = a
              · subst q; rw [upd_same, h0]
              · rw [upd_ne q]
            have back : ∀ H' : Hp, H' a = some (.frz od (.dK (List.zip ks vs))) → upd H' a (.frz od (.dK (List.zip ks vs))) = H' := fun H' e => by
              funext b
              by_cases q : b = a
              · subst q; rw [upd_same, e]
              · rw [upd_ne q]
            have m := main od _ h0 (.inr ⟨od, rfl⟩) D (fun σ' H' e q => by rw [back H' e] at q; exact q) (fun v H' e q => by rw [back H' e] at q; exact q) (fun σ' H' e q => by rw [back H' e] at q; exact q) (fun σ' H' e q => by rw [back H' e] at q; exact q)
            rw [e] at m
            exact k.run pins sh σ H D I m
      | _ => simp only [hi] at P; exact P.elim
end
section
variable {G : Cfg} {E : Ent} {F : Hp} {A : Adr} {σ : L2.St} {H : Hp} {s : S}
theorem MoOk.noTup {a : Addr} {m : MO} {xs : List V} (h : MoOk G F A H a m) : H a ≠ Option.some (.tup xs) := fun e => (h.solid e) trivial
theorem Rel.frzT (R : Rel G E F A σ H s) {t : Addr} {xs : List V} (h : H t = some (.tup xs)) : ∃ F', FLe F F' ∧ Rel G E F' A σ H s ∧ F' t = some (.tup xs) ∧ ∀ b, b ≠ t → F' b = F b := by
  cases q : F t with
  | some o =>
    refine ⟨F, FLe.refl _, R, ?_, fun b _ => rfl⟩
    rcases R.sub t o q with k | ⟨_, od, k⟩
    · rw [h] at k
      cases k
      exact q
    · rw [h] at k
      cases k
  | none =>
    have fl : FLe F (upd F t (.tup xs)) := fle_upd q
    refine ⟨upd F t (.tup xs), fl, ⟨fun b u hb => ?_, R.len, fun i x v h1 h2 => (R.slot i x v h1 h2).mono fl (ALe.refl _) fun a m h3 h4 h5 h6 h7 => ?_, R.dist, R.cells.mono fl (fun n b hb => ?_) (fun n b hb o' ho => ho), R.fle.trans fl, R.ale, R.nle, R.keep, R.tb, ⟨R.tabs.t, fun b ps hb => ?_⟩, fun b u hb => ?_, R.hz⟩, upd_same, fun b hb => upd_ne hb⟩
    · by_cases z : b = t
      · subst z
        rw [upd_same] at hb
        cases hb
        exact .inl h
      · rw [upd_ne z] at hb
        exact R.sub b u hb
    · have h8 := R.slot i x v h1 h2
      rw [h4] at h8
      obtain ⟨b, k1, k2, _⟩ := h8
      rw [h3] at k1
      cases k1
      have z : a ≠ t := fun z => k2.noTup (by rw [z]; exact h)
      exact ⟨by rw [upd_ne z]; exact h5, h7, fun _ z => z⟩
    · have hl := R.cells.dom n b hb
      obtain ⟨c, h1, h2, h3⟩ := R.cells.at_ n _ (List.getElem?_eq_getElem hl)
      rw [hb] at h1
      cases h1
      have z : b ≠ t := fun z => h2.noTup (by rw [z]; exact h)
      rw [upd_ne z]
      exact h3
    · by_cases z : b = t
      · subst z
        rw [upd_same] at hb
        cases hb
      · rw [upd_ne z] at hb
        exact R.tabs.n b ps hb
    · by_cases z : b = t
      · subst z
        rw [upd_same] at hb
        cases hb
        exact .inr (.inr trivial)
      · rw [upd_ne z] at hb
        exact R.fz b u hb
theorem Rel.frzTs : ∀ (ts : List Addr) (kvs : List (L2.Key × V)) (F : Hp), Rel G E F A σ H s → Paired (fun (t : Addr) (q : L2.Key × V) => H t = some (.tup [kV q.1, q.2])) ts kvs → ∃ F', FLe F F' ∧ Rel G E F' A σ H s ∧ Paired (fun (t : Addr) (q : L2.Key × V) => F' t = some (.tup [kV q.1, q.2])) ts kvs ∧ ∀ b, b ∉ ts → F' b = F b
  | [], _, F, R, .nil => ⟨F, FLe.refl _, R, .nil, fun _ _ => rfl⟩
  | t :: ts, q :: kvs, F, R, .cons h r => by
    obtain ⟨F1, e1, R1, h1, n1⟩ := R.frzT h
    obtain ⟨F2, e2, R2, h2, n2⟩ := Rel.frzTs ts kvs F1 R1 r
    refine ⟨F2, e1.trans e2, R2, .cons (e2 _ _ h1) h2, fun b hb => ?_⟩
    rw [n2 b fun z => hb (List.mem_cons_of_mem _ z), n1 b fun z => hb (by rw [z]; exact List.mem_cons_self)]
theorem rep_pairs {F0 : Hp} : ∀ {l : List (D × D)} {vs : List V} {ks : List L2.Key} {ts : List Addr}, RepL2 G F0 A l vs → FLe F0 F → ks.map some = l.map (fun p => keyD p.1) → ks.length = vs.length → Paired (fun (t : Addr) (q : L2.Key × V) => F t = some (.tup [kV q.1, q.2])) ts (List.zip ks vs) → RepL G F A (l.map pairT) (ts.map V.ref)
  | [], vs, ks, ts, r, _, hk, hl, p => by
    simp only [RepL2] at r
    subst r
    rw [List.zip_nil_right] at p
    cases p
    simp [RepL]
  | (k, d) :: l, vs, [], ts, r, _, hk, hl, p => by simp at hk
  | (k, d) :: l, vs, k' :: ks, ts, r, e, hk, hl, p => by
    simp only [RepL2] at r
    obtain ⟨v, r', rfl, r1, r2⟩ := r
    rw [List.zip_cons_cons] at p
    simp only [List.map_cons, List.cons.injEq] at hk
    cases p with
    | cons p1 p2 =>
      simp only [List.map_cons, RepL]
      refine ⟨_, _, rfl, ?_, rep_pairs r2 e hk.2 (by simpa using hl) p2⟩
      unfold pairT
      simp only [Rep]
      refine ⟨_, _, rfl, p1, ?_⟩
      simp only [RepL]
      exact ⟨_, _, rfl, key_rep hk.1.symm, _, _, rfl, Rep.mono e (ALe.refl _) _ _ r1, rfl⟩
end
def itmF (i : Nat) : M MO := fun s => match s.rhz[i]? with
  | some (.own (.md false l)) => .ok (.ml (l.map pairT)) s
  | _ => .st
theorem f_items {G : Cfg} {W : WX} {X : Cx} {t : Expr} (i : Nat) (k : PE X t (LiI.tListItems (tVar i))) : PE X t (TFof G W (itmF i)) := by
  refine PEimp k fun σ H Q ⟨E, F, A, s, R, P⟩ => ?_
  unfold itmF at P
  cases hi : s.rhz[i]? with
  | none => simp only [hi] at P; exact P.elim
  | some sv =>
    cases sv with
    | un => simp only [hi] at P; exact P.elim
    | d x => simp only [hi] at P; exact P.elim
    | own m =>
      cases m with
      | ml l => simp only [hi] at P; exact P.elim
      | mi c fs => simp only [hi] at P; exact P.elim
      | md b l =>
        cases b with
        | true => simp only [hi] at P; exact P.elim
        | false =>
          simp only [hi] at P
          have li : i < σ.length := by rw [R.len]; exact (List.getElem?_eq_some_iff.mp hi).1
          obtain ⟨a, h1, h2, h3, h4, h5⟩ := R.slot i _ _ hi (List.getElem?_eq_getElem li)
          obtain ⟨vs, o, r2, ho, hd⟩ := h2
          obtain ⟨ks, rfl, k2, k3⟩ := hd
          refine ⟨.ref a, by rw [List.getElem?_eq_getElem li, h1], a, _, rfl, ho, fun H' p ts hk hp ht hpt hl hpr => ?_⟩
          have g : Grow G.T H H' := ⟨fun b u e _ => hk b u e, fun b ps e => ⟨ps, hk b _ e⟩, LamX.Tabs.ext R.tabs.t hk⟩
          have R1 := R.grow g
          obtain ⟨F', e', R', pr', nb⟩ := Rel.frzTs ts _ F R1 hpr
          have fp : F' p = none := by rw [nb p hpt]; exact R.sub.none hp
          refine P F' A H' e' (ALe.refl _) R' p ⟨⟨ts.map V.ref, hl, rep_pairs r2 e' k2 k3 pr'⟩, fp, R.fresh0 hp, fun n => R.cells.ne hp n, fun j hj z => ?_⟩
          have hj' : j < s.rhz.length := by
            apply Classical.byContradiction
            intro q
            rw [List.getD_eq_getElem?_getD, List.getElem?_eq_none_iff.mpr (by omega)] at hj
            cases hj
          rw [List.getD_eq_getElem?_getD, List.getElem?_eq_getElem hj'] at hj
          have w := R.slot j _ _ (List.getElem?_eq_getElem hj') z
          cases hs : s.rhz[j] with
          | un => rw [hs] at hj; cases hj
          | d x => rw [hs] at hj; cases hj
          | own m =>
            rw [hs] at w
            obtain ⟨b, w1, w2, _⟩ := w
            cases w1
            obtain ⟨u, hu⟩ := w2.some
            rw [hp] at hu
            cases hu
theorem itmF_own {i : Nat} {rhz : List SV} {muz : List MO} {l : List (D × D)} (h : rhz[i]? = some (.own (.md false l))) : itmF i ⟨rhz, muz⟩ = .ok (.ml (l.map pairT)) ⟨rhz, muz⟩ := by
  unfold itmF
  simp only [h]
theorem forI_ap (it : M (List D)) (tg : D → M Unit) (b : M Fl) (s : S) : forI it tg b s = (it s).bind fun ds s1 => noE (forL tg b ds s1) := Eq.trans rfl rfl
theorem itI_d {i : Nat} {rhz : List SV} {muz : List MO} {l : List (D × D)} (h : rhz[i]? = some (.d (.dct false l))) : itI i ⟨rhz, muz⟩ = .ok (l.map pairT) ⟨rhz, muz⟩ := by
  unfold itI
  simp only [h]
end AG
set_option Elab.async false
set_option linter.all false
set_option maxRecDepth 100000
namespace AG
open PySem L2 PySem.Spec PyProof.Rows
theorem mul0W (l : Addr) (items : Array Value) (n : Nat) (dd : Option Addr) (sl : Array (Option Value)) (x : Int) (u : Tok) (c0 : (decide (x < -(2 ^ 63)) || decide (x ≥ 2 ^ 63)) = false) (c1 : (items.isEmpty || x == 1) = false) (c2 : (decide (x ≤ 0) || items.isEmpty) = true) :
    Meets (Builtin.«tuple.__mul__» ⟨[.ref l, .int x u], []⟩) (fun _ R s => s.heap.get? l = some { cls := .type "tuple", dict := dd, data := .seq items n, slots := sl } ∧
      R (.ok (.ret (Value.ref s.heap.objs.size))) { s with heap := s.heap.push { cls := Value.type "tuple", data := Data.seq #[] }, toks := s.toks }) :=
  .of_wp fun prog w A R s h => by
    obtain ⟨hp, g, d, tk, os⟩ := s
    obtain ⟨hl, h⟩ := h
    have f1 := AutoSeq1.idx_int
    wp_walk using wpAny_loadPart' hl
    repeat (first
      | (refine wpAny_ite_false (decide_eq_false (by rw [c0]; exact Bool.false_ne_true)) ?_; wp_walk using wpAny_loadPart' hl)
      | (refine wpAny_ite_false (decide_eq_false (by rw [c1]; exact Bool.false_ne_true)) ?_; wp_walk using wpAny_loadPart' hl)
      | (refine wpAny_ite_true (decide_eq_true c2) ?_; wp_walk using wpAny_loadPart' hl))
    exact ⟨_, rfl, h⟩
def rRep0 (K : PySem.W.Frag) : R2 := fun x y H Q => ∃ l k xs, x = .ref l ∧ y = .int k ∧ SqT K H l xs ∧ xs ≠ [] ∧ -1000 ≤ k ∧ k ≤ 0 ∧ ∀ p, H p = none → Q (.ref p) (upd H p (.tup []))
section
variable {X : Cx}
theorem op_rep0 : OpR X (binaryOp .Mult) (rRep0 X.K) := by
  intro pins s σ H x y v u Q I rx ry h
  obtain ⟨l, k, xs, rfl, rfl, hT, hne, h1, h2, q⟩ := h
  cases rx
  obtain ⟨t, rfl⟩ := ry
  obtain ⟨its, r, ⟨⟨cls, dd, data, sl⟩, ho, hc, n, hd⟩, hs⟩ := I.tuple hT
  simp only at hc hd
  subst hc hd
  have hle : its.length = xs.length := r.length.symm
  have hn : its ≠ [] := fun e => hne (by
    rw [e] at hle
    exact List.eq_nil_of_length_eq_zero hle.symm)
  have hi : its.toArray.isEmpty = false := by
    cases its with
    | nil => exact absurd rfl hn
    | cons a b => rfl
  have c0 : (decide (k < -(2 ^ 63)) || decide (k ≥ 2 ^ 63)) = false := by
    rw [decide_eq_false (by omega), decide_eq_false (by omega)] <;> rfl
  have c1 : (its.toArray.isEmpty || k == 1) = false := by
    rw [hi, Bool.false_or]
    exact beq_eq_false_iff_ne.mpr (by omega)
  have c2 : (decide (k ≤ 0) || its.toArray.isEmpty) = true := by
    rw [decide_eq_true (by omega)]; rfl
  refine wpAny_binaryOp_repeat_ref (T := "tuple") (U := "int") (by decide) ⟨_, ho, rfl⟩ (fun s' => typeIs_int s' k t) noFill_tuple_mul F.fills_int_mul F.slot_int_rmul repeat_tuple F.slot_int_index.lookup
    (call_meets F.slot_int_rmul (typeIs_int s k t) F.entry_int_rmul (F.args_int_rmul_2 _ _) (int_rmul_tuple k t l its.toArray n dd sl)
      ⟨ho, rfl, ⟨_, ho, rfl⟩, call_meets F.slot_tuple_mul ⟨_, ho, rfl⟩ F.entry_tuple_mul (F.args_tuple_mul_2 _ _) (mul0W l its.toArray n dd sl k t c0 c1 c2) ⟨ho, ?_⟩⟩)
  refine ⟨.ref s.heap.objs.size, _, I.laid (t' := s.toks) (o := .tup []) (fun b ob q => Heap.get?_push_of_some _ q) (Nat.le_refl _) ?_, rfl, q _ (I.hok.fresh (Nat.le_refl _))⟩
  exact ⟨by rw [sizeLine_eq]; exact Nat.zero_le _, [], .nil, IsTup.new _ _⟩
end
def mulZ (s : S) (x y : D) : Option D := match vw s x, y with
  | .tup a, .int k => if a ≠ [] ∧ k ≤ 0 ∧ -1000 ≤ k then some (.tup []) else mulE s x y
  | _, _ => mulE s x y
def rMulZ (K : PySem.W.Frag) : R2 := fun x y H Q => rMulE K x y H Q ∨ rRep0 K x y H Q
section
variable {G : Cfg} {E : Ent} {W : WX} {X : Cx} {F : Hp} {A : Adr} {σ : L2.St} {H : Hp} {s : S}
theorem or_mulZ : OpR X (binaryOp .Mult) (rMulZ X.K) := OpR.or or_mulE op_rep0
theorem od_mulZ (hK : X.K = G.K) : OpD G (rMulZ X.K) mulZ := by
  intro E F A σ H s x y dx dy d Q R hx hy q k
  have old : mulE s dx dy = some d → rMulZ X.K x y H Q := fun q => .inl (od_mulE hK E F A σ H s x y dx dy d Q R hx hy q k)
  unfold mulZ at q
  split at q
  · rename_i av kv e1
    by_cases c : av ≠ [] ∧ kv ≤ 0 ∧ -1000 ≤ kv
    · rw [if_pos c] at q
      cases q
      obtain ⟨ad, vs, rfl, hf, h2, r⟩ := tup_view R hx e1
      refine .inr ⟨ad, kv, vs, rfl, hy.int, by rw [hK]; exact .of h2, ?_, c.2.2, c.2.1, fun p hp => ?_⟩
      · intro z
        subst z
        have := RepL.length r
        exact c.1 (List.eq_nil_of_length_eq_zero this.symm)
      · have fl := fle_upd (o := .tup []) (R.sub.none hp)
        refine k _ _ A _ fl (ALe.refl _) (R.newFz hp) ?_
        show Rep G _ A (.tup _) _
        simp only [Rep]
        exact ⟨p, _, rfl, upd_same, by simp [RepL]⟩
    · rw [if_neg c] at q
      exact old q
  · exact old q
theorem mulZ_tup (s : S) {a : List D} {k : Nat} (k2 : k ≤ 1000) (h0 : a ≠ []) (hl : a.length ≤ 1000) : mulZ s (.tup a) (.int k) = some (.tup (List.replicate k a).flatten) := by
  by_cases h : k = 0
  · subst h
    have : mulZ s (.tup a) (.int (0 : Nat)) = if a ≠ [] ∧ ((0 : Nat) : Int) ≤ 0 ∧ -1000 ≤ ((0 : Nat) : Int) then some (.tup []) else mulE s (.tup a) (.int (0 : Nat)) := rfl
    rw [this, if_pos ⟨h0, by omega, by omega⟩]
    rfl
  · have : mulZ s (.tup a) (.int k) = if a ≠ [] ∧ (k : Int) ≤ 0 ∧ -1000 ≤ (k : Int) then some (.tup []) else mulE s (.tup a) (.int k) := rfl
    rw [this, if_neg (by omega)]
    have m : mulE s (.tup a) (.int k) = if (a = [] ∨ (k : Int) = 1) ∧ -(2 ^ 63) ≤ (k : Int) ∧ (k : Int) < 2 ^ 63 then some (.tup a) else if a ≠ [] ∧ 2 ≤ (k : Int) ∧ (k : Int) ≤ 1000 ∧ a.length ≤ 1000 then some (.tup (List.replicate (k : Int).toNat a).flatten) else none := rfl
    rw [m]
    by_cases h1 : k = 1
    · subst h1
      rw [if_pos ⟨.inr rfl, by decide, by decide⟩]
      simp
    · rw [if_neg (by rintro ⟨q | q, _⟩; exact h0 q; omega), if_pos ⟨h0, by omega, by omega, hl⟩]
      rfl
end
end AG
set_option Elab.async false
set_option linter.all false
set_option maxRecDepth 100000
namespace AG
open PySem L2 PyProof.Rows PySem.SeqAt
end AG
set_option Elab.async false
set_option linter.all false
set_option maxRecDepth 100000
namespace AG
open PySem L2
def Ok {α : Type} (o : O α) (Q : α → S → Prop) : Prop := match o with
  | .ok a s => Q a s
  | _ => False
def OkR (r : R) (Q : D → List MO → Prop) : Prop := match r with
  | .ok d muz => Q d muz
  | _ => False
@[simp] theorem Ok_ok {α : Type} (a : α) (s : S) (Q : α → S → Prop) : Ok (.ok a s) Q = Q a s := Eq.trans rfl rfl
@[simp] theorem OkR_ok (d : D) (muz : List MO) (Q : D → List MO → Prop) : OkR (.ok d muz) Q = Q d muz := Eq.trans rfl rfl
theorem Ok.mono {α : Type} {o : O α} {P Q : α → S → Prop} (h : Ok o P) (k : ∀ a s, P a s → Q a s) : Ok o Q := by
  cases o with
  | ok a s => exact k a s h
  | _ => exact h
theorem Ok.bind {α β : Type} {o : O α} {f : α → S → O β} {P : α → S → Prop} {Q : β → S → Prop} (h : Ok o P) (k : ∀ a s, P a s → Ok (f a s) Q) : Ok (o.bind f) Q := by
  cases o with
  | ok a s => exact k a s h
  | _ => exact h
theorem OkR.mono {r : R} {P Q : D → List MO → Prop} (h : OkR r P) (k : ∀ d muz, P d muz → Q d muz) : OkR r Q := by
  cases r with
  | ok a s => exact k a s h
  | _ => exact h
theorem OkR.eq {r : R} {d : D} {muz : List MO} (h : r = .ok d muz) {Q : D → List MO → Prop} (k : Q d muz) : OkR r Q := by rw [h]; exact k
@[simp] theorem sto_non : sto .non = true := Eq.trans rfl rfl
@[simp] theorem sto_bl (b : Bool) : sto (.bl b) = true := Eq.trans rfl rfl
@[simp] theorem sto_int (b : Int) : sto (.int b) = true := Eq.trans rfl rfl
@[simp] theorem sto_str (b : Str) : sto (.str b) = true := Eq.trans rfl rfl
@[simp] theorem sto_tup (b : List D) : sto (.tup b) = true := Eq.trans rfl rfl
@[simp] theorem sto_lst (b : List D) : sto (.lst b) = true := Eq.trans rfl rfl
@[simp] theorem sto_dct (t : Bool) (b : List (D × D)) : sto (.dct t b) = true := Eq.trans rfl rfl
@[simp] theorem sto_ins (t : Nat) (b : List (Str × D)) : sto (.ins t b) = true := Eq.trans rfl rfl
@[simp] theorem sto_hnd (b : Nat) : sto (.hnd b) = true := Eq.trans rfl rfl
@[simp] theorem sto_loc (b : Nat) : sto (.loc b) = false := Eq.trans rfl rfl
@[simp] theorem sto_scr (b : List Int) : sto (.scr b) = true := Eq.trans rfl rfl
section
variable {α : Type} {s : S} {f g h : M D} {t u : M Bool} {fl : M Fl} {ga : M (List D)} {fm gm : M MO}
def ofO : Option D → S → O D
  | some d, s => .ok d s
  | none, _ => .st
@[simp] theorem ofO_some (d : D) (s : S) : ofO (some d) s = .ok d s := Eq.trans rfl rfl
@[simp] theorem cS_ap (d : D) : cS d s = .ok d s := Eq.trans rfl rfl
def kVar (i : Nat) : Option SV → S → O D
  | some (.d x), s => .ok x s
  | some (.own _), s => .ok (.loc i) s
  | _, _ => .st
@[simp] theorem varS_ap (i : Nat) : varS i s = kVar i s.rhz[i]? s := by unfold varS; cases s.rhz[i]? with | none => rfl | some x => cases x <;> rfl
@[simp] theorem kVar_d (i : Nat) (x : D) (s : S) : kVar i (some (.d x)) s = .ok x s := Eq.trans rfl rfl
@[simp] theorem kVar_own (i : Nat) (m : MO) (s : S) : kVar i (some (.own m)) s = .ok (.loc i) s := Eq.trans rfl rfl
def kB2 (op : S → D → D → Option D) (x : D) : D → S → O D := fun y s => ofO (op s x y) s
def kB1 (op : S → D → D → Option D) (g : M D) : D → S → O D := fun x s => (g s).bind (kB2 op x)
@[simp] theorem binS_ap (op : S → D → D → Option D) : binS op f g s = (f s).bind (kB1 op g) := by
  unfold binS kB1 kB2 ofO
  congr 1; funext x s1; congr 1; funext y s2; cases op s2 x y <;> rfl
@[simp] theorem kB1_ap (op : S → D → D → Option D) (x : D) (s : S) : kB1 op g x s = (g s).bind (kB2 op x) := Eq.trans rfl rfl
@[simp] theorem kB2_ap (op : S → D → D → Option D) (x y : D) (s : S) : kB2 op x y s = ofO (op s x y) s := Eq.trans rfl rfl
def kU (op : S → D → Option D) : D → S → O D := fun x s => ofO (op s x) s
@[simp] theorem unS_ap (op : S → D → Option D) : unS op f s = (f s).bind (kU op) := by
  unfold unS kU ofO
  congr 1; funext x s1; cases op s1 x <;> rfl
@[simp] theorem kU_ap (op : S → D → Option D) (x : D) (s : S) : kU op x s = ofO (op s x) s := Eq.trans rfl rfl
def kAnd (g : M D) : D → S → O D
  | .bl true, s => g s
  | .bl false, s => .ok (.bl false) s
  | _, _ => .st
@[simp] theorem andS_ap : andS f g s = (f s).bind (kAnd g) := by
  unfold andS; congr 1; funext x s1
  cases x with
  | bl b => cases b <;> rfl
  | _ => rfl
@[simp] theorem kAnd_t (g : M D) (s : S) : kAnd g (.bl true) s = g s := Eq.trans rfl rfl
@[simp] theorem kAnd_f (g : M D) (s : S) : kAnd g (.bl false) s = .ok (.bl false) s := Eq.trans rfl rfl
def kOr (g : M D) : D → S → O D
  | .bl false, s => g s
  | .bl true, s => .ok (.bl true) s
  | _, _ => .st
@[simp] theorem orS_ap : orS f g s = (f s).bind (kOr g) := by
  unfold orS; congr 1; funext x s1
  cases x with
  | bl b => cases b <;> rfl
  | _ => rfl
@[simp] theorem kOr_t (g : M D) (s : S) : kOr g (.bl true) s = .ok (.bl true) s := Eq.trans rfl rfl
@[simp] theorem kOr_f (g : M D) (s : S) : kOr g (.bl false) s = g s := Eq.trans rfl rfl
def kNot : D → S → O D
  | .bl b, s => .ok (.bl (!b)) s
  | _, _ => .st
@[simp] theorem notS_ap : notS f s = (f s).bind kNot := by
  unfold notS; congr 1; funext x s1; cases x <;> rfl
@[simp] theorem kNot_ap (b : Bool) (s : S) : kNot (.bl b) s = .ok (.bl (!b)) s := Eq.trans rfl rfl
def kTst : D → S → O Bool
  | .bl b, s => .ok b s
  | _, _ => .st
@[simp] theorem tstS_ap : tstS f s = (f s).bind kTst := by
  unfold tstS; congr 1; funext x s1; cases x <;> rfl
@[simp] theorem kTst_ap (b : Bool) (s : S) : kTst (.bl b) s = .ok b s := Eq.trans rfl rfl
def kTAnd (g : M Bool) : Bool → S → O Bool := fun x s => if x = true then g s else .ok false s
@[simp] theorem tAndS_ap : tAndS t u s = (t s).bind (kTAnd u) := Eq.trans rfl rfl
@[simp] theorem kTAnd_t (s : S) : kTAnd u true s = u s := Eq.trans rfl rfl
@[simp] theorem kTAnd_f (s : S) : kTAnd u false s = .ok false s := Eq.trans rfl rfl
def kTOr (g : M Bool) : Bool → S → O Bool := fun x s => if x = true then .ok true s else g s
@[simp] theorem tOrS_ap : tOrS t u s = (t s).bind (kTOr u) := Eq.trans rfl rfl
@[simp] theorem kTOr_t (s : S) : kTOr u true s = .ok true s := Eq.trans rfl rfl
@[simp] theorem kTOr_f (s : S) : kTOr u false s = u s := Eq.trans rfl rfl
def kTNot : Bool → S → O Bool := fun x s => .ok (!x) s
@[simp] theorem tNotS_ap : tNotS t s = (t s).bind kTNot := Eq.trans rfl rfl
@[simp] theorem kTNot_ap (b : Bool) (s : S) : kTNot b s = .ok (!b) s := Eq.trans rfl rfl
def kIte (f g : M α) : Bool → S → O α := fun b s => if b = true then f s else g s
@[simp] theorem iteS_ap : iteS t f g s = (t s).bind (kIte f g) := Eq.trans rfl rfl
@[simp] theorem ifS_ap {a b : M Fl} : ifS t a b s = (t s).bind (kIte a b) := Eq.trans rfl rfl
@[simp] theorem kIte_t (f g : M α) (s : S) : kIte f g true s = f s := Eq.trans rfl rfl
@[simp] theorem kIte_f (f g : M α) (s : S) : kIte f g false s = g s := Eq.trans rfl rfl
def kC2 (op' : S → D → D → Option D) (y : D) : D → S → O D := fun z s => ofO (op' s y z) s
def kC1' (op' : S → D → D → Option D) (h : M D) (y : D) : Option D → S → O D
  | some (.bl true), s => (h s).bind (kC2 op' y)
  | some (.bl false), s => .ok (.bl false) s
  | _, _ => .st
def kC1 (op op' : S → D → D → Option D) (h : M D) (x : D) : D → S → O D := fun y s => kC1' op' h y (op s x y) s
def kC0 (op op' : S → D → D → Option D) (g h : M D) : D → S → O D := fun x s => (g s).bind (kC1 op op' h x)
@[simp] theorem chainS_ap (op op' : S → D → D → Option D) : chainS op op' f g h s = (f s).bind (kC0 op op' g h) := by
  unfold chainS kC0 kC1 kC1' kC2 ofO
  congr 1; funext x s1; congr 1; funext y s2
  cases op s2 x y with
  | none => rfl
  | some d => cases d with
    | bl b => cases b with
      | true => show O.bind _ _ = O.bind _ _; congr 1; funext z s3; cases op' s3 y z <;> rfl
      | false => rfl
    | _ => rfl
@[simp] theorem kC0_ap (op op' : S → D → D → Option D) (x : D) (s : S) : kC0 op op' g h x s = (g s).bind (kC1 op op' h x) := Eq.trans rfl rfl
@[simp] theorem kC1_ap (op op' : S → D → D → Option D) (x y : D) (s : S) : kC1 op op' h x y s = kC1' op' h y (op s x y) s := Eq.trans rfl rfl
@[simp] theorem kC1'_t (op' : S → D → D → Option D) (y : D) (s : S) : kC1' op' h y (some (.bl true)) s = (h s).bind (kC2 op' y) := Eq.trans rfl rfl
@[simp] theorem kC1'_f (op' : S → D → D → Option D) (y : D) (s : S) : kC1' op' h y (some (.bl false)) s = .ok (.bl false) s := Eq.trans rfl rfl
@[simp] theorem kC2_ap (op' : S → D → D → Option D) (y z : D) (s : S) : kC2 op' y z s = ofO (op' s y z) s := Eq.trans rfl rfl
@[simp] theorem nilS_ap : nilS s = .ok [] s := Eq.trans rfl rfl
def kCons2 (x : D) : List D → S → O (List D) := fun xs s => .ok (x :: xs) s
def kCons (g : M (List D)) : D → S → O (List D) := fun x s => (g s).bind (kCons2 x)
@[simp] theorem consS_ap : consS f ga s = (f s).bind (kCons ga) := Eq.trans rfl rfl
@[simp] theorem kCons_ap (x : D) (s : S) : kCons ga x s = (ga s).bind (kCons2 x) := Eq.trans rfl rfl
@[simp] theorem kCons2_ap (x : D) (xs : List D) (s : S) : kCons2 x xs s = .ok (x :: xs) s := Eq.trans rfl rfl
def kTup : List D → S → O D := fun xs s => if xs.all sto && decide (xs.length ≤ LIM) then .ok (.tup xs) s else .st
@[simp] theorem tupS_ap : tupS ga s = (ga s).bind kTup := Eq.trans rfl rfl
theorem kTup_ap (xs : List D) (s : S) (h : xs.all sto = true) (hl : xs.length ≤ LIM) : kTup xs s = .ok (.tup xs) s := by unfold kTup; simp [h, hl]
@[simp] theorem kTup_0 (s : S) : kTup [] s = .ok (.tup []) s := kTup_ap _ _ rfl (by decide)
def kTupB (xs : List D) (s : S) : Bool → O D
  | true => .ok (.tup xs) s
  | false => .st
@[simp] theorem kTupB_t (xs : List D) (s : S) : kTupB xs s true = .ok (.tup xs) s := Eq.trans rfl rfl
@[simp] theorem kTup_1 (a : D) (s : S) : kTup [a] s = kTupB [a] s (sto a) := by
  unfold kTup kTupB
  have : decide ([a].length ≤ LIM) = true := (by decide : decide (1 ≤ LIM) = true)
  rw [this]
  cases h : sto a <;> simp [h]
@[simp] theorem kTup_2 (a b : D) (s : S) : kTup [a, b] s = kTupB [a, b] s (sto a && sto b) := by
  unfold kTup kTupB
  have : decide ([a, b].length ≤ LIM) = true := (by decide : decide (2 ≤ LIM) = true)
  rw [this]
  cases h : sto a <;> cases h2 : sto b <;> simp [h, h2]
def kLst : List D → S → O MO := fun xs s => if xs.all sto && decide (xs.length ≤ LIM) then .ok (.ml xs) s else .st
@[simp] theorem lstF_ap : lstF ga s = (ga s).bind kLst := Eq.trans rfl rfl
theorem kLst_ap (xs : List D) (s : S) (h : xs.all sto = true) (hl : xs.length ≤ LIM) : kLst xs s = .ok (.ml xs) s := by unfold kLst; simp [h, hl]
def kLstB (xs : List D) (s : S) : Bool → O MO
  | true => .ok (.ml xs) s
  | false => .st
@[simp] theorem kLstB_t (xs : List D) (s : S) : kLstB xs s true = .ok (.ml xs) s := Eq.trans rfl rfl
@[simp] theorem kLst_0 (s : S) : kLst [] s = .ok (.ml []) s := kLst_ap _ _ rfl (by decide)
@[simp] theorem kLst_1 (a : D) (s : S) : kLst [a] s = kLstB [a] s (sto a) := by
  unfold kLst kLstB
  have : decide ([a].length ≤ LIM) = true := (by decide : decide (1 ≤ LIM) = true)
  rw [this]
  cases h : sto a <;> simp [h]
def kFrz : MO → S → O D := fun m s => .ok (frzD m) s
@[simp] theorem frzS_ap : frzS fm s = (fm s).bind kFrz := Eq.trans rfl rfl
@[simp] theorem kFrz_ap (m : MO) (s : S) : kFrz m s = .ok (frzD m) s := Eq.trans rfl rfl
def kCv (op : S → List D → Option D) : List D → S → O D := fun xs s => ofO (op s xs) s
@[simp] theorem callV_ap (op : S → List D → Option D) : callV op ga s = (ga s).bind (kCv op) := by
  unfold callV kCv ofO; congr 1; funext x s1; cases op s1 x <;> rfl
@[simp] theorem kCv_ap (op : S → List D → Option D) (xs : List D) (s : S) : kCv op xs s = ofO (op s xs) s := Eq.trans rfl rfl
def ofN : Option MO → S → O MO
  | some d, s => .ok d s
  | none, _ => .st
@[simp] theorem ofN_some (d : MO) (s : S) : ofN (some d) s = .ok d s := Eq.trans rfl rfl
def kCn (op : S → List D → Option MO) : List D → S → O MO := fun xs s => ofN (op s xs) s
@[simp] theorem callN_ap (op : S → List D → Option MO) : callN op ga s = (ga s).bind (kCn op) := by
  unfold callN kCn ofN; congr 1; funext x s1; cases op s1 x <;> rfl
@[simp] theorem kCn_ap (op : S → List D → Option MO) (xs : List D) (s : S) : kCn op xs s = ofN (op s xs) s := Eq.trans rfl rfl
end
end AG
set_option Elab.async false
set_option linter.all false
set_option maxRecDepth 100000
namespace AG
open PySem L2
section
variable {α : Type} {s : S} {f g h : M D} {t u : M Bool} {a b : M Fl} {ga : M (List D)} {fm gm : M MO}
def kEx : D → S → O Fl := fun _ s => .ok .nx s
@[simp] theorem exS_ap : exS f s = (f s).bind kEx := Eq.trans rfl rfl
@[simp] theorem kEx_ap (d : D) (s : S) : kEx d s = .ok .nx s := Eq.trans rfl rfl
def kSet (i : Nat) : D → S → O Fl := fun x s => if sto x then .ok .nx { s with rhz := s.rhz.set i (.d x) } else .st
@[simp] theorem setS_ap (i : Nat) : setS i f s = (f s).bind (kSet i) := Eq.trans rfl rfl
def kSetB (i : Nat) (x : D) (s : S) : Bool → O Fl
  | true => .ok .nx ⟨s.rhz.set i (.d x), s.muz⟩
  | false => .st
@[simp] theorem kSet_ap (i : Nat) (x : D) (s : S) : kSet i x s = kSetB i x s (sto x) := by unfold kSet kSetB; cases sto x <;> rfl
@[simp] theorem kSetB_t (i : Nat) (x : D) (s : S) : kSetB i x s true = .ok .nx ⟨s.rhz.set i (.d x), s.muz⟩ := Eq.trans rfl rfl
def kOwn (i : Nat) : MO → S → O Fl := fun m s => .ok .nx { s with rhz := s.rhz.set i (.own m) }
@[simp] theorem ownS_ap (i : Nat) : ownS i fm s = (fm s).bind (kOwn i) := Eq.trans rfl rfl
@[simp] theorem kOwn_ap (i : Nat) (x : MO) (s : S) : kOwn i x s = .ok .nx ⟨s.rhz.set i (.own x), s.muz⟩ := Eq.trans rfl rfl
def kRet : D → S → O Fl := fun x s => match x with
  | .loc i => (match s.rhz[i]? with
    | some (.own m) => .ok (.rt (frzD m)) { s with rhz := s.rhz.set i .un }
    | _ => .st)
  | x => .ok (.rt x) s
@[simp] theorem retS_ap : retS f s = (f s).bind kRet := Eq.trans rfl rfl
theorem kRet_ap (x : D) (s : S) (h : sto x = true) : kRet x s = .ok (.rt x) s := by unfold kRet; cases x <;> first | rfl | cases h
@[simp] theorem kRet_non (s : S) : kRet .non s = .ok (.rt .non) s := Eq.trans rfl rfl
@[simp] theorem kRet_bl (b : Bool) (s : S) : kRet (.bl b) s = .ok (.rt (.bl b)) s := Eq.trans rfl rfl
@[simp] theorem kRet_int (b : Int) (s : S) : kRet (.int b) s = .ok (.rt (.int b)) s := Eq.trans rfl rfl
@[simp] theorem kRet_str (b : Str) (s : S) : kRet (.str b) s = .ok (.rt (.str b)) s := Eq.trans rfl rfl
@[simp] theorem kRet_tup (b : List D) (s : S) : kRet (.tup b) s = .ok (.rt (.tup b)) s := Eq.trans rfl rfl
@[simp] theorem kRet_lst (b : List D) (s : S) : kRet (.lst b) s = .ok (.rt (.lst b)) s := Eq.trans rfl rfl
@[simp] theorem kRet_hnd (b : Nat) (s : S) : kRet (.hnd b) s = .ok (.rt (.hnd b)) s := Eq.trans rfl rfl
@[simp] theorem kRet_dct (t : Bool) (b : List (D × D)) (s : S) : kRet (.dct t b) s = .ok (.rt (.dct t b)) s := Eq.trans rfl rfl
@[simp] theorem kRet_ins (t : Nat) (b : List (Str × D)) (s : S) : kRet (.ins t b) s = .ok (.rt (.ins t b)) s := Eq.trans rfl rfl
def kRet1 (i : Nat) : Option SV → S → O Fl
  | some (.own m), s => .ok (.rt (frzD m)) { s with rhz := s.rhz.set i .un }
  | _, _ => .st
@[simp] theorem kRet_loc (i : Nat) (s : S) : kRet (.loc i) s = kRet1 i s.rhz[i]? s := by
  rcases h : s.rhz[i]? with _ | x
  · simp [kRet, kRet1, h]
  · cases x <;> simp [kRet, kRet1, h]
@[simp] theorem kRet1_ap (i : Nat) (m : MO) (s : S) : kRet1 i (some (.own m)) s = .ok (.rt (frzD m)) ⟨s.rhz.set i .un, s.muz⟩ := Eq.trans rfl rfl
@[simp] theorem nxS_ap : nxS s = .ok .nx s := Eq.trans rfl rfl
@[simp] theorem bkS_ap : bkS s = .ok .bk s := Eq.trans rfl rfl
@[simp] theorem ctS_ap : ctS s = .ok .ct s := Eq.trans rfl rfl
def kSeq (g : M Fl) : Fl → S → O Fl
  | .nx, s => g s
  | fl, s => .ok fl s
@[simp] theorem seqS_ap : seqS a b s = (a s).bind (kSeq b) := by unfold seqS kSeq; congr 1; funext fl s1; cases fl <;> rfl
@[simp] theorem kSeq_nx (s : S) : kSeq b .nx s = b s := Eq.trans rfl rfl
@[simp] theorem kSeq_rt (d : D) (s : S) : kSeq b (.rt d) s = .ok (.rt d) s := Eq.trans rfl rfl
@[simp] theorem kSeq_bk (s : S) : kSeq b .bk s = .ok .bk s := Eq.trans rfl rfl
@[simp] theorem kSeq_ct (s : S) : kSeq b .ct s = .ok .ct s := Eq.trans rfl rfl
def kFor (tg : D → M Unit) (body : M Fl) : List D → S → O Fl := fun ds s => forL tg body ds s
@[simp] theorem forS_ap (it : M (List D)) (tg : D → M Unit) (body : M Fl) : forS it tg body s = (it s).bind (kFor tg body) := Eq.trans rfl rfl
theorem kFor_ap (tg : D → M Unit) (body : M Fl) (ds : List D) (s : S) : kFor tg body ds s = forL tg body ds s := rfl
@[simp] theorem tgN_ap (i : Nat) (d : D) (s : S) : tgN i d s = .ok () ⟨s.rhz.set i (.d d), s.muz⟩ := Eq.trans rfl rfl
def kIt : Option (List D) → S → O (List D)
  | some l, s => .ok l s
  | none, _ => .st
@[simp] theorem kIt_ap (l : List D) (s : S) : kIt (some l) s = .ok l s := Eq.trans rfl rfl
def kIts : D → S → O (List D) := fun d s => kIt (seqD d) s
@[simp] theorem itS_ap : itS f s = (f s).bind kIts := by unfold itS kIts kIt; congr 1; funext d s1; cases seqD d <;> rfl
@[simp] theorem kIts_ap (d : D) (s : S) : kIts d s = kIt (seqD d) s := Eq.trans rfl rfl
@[simp] theorem seqD_lst (l : List D) : seqD (.lst l) = some l := Eq.trans rfl rfl
@[simp] theorem seqD_tup (l : List D) : seqD (.tup l) = some l := Eq.trans rfl rfl
@[simp] theorem seqD_scr (l : List Int) : seqD (.scr l) = some (l.map .int) := Eq.trans rfl rfl
def kStr : D → S → O (List D)
  | .str x, s => .ok (x.cps.toList.map fun c => .str ⟨#[c]⟩) s
  | _, _ => .st
@[simp] theorem itStr_ap : itStr f s = (f s).bind kStr := by unfold itStr; congr 1; funext d s1; cases d <;> rfl
@[simp] theorem kStr_ap (x : Str) (s : S) : kStr (.str x) s = .ok (x.cps.toList.map fun c => .str ⟨#[c]⟩) s := Eq.trans rfl rfl
def kRng : D → S → O (List D)
  | .int j, s => if -(2 ^ 62) ≤ j ∧ j < 2 ^ 62 then .ok ((List.range j.toNat).map fun i => .int (i : Nat)) s else .st
  | _, _ => .st
@[simp] theorem itRng_ap : itRng f s = (f s).bind kRng := by unfold itRng; congr 1; funext d s1; cases d <;> rfl
theorem kRng_ap (n : Nat) (s : S) (h : n < 2 ^ 62) : kRng (.int n) s = .ok ((List.range n).map fun i => .int (i : Nat)) s := by
  unfold kRng
  simp only [Int.toNat_natCast]
  rw [if_pos]
  omega
def kRng2b (i : Int) : D → S → O (List D)
  | .int j, s => if -(2 ^ 62) ≤ i ∧ i < 2 ^ 62 ∧ -(2 ^ 62) ≤ j ∧ j < 2 ^ 62 then .ok ((List.range (j - i).toNat).map fun k => .int (i + (k : Nat))) s else .st
  | _, _ => .st
def kRng2 (g : M D) : D → S → O (List D)
  | .int i, s => (g s).bind (kRng2b i)
  | _, s => (g s).bind fun _ _ => .st
@[simp] theorem itRng2_ap : itRng2 f g s = (f s).bind (kRng2 g) := by
  unfold itRng2
  congr 1; funext d s1
  cases d with
  | int i => show O.bind _ _ = O.bind _ _; congr 1; funext d2 s2; cases d2 <;> rfl
  | _ => rfl
@[simp] theorem kRng2_ap (i : Int) (s : S) : kRng2 g (.int i) s = (g s).bind (kRng2b i) := Eq.trans rfl rfl
def kR : R → S → O D
  | .ok d muz, s => .ok d { s with muz := muz }
  | .err e muz, s => .err e { s with muz := muz }
  | .st, _ => .st
def kCall (call : List D → List MO → R) : List D → S → O D := fun ds s => if ds.all sto then kR (call ds s.muz) s else .st
@[simp] theorem callF_ap (call : List D → List MO → R) : callF call ga s = (ga s).bind (kCall call) := by
  unfold callF kCall kR; congr 1; funext ds s1; cases ds.all sto with
  | false => rfl
  | true => simp only [if_true]; cases call ds s1.muz <;> rfl
@[simp] theorem kR_ok (d : D) (muz : List MO) (s : S) : kR (.ok d muz) s = .ok d ⟨s.rhz, muz⟩ := Eq.trans rfl rfl
theorem kCall_eq {call : List D → List MO → R} {ds : List D} {muz muz' : List MO} {rhz : List SV} {d : D} (h : call ds muz = .ok d muz') (hs : ds.all sto = true) : kCall call ds ⟨rhz, muz⟩ = .ok d ⟨rhz, muz'⟩ := by unfold kCall; rw [if_pos hs, h]; rfl
theorem kCall_ok {call : List D → List MO → R} {ds : List D} {muz : List MO} {rhz : List SV} {Q : D → S → Prop} (h : OkR (call ds muz) fun d muz' => Q d ⟨rhz, muz'⟩) (hs : ds.all sto = true) : Ok (kCall call ds ⟨rhz, muz⟩) Q := by
  unfold kCall; rw [if_pos hs]
  show Ok (kR (call ds muz) ⟨rhz, muz⟩) Q
  cases q : call ds muz with
  | ok d muz' => rw [q] at h; exact h
  | _ => rw [q] at h; exact h
theorem Ok.call {α : Type} {call : List D → List MO → R} {ds : List D} {muz : List MO} {rhz : List SV} {f : D → S → O α} {P : D → List MO → Prop} {Q : α → S → Prop} (h : OkR (call ds muz) P) (k : ∀ d muz', P d muz' → Ok (f d ⟨rhz, muz'⟩) Q) (hs : ds.all sto = true) : Ok ((kCall call ds ⟨rhz, muz⟩).bind f) Q :=
  Ok.bind (P := fun d s => ∃ muz', s = ⟨rhz, muz'⟩ ∧ P d muz') (kCall_ok (h.mono fun d muz' p => ⟨muz', rfl, p⟩) hs) fun d s ⟨muz', e, p⟩ => by subst e; exact k d muz' p
theorem bind_assoc {β γ : Type} (o : O α) (f : α → S → O β) (g : β → S → O γ) : (o.bind f).bind g = o.bind fun a s => (f a s).bind g := by cases o <;> rfl
theorem forL_inv {tg : D → M Unit} {body : M Fl} {Q : Fl → S → Prop} : ∀ (ds : List D) (I : Nat → S → Prop) (s : S), I 0 s →
    (∀ i d s, ds[i]? = some d → I i s → Ok ((tg d s).bind fun _ s1 => body s1) fun fl s2 => match fl with
      | .nx => I (i + 1) s2
      | .ct => I (i + 1) s2
      | .bk => Q .nx s2
      | .rt x => Q (.rt x) s2) → (∀ s, I ds.length s → Q .nx s) → Ok (forL tg body ds s) Q
  | [], I, s, h0, _, hq => hq s h0
  | d :: ds, I, s, h0, hs, hq => by
    have z := hs 0 d s rfl h0
    unfold forL
    cases qt : tg d s with
    | ok u s1 =>
      rw [qt] at z
      simp only [O.bind_ok] at z ⊢
      cases qb : body s1 with
      | ok fl s2 =>
        rw [qb] at z
        simp only [O.bind_ok, Ok_ok] at z ⊢
        cases fl with
        | nx => exact forL_inv ds (fun i => I (i + 1)) s2 z (fun i e s he hi => hs (i + 1) e s (by simpa using he) hi) hq
        | ct => exact forL_inv ds (fun i => I (i + 1)) s2 z (fun i e s he hi => hs (i + 1) e s (by simpa using he) hi) hq
        | bk => exact z
        | rt x => exact z
      | _ => rw [qb] at z; exact z.elim
    | _ => rw [qt] at z; exact z.elim
theorem lcL_inv {i : Nat} {c : M Bool} {e : M D} {rhz : List SV} (hi : i < rhz.length) {J : Nat → List D → List MO → Prop} : ∀ (ds : List D) (k : Nat) (acc : List D) (muz : List MO), J k acc muz →
    (∀ n d acc muz, ds[n]? = some d → J (k + n) acc muz → Ok (c ⟨rhz.set i (.d d), muz⟩) fun b s1 => s1.rhz = rhz.set i (.d d) ∧ if b = true then Ok (e s1) fun y s2 => s2.rhz = rhz.set i (.d d) ∧ sto y = true ∧ acc.length < LIM ∧ J (k + n + 1) (acc ++ [y]) s2.muz else J (k + n + 1) acc s1.muz) →
    Ok (lcL (tgN i) c e [i] ds acc ⟨rhz.set i .un, muz⟩) fun l s => s.rhz = rhz.set i .un ∧ J (k + ds.length) l s.muz
  | [], k, acc, muz, h, _ => ⟨rfl, h⟩
  | d :: ds, k, acc, muz, h, hs => by
    have z := hs 0 d acc muz rfl h
    unfold lcL
    simp only [tgN_ap, O.bind_ok, List.set_set]
    have next : ∀ (acc' : List D) (s3 : S), s3.rhz = rhz.set i (.d d) → J (k + 1) acc' s3.muz → Ok (lcL (tgN i) c e [i] ds acc' { s3 with rhz := wipeR s3.rhz [i] }) fun l s => s.rhz = rhz.set i .un ∧ J (k + (d :: ds).length) l s.muz := fun acc' s3 e3 h3 => by
      have e4 : ({ s3 with rhz := wipeR s3.rhz [i] } : S) = ⟨rhz.set i .un, s3.muz⟩ := by simp [wipeR, e3, List.set_set]
      rw [e4]
      have := lcL_inv hi ds (k + 1) acc' s3.muz h3 fun n d' acc'' muz' hd hj => by
        have w := hs (n + 1) d' acc'' muz' (by simpa using hd) (by rw [show k + (n + 1) = k + 1 + n by omega]; exact hj)
        rw [show k + (n + 1) + 1 = k + 1 + n + 1 by omega] at w
        exact w
      rw [show k + 1 + ds.length = k + (d :: ds).length by simp; omega] at this
      exact this
    cases qc : c ⟨rhz.set i (.d d), muz⟩ with
    | ok b s1 =>
      rw [qc] at z
      obtain ⟨z1, z2⟩ := z
      simp only [O.bind_ok]
      cases b with
      | false =>
        rw [if_neg Bool.false_ne_true] at z2 ⊢
        exact next acc s1 z1 z2
      | true =>
        rw [if_pos rfl] at z2 ⊢
        cases qe : e s1 with
        | ok y s2 =>
          rw [qe] at z2
          obtain ⟨w1, w2, w3, w4⟩ := z2
          simp only [O.bind_ok, w2, Bool.true_and, decide_eq_true w3, if_true]
          exact next _ s2 w1 w4
        | _ => rw [qe] at z2; exact z2.elim
    | _ => rw [qc] at z; exact z.elim
def kLc (tg : D → M Unit) (c : M Bool) (e : M D) (vs : List Nat) : List D → S → O MO := fun ds s1 => if vs.any (fun v => isOwn (s1.rhz.getD v .un)) then .st else match lcL tg c e vs ds [] { s1 with rhz := wipeR s1.rhz vs } with
    | .ok acc s2 => .ok (.ml acc) { s2 with rhz := backR s1.rhz s2.rhz vs }
    | _ => .st
@[simp] theorem lcF_ap (it : M (List D)) (tg : D → M Unit) (c : M Bool) (e : M D) (vs : List Nat) : lcF it tg c e vs s = (it s).bind (kLc tg c e vs) := Eq.trans rfl rfl
theorem kLc_ok {i : Nat} {c : M Bool} {e : M D} {rhz : List SV} {ds : List D} {muz : List MO} (J : Nat → List D → List MO → Prop) {Q : MO → S → Prop} (hi : i < rhz.length) (ho : isOwn (rhz.getD i .un) = false) (h0 : J 0 [] muz)
    (hs : ∀ n d acc muz, ds[n]? = some d → J n acc muz → Ok (c ⟨rhz.set i (.d d), muz⟩) fun b s1 => s1.rhz = rhz.set i (.d d) ∧ if b = true then Ok (e s1) fun y s2 => s2.rhz = rhz.set i (.d d) ∧ sto y = true ∧ acc.length < LIM ∧ J (n + 1) (acc ++ [y]) s2.muz else J (n + 1) acc s1.muz)
    (hq : ∀ l muz', J ds.length l muz' → Q (.ml l) ⟨rhz, muz'⟩) : Ok (kLc (tgN i) c e [i] ds ⟨rhz, muz⟩) Q := by
  unfold kLc
  have ha : ([i].any fun v => isOwn ((⟨rhz, muz⟩ : S).rhz.getD v .un)) = false := by simpa using ho
  rw [ha, if_neg Bool.false_ne_true]
  have z := lcL_inv (c := c) (e := e) hi ds 0 [] muz h0 fun n d acc muz hd hj => by
    have w := hs n d acc muz hd (by simpa using hj)
    simpa using w
  have e1 : ({ (⟨rhz, muz⟩ : S) with rhz := wipeR rhz [i] } : S) = ⟨rhz.set i .un, muz⟩ := rfl
  rw [show ({ rhz := wipeR (⟨rhz, muz⟩ : S).rhz [i], muz := (⟨rhz, muz⟩ : S).muz } : S) = ⟨rhz.set i .un, muz⟩ from rfl]
  cases q : lcL (tgN i) c e [i] ds [] ⟨rhz.set i .un, muz⟩ with
  | ok l s2 =>
    rw [q] at z
    obtain ⟨z1, z2⟩ := z
    have e2 : backR rhz s2.rhz [i] = rhz := by
      simp only [backR, z1, List.set_set]
      rw [List.getD_eq_getElem?_getD, List.getElem?_eq_getElem hi]
      simp
    show Q (.ml l) ⟨backR rhz s2.rhz [i], s2.muz⟩
    rw [e2]
    exact hq l s2.muz (by simpa using z2)
  | _ => rw [q] at z; exact z.elim
theorem kLc_pure {i : Nat} {c : M Bool} {e : M D} {rhz : List SV} {ds : List D} {muz : List MO} (p : D → Bool) (y : D → D) (hi : i < rhz.length) (ho : isOwn (rhz.getD i .un) = false)
    (hc : ∀ d ∈ ds, c ⟨rhz.set i (.d d), muz⟩ = .ok (p d) ⟨rhz.set i (.d d), muz⟩) (he : ∀ d ∈ ds, p d = true → e ⟨rhz.set i (.d d), muz⟩ = .ok (y d) ⟨rhz.set i (.d d), muz⟩ ∧ sto (y d) = true) (hl : ds.length ≤ LIM) :
    kLc (tgN i) c e [i] ds ⟨rhz, muz⟩ = .ok (.ml ((ds.filter p).map y)) ⟨rhz, muz⟩ := by
  have z : Ok (kLc (tgN i) c e [i] ds ⟨rhz, muz⟩) fun m s => m = .ml ((ds.filter p).map y) ∧ s = ⟨rhz, muz⟩ := by
    refine kLc_ok (fun n acc muz' => acc = ((ds.take n).filter p).map y ∧ muz' = muz ∧ acc.length ≤ n) hi ho ⟨by simp, rfl, Nat.le_refl _⟩ ?_ ?_
    · rintro n d acc muz' hd ⟨h1, rfl, h2⟩
      have hn := (List.getElem?_eq_some_iff.mp hd).1
      have hm : d ∈ ds := List.mem_of_getElem? hd
      have et : ds.take (n + 1) = ds.take n ++ [d] := by rw [List.take_succ, hd]; rfl
      rw [hc d hm]
      refine ⟨rfl, ?_⟩
      cases q : p d with
      | false =>
        rw [if_neg Bool.false_ne_true]
        exact ⟨by rw [h1, et, List.filter_append]; simp [q], rfl, by omega⟩
      | true =>
        rw [if_pos rfl, (he d hm q).1]
        exact ⟨rfl, (he d hm q).2, by omega, by rw [h1, et, List.filter_append]; simp [q], rfl, by simp; omega⟩
    · rintro l muz' ⟨h1, rfl, _⟩
      rw [List.take_length] at h1
      exact ⟨by rw [h1], rfl⟩
  cases q : kLc (tgN i) c e [i] ds ⟨rhz, muz⟩ with
  | ok m s => rw [q] at z; obtain ⟨rfl, rfl⟩ := z; rfl
  | _ => rw [q] at z; exact z.elim
end
end AG
set_option Elab.async false
set_option linter.all false
set_option maxRecDepth 100000
namespace AG
open PySem L2
section
variable {s : S} {f g h : M D} {ga : M (List D)} {fm gm : M MO}
def kHnd : MO → S → O D := fun m s => .ok (.hnd s.muz.length) { s with muz := s.muz ++ [m] }
@[simp] theorem hndS_ap : hndS fm s = (fm s).bind kHnd := Eq.trans rfl rfl
@[simp] theorem kHnd_ap (m : MO) (s : S) : kHnd m s = .ok (.hnd s.muz.length) ⟨s.rhz, s.muz ++ [m]⟩ := Eq.trans rfl rfl
def kApp1 (x : D) : D → S → O Fl := fun y s2 => match ml? s2 x with
  | some (l, put) => if sto y && decide (l.length < LIM) then .ok .nx (put (l ++ [y])) else .st
  | none => .st
def kApp (g : M D) : D → S → O Fl := fun x s1 => match ml? s1 x with
  | none => .st
  | some _ => (g s1).bind (kApp1 x)
@[simp] theorem appS_ap : appS f g s = (f s).bind (kApp g) := Eq.trans rfl rfl
theorem kApp_own {i : Nat} {rhz : List SV} {muz : List MO} {l : List D} (h : rhz[i]? = some (.own (.ml l))) : kApp g (.loc i) ⟨rhz, muz⟩ = (g ⟨rhz, muz⟩).bind (kApp1 (.loc i)) := by unfold kApp ml?; simp only [h]
theorem kApp1_own {i : Nat} {rhz : List SV} {muz : List MO} {l : List D} {y : D} (h : rhz[i]? = some (.own (.ml l))) (hy : sto y = true) (hl : l.length < LIM) : kApp1 (.loc i) y ⟨rhz, muz⟩ = .ok .nx ⟨rhz.set i (.own (.ml (l ++ [y]))), muz⟩ := by
  unfold kApp1 ml?; simp only [h, hy, Bool.true_and, decide_eq_true hl, if_true]
def kPopAt1 (x : D) : D → S → O D := fun y s2 => match y with
  | .int i => (match ml? s2 x with
    | some (l, put) => if 0 ≤ i ∧ i < 2 ^ 63 then (match l[i.toNat]? with
      | some z => .ok z (put (l.eraseIdx i.toNat))
      | none => .st) else .st
    | none => .st)
  | _ => .st
def kPopAt (g : M D) : D → S → O D := fun x s1 => match ml? s1 x with
  | none => .st
  | some _ => (g s1).bind (kPopAt1 x)
@[simp] theorem popAtS_ap : popAtS f g s = (f s).bind (kPopAt g) := Eq.trans rfl rfl
theorem kPopAt_own {i : Nat} {rhz : List SV} {muz : List MO} {l : List D} (h : rhz[i]? = some (.own (.ml l))) : kPopAt g (.loc i) ⟨rhz, muz⟩ = (g ⟨rhz, muz⟩).bind (kPopAt1 (.loc i)) := by unfold kPopAt ml?; simp only [h]
theorem kPopAt_hnd {i : Nat} {rhz : List SV} {muz : List MO} {l : List D} (h : muz[i]? = some (.ml l)) : kPopAt g (.hnd i) ⟨rhz, muz⟩ = (g ⟨rhz, muz⟩).bind (kPopAt1 (.hnd i)) := by unfold kPopAt ml?; simp only [h]
theorem kPopAt1_own {i : Nat} {rhz : List SV} {muz : List MO} {l : List D} {k : Nat} {z : D} (h : rhz[i]? = some (.own (.ml l))) (hk : l[k]? = some z) (h63 : k < 2 ^ 63) : kPopAt1 (.loc i) (.int k) ⟨rhz, muz⟩ = .ok z ⟨rhz.set i (.own (.ml (l.eraseIdx k))), muz⟩ := by
  unfold kPopAt1 ml?
  simp only [h, Int.toNat_natCast, hk]
  rw [if_pos]
  omega
theorem kPopAt1_hnd {i : Nat} {rhz : List SV} {muz : List MO} {l : List D} {k : Nat} {z : D} (h : muz[i]? = some (.ml l)) (hk : l[k]? = some z) (h63 : k < 2 ^ 63) : kPopAt1 (.hnd i) (.int k) ⟨rhz, muz⟩ = .ok z ⟨rhz, muz.set i (.ml (l.eraseIdx k))⟩ := by
  unfold kPopAt1 ml?
  simp only [h, Int.toNat_natCast, hk]
  rw [if_pos]
  omega
def kDput2 (z x : D) : D → S → O Fl := fun y s3 => match md? s3 x with
  | some (t, l, put) => if sto z && isKey t y && decide (l.length < LIM) then .ok .nx (put (putD t l y z)) else .st
  | none => .st
def kDput1 (z : D) (fk : M D) : D → S → O Fl := fun x s => (fk s).bind (kDput2 z x)
def kDput (fd fk : M D) : D → S → O Fl := fun z s => (fd s).bind (kDput1 z fk)
@[simp] theorem dputS_ap (fd fk : M D) : dputS f fd fk s = (f s).bind (kDput fd fk) := Eq.trans rfl rfl
@[simp] theorem kDput_ap (fd fk : M D) (z : D) (s : S) : kDput fd fk z s = (fd s).bind (kDput1 z fk) := Eq.trans rfl rfl
@[simp] theorem kDput1_ap (fk : M D) (z x : D) (s : S) : kDput1 z fk x s = (fk s).bind (kDput2 z x) := Eq.trans rfl rfl
theorem kDput2_hnd {n : Nat} {rhz : List SV} {muz : List MO} {t : Bool} {l : List (D × D)} {z y : D} (h : muz[n]? = some (.md t l)) (hz : sto z = true) (hk : isKey t y = true) (hl : l.length < LIM) : kDput2 z (.hnd n) y ⟨rhz, muz⟩ = .ok .nx ⟨rhz, muz.set n (.md t (putD t l y z))⟩ := by
  unfold kDput2 md?; simp only [h, hz, hk, Bool.true_and, decide_eq_true hl, if_true]
def kSl2 (x : D) (a : Option Int) : Option Int → S → O D := fun b s3 => ofO (slD s3 x a b) s3
def kSl1 (x : D) (hi : M (Option Int)) : Option Int → S → O D := fun a s => (hi s).bind (kSl2 x a)
def kSl (lo hi : M (Option Int)) : D → S → O D := fun x s => (lo s).bind (kSl1 x hi)
@[simp] theorem slS_ap (lo hi : M (Option Int)) : slS f lo hi s = (f s).bind (kSl lo hi) := by
  unfold slS kSl kSl1 kSl2 ofO
  congr 1; funext x s1; congr 1; funext a s2; congr 1; funext b s3; cases slD s3 x a b <;> rfl
@[simp] theorem kSl_ap (lo hi : M (Option Int)) (x : D) (s : S) : kSl lo hi x s = (lo s).bind (kSl1 x hi) := Eq.trans rfl rfl
@[simp] theorem kSl1_ap (hi : M (Option Int)) (x : D) (a : Option Int) (s : S) : kSl1 x hi a s = (hi s).bind (kSl2 x a) := Eq.trans rfl rfl
@[simp] theorem kSl2_ap (x : D) (a b : Option Int) (s : S) : kSl2 x a b s = ofO (slD s x a b) s := Eq.trans rfl rfl
@[simp] theorem noPartS_ap : noPartS s = .ok none s := Eq.trans rfl rfl
def kPart : D → S → O (Option Int)
  | .int i, s => .ok (some i) s
  | _, _ => .st
@[simp] theorem partS_ap : partS f s = (f s).bind kPart := by unfold partS; congr 1; funext d s1; cases d <;> rfl
@[simp] theorem kPart_ap (i : Int) (s : S) : kPart (.int i) s = .ok (some i) s := Eq.trans rfl rfl
def kM1b (op : S → Str → D → Option D) (a : Str) : D → S → O D := fun y s => ofO (op s a y) s
def kM1 (op : S → Str → D → Option D) (g : M D) : D → S → O D
  | .str a, s => (g s).bind (kM1b op a)
  | _, _ => .st
@[simp] theorem m1S_ap (op : S → Str → D → Option D) : m1S op f g s = (f s).bind (kM1 op g) := by
  unfold m1S; congr 1; funext x s1
  cases x with
  | str a => show O.bind _ _ = O.bind _ _; congr 1; funext y s2; unfold kM1b ofO; cases op s2 a y <;> rfl
  | _ => rfl
@[simp] theorem kM1_ap (op : S → Str → D → Option D) (a : Str) (s : S) : kM1 op g (.str a) s = (g s).bind (kM1b op a) := Eq.trans rfl rfl
@[simp] theorem kM1b_ap (op : S → Str → D → Option D) (a : Str) (y : D) (s : S) : kM1b op a y s = ofO (op s a y) s := Eq.trans rfl rfl
@[simp] theorem isiS_ap (T : String) : isiS T f s = (f s).bind (kU (isiD T)) := unS_ap _
def kOrT1 (g : M D) (x : D) : Option Bool → S → O D
  | some true, s => .ok x s
  | some false, s => g s
  | none, _ => .st
def kOrT (g : M D) : D → S → O D := fun x s => kOrT1 g x (truD (vw s x)) s
@[simp] theorem orT_ap : orT f g s = (f s).bind (kOrT g) := by
  unfold orT; congr 1; funext x s1; unfold kOrT kOrT1
  rcases truD (vw s1 x) with _ | _ | _ <;> rfl
@[simp] theorem kOrT_ap (x : D) (s : S) : kOrT g x s = kOrT1 g x (truD (vw s x)) s := Eq.trans rfl rfl
@[simp] theorem kOrT1_t (x : D) (s : S) : kOrT1 g x (some true) s = .ok x s := Eq.trans rfl rfl
@[simp] theorem kOrT1_f (x : D) (s : S) : kOrT1 g x (some false) s = g s := Eq.trans rfl rfl
def kLput2 (z x : D) : D → S → O Fl := fun y s3 => match ml? s3 x, y with
  | some (l, put), .int i => (match ixN l.length i with
    | some j => if sto z then .ok .nx (put (l.set j z)) else .st
    | none => .st)
  | _, _ => .st
def kLput1 (z : D) (fi : M D) : D → S → O Fl := fun x s => (fi s).bind (kLput2 z x)
def kLput (fo fi : M D) : D → S → O Fl := fun z s => (fo s).bind (kLput1 z fi)
@[simp] theorem lputS_ap (fo fi : M D) : lputS f fo fi s = (f s).bind (kLput fo fi) := Eq.trans rfl rfl
@[simp] theorem kLput_ap (fo fi : M D) (z : D) (s : S) : kLput fo fi z s = (fo s).bind (kLput1 z fi) := Eq.trans rfl rfl
@[simp] theorem kLput1_ap (fi : M D) (z x : D) (s : S) : kLput1 z fi x s = (fi s).bind (kLput2 z x) := Eq.trans rfl rfl
def kPc (x : PV) : List PV → S → O (List PV) := fun xs s => .ok (x :: xs) s
def kPd (r : List (M D ⊕ M MO)) : D → S → O (List PV) := fun x s => if sto x then (parS r s).bind (kPc (.inl x)) else .st
def kPm (r : List (M D ⊕ M MO)) : MO → S → O (List PV) := fun x s => (parS r s).bind (kPc (.inr x))
@[simp] theorem parS_nil : parS [] s = .ok [] s := Eq.trans rfl rfl
@[simp] theorem parS_inl (r : List (M D ⊕ M MO)) : parS (.inl f :: r) s = (f s).bind (kPd r) := Eq.trans rfl rfl
@[simp] theorem parS_inr (r : List (M D ⊕ M MO)) : parS (.inr fm :: r) s = (fm s).bind (kPm r) := Eq.trans rfl rfl
def kPdB (r : List (M D ⊕ M MO)) (x : D) (s : S) : Bool → O (List PV)
  | true => (parS r s).bind (kPc (.inl x))
  | false => .st
@[simp] theorem kPd_ap (r : List (M D ⊕ M MO)) (x : D) (s : S) : kPd r x s = kPdB r x s (sto x) := by unfold kPd kPdB; cases sto x <;> rfl
@[simp] theorem kPdB_t (r : List (M D ⊕ M MO)) (x : D) (s : S) : kPdB r x s true = (parS r s).bind (kPc (.inl x)) := Eq.trans rfl rfl
@[simp] theorem kPm_ap (r : List (M D ⊕ M MO)) (x : MO) (s : S) : kPm r x s = (parS r s).bind (kPc (.inr x)) := Eq.trans rfl rfl
@[simp] theorem kPc_ap (x : PV) (xs : List PV) (s : S) : kPc x xs s = .ok (x :: xs) s := Eq.trans rfl rfl
def kPar (is : List Nat) : List PV → S → O Fl := fun xs s1 => .ok .nx { s1 with rhz := putP is xs s1.rhz }
@[simp] theorem parA_ap (is : List Nat) (ms : List (M D ⊕ M MO)) : parA is ms s = (parS ms s).bind (kPar is) := Eq.trans rfl rfl
@[simp] theorem kPar_ap (is : List Nat) (xs : List PV) (s : S) : kPar is xs s = .ok .nx ⟨putP is xs s.rhz, s.muz⟩ := Eq.trans rfl rfl
@[simp] theorem putP_d (i : Nat) (is : List Nat) (d : D) (xs : List PV) (rhz : List SV) : putP (i :: is) (.inl d :: xs) rhz = putP is xs (rhz.set i (.d d)) := Eq.trans rfl rfl
@[simp] theorem putP_m (i : Nat) (is : List Nat) (d : MO) (xs : List PV) (rhz : List SV) : putP (i :: is) (.inr d :: xs) rhz = putP is xs (rhz.set i (.own d)) := Eq.trans rfl rfl
@[simp] theorem putP_0 (xs : List PV) (rhz : List SV) : putP [] xs rhz = rhz := by cases xs <;> rfl
end
def txs (l : List Str) : List D := l.map .str
@[simp] theorem txs_length (l : List Str) : (txs l).length = l.length := List.length_map ..
theorem pyL_txs : ∀ l : List Str, pyL (txs l) = some (l.map .str)
  | [] => by simp [txs, pyL]
  | x :: l => by
    have := pyL_txs l
    unfold txs at this ⊢
    simp only [List.map_cons, pyL, pyOf, this]
theorem eqvAll_txs : ∀ a b : List Str, PyData.eqvAll (a.map .str) (b.map .str) = decide (a = b)
  | [], [] => by simp [PyData.eqvAll]
  | [], y :: b => by simp [PyData.eqvAll]
  | x :: a, [] => by simp [PyData.eqvAll]
  | x :: a, y :: b => by
    simp only [List.map_cons, PyData.eqvAll, PyData.eqv, eqvAll_txs a b]
    by_cases h1 : x = y <;> by_cases h2 : a = b <;> simp [h1, h2]
def Lay (l : List Str) : Prop := ∀ x ∈ l, PyData.canLay0 (.str x) = true
theorem lay_all {l : List Str} (h : Lay l) : PyData.canLayAll0 (l.map .str) = true := by
  induction l with
  | nil => simp [PyData.canLayAll0]
  | cons x l ih =>
    simp only [List.map_cons, PyData.canLayAll0, Bool.and_eq_true]
    exact ⟨h x List.mem_cons_self, ih fun y hy => h y (List.mem_cons_of_mem _ hy)⟩
theorem depth_txs (l : List Str) : PyData.depthAll (l.map .str) = 0 := by
  induction l with
  | nil => simp [PyData.depthAll]
  | cons x l ih => simp [PyData.depthAll, PyData.depth, ih]
theorem shaped_tup {l : List Str} (h : Lay l) : SeqAt.shaped (.tuple (l.map .str)) = true := by
  unfold SeqAt.shaped
  simp [PyData.canLay0, lay_all h, PyData.depth, depth_txs]
theorem shaped_lst {l : List Str} (h : Lay l) : SeqAt.shaped (.list (l.map .str)) = true := by
  unfold SeqAt.shaped
  simp [PyData.canLay0, lay_all h, PyData.depth, depth_txs]
end AG
set_option Elab.async false
set_option linter.all false
set_option maxRecDepth 100000
namespace AG
open PySem L2
structure DS where
  L : List Int
  c : List Int
  r : Int
  t : Int
def isl (l : List Int) : List D := l.map .int
def DS.tb (z : DS) : List (D × D) := [(.str "large", .hnd 0), (.str "cells", .lst (isl z.c)), (.str "rest", .int z.r), (.str "turn", .int z.t)]
def DS.muz (z : DS) : List MO := [.ml (isl z.L), .md false z.tb]
structure DS.Good (z : DS) : Prop where
  L : ∀ x ∈ z.L, 0 ≤ x
  r : 0 ≤ z.r
  t : 0 ≤ z.t
  c : z.c.length ≤ 63
  LL : z.L.length ≤ 63
def skp : List Int → Int → List Int × Int
  | [], r => ([], r)
  | x :: L, r => if r = 0 then skp L x else (x :: L, r)
def cellAt (c : List Int) (t : Int) : Int := if c = [] then 0 else (c[(t % c.length).toNat]?).getD 0
def mixd (c : List Int) (t : Int) : Int := (cellAt c t % 2147483563 + 48271 * t + 54321) ^ 3 % 2147483647
def signAt (c : List Int) (t : Int) : Int := (mixd c t + 130363 * t) ^ 5 % 2147483549 / 17
def drw (n : Int) (z : DS) : Int × DS :=
  if 0 < (skp z.L z.r).2 then ((skp z.L z.r).2 % n, ⟨(skp z.L z.r).1, z.c, (skp z.L z.r).2 / n, z.t⟩)
  else (signAt z.c (z.t + 1) % n, ⟨(skp z.L z.r).1, z.c, (skp z.L z.r).2, z.t + 1⟩)
theorem skp_good : ∀ (L : List Int) (r : Int), (∀ x ∈ L, 0 ≤ x) → 0 ≤ r → (∀ x ∈ (skp L r).1, 0 ≤ x) ∧ 0 ≤ (skp L r).2 ∧ (skp L r).1.length ≤ L.length
  | [], r, h, hr => ⟨h, hr, Nat.le_refl _⟩
  | x :: L, r, h, hr => by
    unfold skp
    split
    · obtain ⟨a, b, c⟩ := skp_good L x (fun y hy => h y (List.mem_cons_of_mem _ hy)) (h x List.mem_cons_self)
      exact ⟨a, b, Nat.le_succ_of_le c⟩
    · exact ⟨h, hr, Nat.le_refl _⟩
theorem drw_good {n : Int} {z : DS} (hn : 0 < n) (h : z.Good) : (drw n z).2.Good ∧ 0 ≤ (drw n z).1 ∧ (drw n z).1 < n ∧ (drw n z).2.c = z.c ∧ (drw n z).2.t ≤ z.t + 1 ∧ z.t ≤ (drw n z).2.t := by
  obtain ⟨a, b, c⟩ := skp_good z.L z.r h.L h.r
  unfold drw
  split
  · refine ⟨⟨a, Int.ediv_nonneg b (by omega), h.t, h.c, Nat.le_trans c h.LL⟩, Int.emod_nonneg _ (by omega), Int.emod_lt_of_pos _ hn, rfl, ?_, ?_⟩ <;> (simp <;> omega)
  · refine ⟨⟨a, b, by have := h.t; simp; omega, h.c, Nat.le_trans c h.LL⟩, Int.emod_nonneg _ (by omega), Int.emod_lt_of_pos _ hn, rfl, ?_, ?_⟩ <;> (simp <;> omega)
noncomputable def drawS : M Fl := (seqS (whS (tAndS (tstS (binS eqD (binS ixA (varS 0) (cS (.str "rest"))) (cS (.int 0)))) (tstS (binS neD (binS ixA (varS 0) (cS (.str "large"))) (frzS (lstF nilS))))) (dputS (popAtS (binS ixA (varS 0) (cS (.str "large"))) (cS (.int 0))) (varS 0) (cS (.str "rest"))))
    (seqS (ifS (tstS (binS gtD (binS ixA (varS 0) (cS (.str "rest"))) (cS (.int 0)))) (seqS (setS 5 (binS modD (callV intD (consS (binS ixA (varS 0) (cS (.str "rest"))) nilS)) (varS 1)))
    (seqS (dputS (binS fdivD (binS ixA (varS 0) (cS (.str "rest"))) (varS 1)) (varS 0) (cS (.str "rest")))
    (retS (varS 5)))) nxS)
    (seqS (setS 2 (binS addD (binS ixA (varS 0) (cS (.str "turn"))) (cS (.int 1))))
    (seqS (dputS (varS 2) (varS 0) (cS (.str "turn")))
    (seqS (setS 3 (iteS (tstS (binS neD (binS ixA (varS 0) (cS (.str "cells"))) (frzS (lstF nilS)))) (binS ixA (binS ixA (varS 0) (cS (.str "cells"))) (binS modD (callV intD (consS (varS 2) nilS)) (callV lenD (consS (binS ixA (varS 0) (cS (.str "cells"))) nilS)))) (cS (.int 0))))
    (seqS (setS 4 (binS modD (callV intD (consS (binS powD (binS addD (binS addD (binS modD (callV intD (consS (varS 3) nilS)) (cS (.int 2147483563))) (binS mulE (cS (.int 48271)) (varS 2))) (cS (.int 54321))) (cS (.int 3))) nilS)) (cS (.int 2147483647))))
    (retS (binS modD (callV intD (consS (binS fdivD (binS modD (callV intD (consS (binS powD (binS addD (varS 4) (binS mulE (cS (.int 130363)) (varS 2))) (cS (.int 5))) nilS)) (cS (.int 2147483549))) (cS (.int 17))) nilS)) (varS 1)))))))))
theorem n1 : ¬ Str.ofString "large" = Str.ofString "rest" := by decide
theorem n2 : ¬ Str.ofString "cells" = Str.ofString "rest" := by decide
theorem n3 : ¬ Str.ofString "large" = Str.ofString "turn" := by decide
theorem n4 : ¬ Str.ofString "cells" = Str.ofString "turn" := by decide
theorem n5 : ¬ Str.ofString "rest" = Str.ofString "turn" := by decide
theorem n6 : ¬ Str.ofString "large" = Str.ofString "cells" := by decide
theorem n7 : ¬ Str.ofString "turn" = Str.ofString "rest" := by decide
theorem ix_rest (z : DS) (rhz : List SV) : ixA ⟨rhz, z.muz⟩ (.hnd 1) (.str "rest") = some (.int z.r) := by
  unfold ixA
  simp [vw, DS.muz, DS.tb, isKey, keyD, lookD, keyQ, frzD, n1, n2, n3, n4, n5, n6, n7]
theorem ix_turn (z : DS) (rhz : List SV) : ixA ⟨rhz, z.muz⟩ (.hnd 1) (.str "turn") = some (.int z.t) := by
  unfold ixA
  simp [vw, DS.muz, DS.tb, isKey, keyD, lookD, keyQ, frzD, n1, n2, n3, n4, n5, n6, n7]
theorem ix_large (z : DS) (rhz : List SV) : ixA ⟨rhz, z.muz⟩ (.hnd 1) (.str "large") = some (.hnd 0) := by
  unfold ixA
  simp [vw, DS.muz, DS.tb, isKey, keyD, lookD, keyQ, frzD, n1, n2, n3, n4, n5, n6, n7]
theorem ix_cells (z : DS) (rhz : List SV) : ixA ⟨rhz, z.muz⟩ (.hnd 1) (.str "cells") = some (.lst (isl z.c)) := by
  unfold ixA
  simp [vw, DS.muz, DS.tb, isKey, keyD, lookD, keyQ, frzD, n1, n2, n3, n4, n5, n6, n7]
theorem put_rest (z : DS) (rhz : List SV) (v : Int) : kDput2 (.int v) (.hnd 1) (.str "rest") ⟨rhz, z.muz⟩ = .ok .nx ⟨rhz, ({ z with r := v } : DS).muz⟩ := by
  rw [kDput2_hnd (t := false) (l := z.tb) rfl rfl rfl (by show 4 < LIM; decide)]
  have : putD false z.tb (.str "rest") (.int v) = ({ z with r := v } : DS).tb := by simp [putD, DS.tb, keyQ, keyD, n1, n2, n3, n4, n5, n6, n7]
  rw [this]
  rfl
theorem put_turn (z : DS) (rhz : List SV) (v : Int) : kDput2 (.int v) (.hnd 1) (.str "turn") ⟨rhz, z.muz⟩ = .ok .nx ⟨rhz, ({ z with t := v } : DS).muz⟩ := by
  rw [kDput2_hnd (t := false) (l := z.tb) rfl rfl rfl (by show 4 < LIM; decide)]
  have : putD false z.tb (.str "turn") (.int v) = ({ z with t := v } : DS).tb := by simp [putD, DS.tb, keyQ, keyD, n1, n2, n3, n4, n5, n6, n7]
  rw [this]
  rfl
theorem pyL_isl : ∀ l : List Int, pyL (isl l) = some (l.map .int)
  | [] => by simp [isl, pyL]
  | x :: l => by
    have := pyL_isl l
    unfold isl at this ⊢
    simp only [List.map_cons, pyL, pyOf, this]
theorem lay_isl (l : List Int) : PyData.canLayAll0 (l.map .int) = true := by
  induction l with
  | nil => simp [PyData.canLayAll0]
  | cons x l ih => simp [PyData.canLayAll0, PyData.canLay0, ih]
theorem depth_isl (l : List Int) : PyData.depthAll (l.map .int) = 0 := by
  induction l with
  | nil => simp [PyData.depthAll]
  | cons x l ih => simp [PyData.depthAll, PyData.depth, ih]
theorem eqB_isl {s : S} {d : D} {l : List Int} (h : vw s d = .lst (isl l)) : eqB s d (.lst []) = some (decide (l = [])) := by
  unfold eqB
  rw [h]
  have e0 : pyL [] = some ([] : List PyData) := by simp [pyL]
  simp only [vw, pyOf_lst (pyL_isl l), pyOf_lst e0]
  have s1 : SeqAt.shaped (.list (l.map .int)) = true := by unfold SeqAt.shaped; simp [PyData.canLay0, lay_isl, PyData.depth, depth_isl]
  have s2 : SeqAt.shaped (.list []) = true := by unfold SeqAt.shaped; simp [PyData.canLay0, PyData.canLayAll0, PyData.depth, PyData.depthAll]
  simp only [s1, s2, Bool.and_self, if_true]
  cases l <;> simp [PyData.eqv, PyData.eqvAll]
end AG
namespace AG
open PySem L2
@[simp] theorem eqD_ap (s : S) (x y : D) : eqD s x y = (eqB s x y).map .bl := Eq.trans rfl rfl
@[simp] theorem neD_ap (s : S) (x y : D) : neD s x y = (eqB s x y).map fun b => .bl (!b) := Eq.trans rfl rfl
@[simp] theorem eqB_int (s : S) (a b : Int) : eqB s (.int a) (.int b) = some (decide (a = b)) := Eq.trans rfl rfl
@[simp] theorem eqB_str (s : S) (a b : Str) : eqB s (.str a) (.str b) = some (decide (a = b)) := Eq.trans rfl rfl
@[simp] theorem addD_int (s : S) (a b : Int) : addD s (.int a) (.int b) = some (.int (a + b)) := Eq.trans rfl rfl
@[simp] theorem subD_int (s : S) (a b : Int) : subD s (.int a) (.int b) = some (.int (a - b)) := Eq.trans rfl rfl
@[simp] theorem gtD_int (s : S) (a b : Int) : gtD s (.int a) (.int b) = some (.bl (decide (b < a))) := Eq.trans rfl rfl
@[simp] theorem ltD_int (s : S) (a b : Int) : ltD s (.int a) (.int b) = some (.bl (decide (a < b))) := Eq.trans rfl rfl
@[simp] theorem cmpI_int (p : Int → Int → Bool) (s : S) (a b : Int) : cmpI p s (.int a) (.int b) = some (.bl (p a b)) := Eq.trans rfl rfl
@[simp] theorem intD_int (s : S) (a : Int) : intD s [.int a] = some (.int a) := Eq.trans rfl rfl
@[simp] theorem intD_bl (s : S) (a : Bool) : intD s [.bl a] = some (.int (if a then 1 else 0)) := Eq.trans rfl rfl
@[simp] theorem maxD_int (s : S) (a b : Int) : maxD s [.int a, .int b] = some (.int (if b > a then b else a)) := Eq.trans rfl rfl
theorem modD_int (s : S) (a : Int) {b : Int} (h : 0 < b) : modD s (.int a) (.int b) = some (.int (a % b)) := by
  show (if _ then _ else _) = _
  rw [if_pos h]
theorem fdivD_int (s : S) (a : Int) {b : Int} (h : 0 < b) (h2 : b < 2 ^ 62) : fdivD s (.int a) (.int b) = some (.int (a / b)) := by
  show (if _ then _ else _) = _
  rw [if_pos]
  refine ⟨h, ?_⟩
  have : b.natAbs < 2 ^ 62 := by omega
  have := (Nat.log2_lt (by omega)).mpr this
  omega
theorem log_lt {a : Int} {k : Nat} (h : a.natAbs < 2 ^ k) (k0 : 0 < k) : a.natAbs.log2 < k := by
  by_cases h0 : a.natAbs = 0
  · rw [h0]; simpa using k0
  · exact (Nat.log2_lt h0).mpr h
theorem mulE_int (s : S) {a b : Int} (h : a.natAbs < 2 ^ 2000) (h2 : b.natAbs < 2 ^ 2000) : mulE s (.int a) (.int b) = some (.int (a * b)) := by
  show mulD s (.int a) (.int b) = _
  show (if _ then _ else _) = _
  rw [if_pos]
  have := log_lt h (by omega)
  have := log_lt h2 (by omega)
  omega
theorem powD_int (s : S) {a : Int} {b : Nat} (h : a.natAbs < 2 ^ 2000) (hb : b ≤ 1000) : powD s (.int a) (.int b) = some (.int (a ^ b)) := by
  unfold powD
  have hi : Builtin.Int.intBits a ≤ 2000 := by
    unfold Builtin.Int.intBits
    have := log_lt h (by omega)
    split <;> omega
  simp only [Int.toNat_natCast]
  rw [if_pos]
  refine ⟨by omega, ?_⟩
  have h1 : (Builtin.Int.intBits a : Int) * b ≤ 2000 * 1000 := Int.mul_le_mul (by omega) (by omega) (by omega) (by omega)
  omega
end AG
set_option Elab.async false
set_option linter.all false
set_option maxRecDepth 100000
namespace AG
open PySem L2
theorem mu0 (z : DS) : z.muz[0]? = some (.ml (isl z.L)) := rfl
theorem pop0 (z : DS) (rhz : List SV) (x : Int) (L : List Int) (h : z.L = x :: L) : kPopAt1 (.hnd 0) (.int 0) ⟨rhz, z.muz⟩ = .ok (.int x) ⟨rhz, ({ z with L := L } : DS).muz⟩ := by
  have e : isl z.L = .int x :: isl L := by rw [h]; rfl
  have := kPopAt1_hnd (i := 0) (rhz := rhz) (muz := z.muz) (l := isl z.L) (k := 0) (z := .int x) (mu0 z) (by rw [e]; rfl) (by omega)
  rw [show ((0 : Nat) : Int) = 0 from rfl] at this
  rw [this, e]
  rfl
theorem vw_large (z : DS) (rhz : List SV) : vw ⟨rhz, z.muz⟩ (.hnd 0) = .lst (isl z.L) := rfl
abbrev skC : M Bool := tAndS (tstS (binS eqD (binS ixA (varS 0) (cS (.str "rest"))) (cS (.int 0)))) (tstS (binS neD (binS ixA (varS 0) (cS (.str "large"))) (frzS (lstF nilS))))
abbrev skB : M Fl := dputS (popAtS (binS ixA (varS 0) (cS (.str "large"))) (cS (.int 0))) (varS 0) (cS (.str "rest"))
theorem skC_eq (z : DS) (rhz : List SV) (h : rhz[0]? = some (.d (.hnd 1))) : skC ⟨rhz, z.muz⟩ = .ok (decide (z.r = 0) && !decide (z.L = [])) ⟨rhz, z.muz⟩ := by
  by_cases hr : z.r = 0
  · simp [skC, h, ix_rest, ix_large, hr, kLst_0, eqB_isl (vw_large z rhz)]
  · simp [skC, h, ix_rest, hr]
theorem skB_eq (z : DS) (rhz : List SV) (h : rhz[0]? = some (.d (.hnd 1))) (x : Int) (L : List Int) (hL : z.L = x :: L) : skB ⟨rhz, z.muz⟩ = .ok .nx ⟨rhz, ({ z with L := L, r := x } : DS).muz⟩ := by
  have e1 := pop0 z rhz x L hL
  have e2 := put_rest ({ z with L := L } : DS) rhz x
  simp [skB, h, ix_large, kPopAt_hnd (i := 0) (l := isl z.L) (mu0 z), e1, e2]
theorem sk_eq (rhz : List SV) (h : rhz[0]? = some (.d (.hnd 1))) : ∀ (L : List Int) (z : DS), z.L = L → whS skC skB ⟨rhz, z.muz⟩ = .ok .nx ⟨rhz, ({ z with L := (skp z.L z.r).1, r := (skp z.L z.r).2 } : DS).muz⟩
  | [], z, hz => by
    rw [whS_unf, skC_eq z rhz h]
    simp [hz, skp]
    rw [← hz]
  | x :: L, z, hz => by
    rw [whS_unf, skC_eq z rhz h]
    by_cases hr : z.r = 0
    · simp only [hr, hz, decide_true, Bool.true_and, O.bind_ok]
      rw [if_pos (by simp)]
      rw [skB_eq z rhz h x L hz]
      simp only [O.bind_ok]
      rw [sk_eq rhz h L _ rfl]
      simp [skp]
    · simp only [hr, decide_false, Bool.false_and, O.bind_ok, Bool.false_eq_true, if_false]
      have : skp z.L z.r = (z.L, z.r) := by rw [hz]; simp [skp, hr]
      rw [this]
end AG
set_option Elab.async false
set_option linter.all false
set_option maxRecDepth 100000
set_option exponentiation.threshold 4000
namespace AG
open PySem L2
abbrev drR : M Fl := (seqS (ifS (tstS (binS gtD (binS ixA (varS 0) (cS (.str "rest"))) (cS (.int 0)))) (seqS (setS 5 (binS modD (callV intD (consS (binS ixA (varS 0) (cS (.str "rest"))) nilS)) (varS 1)))
    (seqS (dputS (binS fdivD (binS ixA (varS 0) (cS (.str "rest"))) (varS 1)) (varS 0) (cS (.str "rest")))
    (retS (varS 5)))) nxS)
    (seqS (setS 2 (binS addD (binS ixA (varS 0) (cS (.str "turn"))) (cS (.int 1))))
    (seqS (dputS (varS 2) (varS 0) (cS (.str "turn")))
    (seqS (setS 3 (iteS (tstS (binS neD (binS ixA (varS 0) (cS (.str "cells"))) (frzS (lstF nilS)))) (binS ixA (binS ixA (varS 0) (cS (.str "cells"))) (binS modD (callV intD (consS (varS 2) nilS)) (callV lenD (consS (binS ixA (varS 0) (cS (.str "cells"))) nilS)))) (cS (.int 0))))
    (seqS (setS 4 (binS modD (callV intD (consS (binS powD (binS addD (binS addD (binS modD (callV intD (consS (varS 3) nilS)) (cS (.int 2147483563))) (binS mulE (cS (.int 48271)) (varS 2))) (cS (.int 54321))) (cS (.int 3))) nilS)) (cS (.int 2147483647))))
    (retS (binS modD (callV intD (consS (binS fdivD (binS modD (callV intD (consS (binS powD (binS addD (varS 4) (binS mulE (cS (.int 130363)) (varS 2))) (cS (.int 5))) nilS)) (cS (.int 2147483549))) (cS (.int 17))) nilS)) (varS 1))))))))
theorem vw_lst (s : S) (l : List D) : vw s (.lst l) = .lst l := rfl
theorem lenD_lst (s : S) (l : List D) : lenD s [.lst l] = some (.int l.length) := rfl
theorem isl_len (l : List Int) : (isl l).length = l.length := List.length_map ..
theorem ixA_isl (s : S) (l : List Int) (i : Int) (h0 : 0 ≤ i) (h1 : i < l.length) : ixA s (.lst (isl l)) (.int i) = some (.int ((l[i.toNat]?).getD 0)) := by
  show atI (isl l) i = _
  unfold atI ixN
  rw [if_pos h0, isl_len, if_pos h1]
  show (isl l)[i.toNat]? = _
  unfold isl
  have hl : i.toNat < l.length := by omega
  rw [List.getElem?_map, List.getElem?_eq_getElem hl]
  rfl
theorem dr_wet (z : DS) (n : Int) (n0 : 0 < n) (n1 : n < 2 ^ 62) (hr : 0 < z.r) : drR ⟨[.d (.hnd 1), .d (.int n), .un, .un, .un, .un], z.muz⟩ = .ok (.rt (.int (z.r % n))) ⟨[.d (.hnd 1), .d (.int n), .un, .un, .un, .d (.int (z.r % n))], ({ z with r := z.r / n } : DS).muz⟩ := by
  simp [drR, ix_rest, hr, modD_int _ _ n0, fdivD_int _ _ n0 n1, put_rest]
theorem p2000 : (2 : Nat) ^ 1000 * 2 ^ 62 * 8 ≤ 2 ^ 2000 := by
  have e : (2 : Nat) ^ 1000 * 2 ^ 62 * 8 = 2 ^ 1065 := by
    rw [show (8 : Nat) = 2 ^ 3 from rfl, ← Nat.pow_add, ← Nat.pow_add]
  rw [e]
  exact Nat.pow_le_pow_right (by omega) (by omega)
theorem small_sum {t m : Int} {k : Nat} (t0 : 0 ≤ t) (t1 : t < 2 ^ 1000) (m0 : 0 ≤ m) (m1 : m < 2 ^ 62) (hk : k < 2 ^ 20) : (m + (k : Int) * t + 54321).natAbs < 2 ^ 2000 ∧ (m + (k : Int) * t).natAbs < 2 ^ 2000 ∧ t.natAbs < 2 ^ 2000 := by
  have hp := p2000
  have e1 : (1 : Nat) ≤ 2 ^ 1000 := Nat.one_le_two_pow
  obtain ⟨t, rfl⟩ := Int.eq_ofNat_of_zero_le t0
  obtain ⟨m, rfl⟩ := Int.eq_ofNat_of_zero_le m0
  have t1' : t < 2 ^ 1000 := by
    have : ((2 : Int) ^ 1000) = (((2 : Nat) ^ 1000 : Nat) : Int) := by simp
    rw [this] at t1
    exact Int.ofNat_lt.mp t1
  have kt : k * t ≤ 2 ^ 20 * 2 ^ 1000 := Nat.mul_le_mul (by omega) (by omega)
  have c1 : ((m : Int) + (k : Int) * (t : Int) + 54321).natAbs = m + k * t + 54321 := by omega
  have c2 : ((m : Int) + (k : Int) * (t : Int)).natAbs = m + k * t := by omega
  have c3 : ((t : Int)).natAbs = t := rfl
  rw [c1, c2, c3]
  generalize (2 : Nat) ^ 2000 = P at *
  generalize (2 : Nat) ^ 1000 = Q at *
  generalize k * t = kt' at *
  refine ⟨?_, ?_, ?_⟩ <;> omega
end AG
set_option Elab.async false
set_option linter.all false
set_option maxRecDepth 100000
set_option exponentiation.threshold 4000
namespace AG
open PySem L2
theorem cell_val (c : List Int) (t : Int) (hc : c ≠ []) (t0 : 0 ≤ t) : cellAt c t = (c[(t % c.length).toNat]?).getD 0 := if_neg hc
theorem dr_cell (z : DS) (rhz : List SV) (t : Int) (t0 : 0 ≤ t) (h0 : rhz[0]? = some (.d (.hnd 1))) (h2 : rhz[2]? = some (.d (.int t))) :
    iteS (tstS (binS neD (binS ixA (varS 0) (cS (.str "cells"))) (frzS (lstF nilS)))) (binS ixA (binS ixA (varS 0) (cS (.str "cells"))) (binS modD (callV intD (consS (varS 2) nilS)) (callV lenD (consS (binS ixA (varS 0) (cS (.str "cells"))) nilS)))) (cS (.int 0)) ⟨rhz, z.muz⟩ = .ok (.int (cellAt z.c t)) ⟨rhz, z.muz⟩ := by
  by_cases hc : z.c = []
  · simp [h0, ix_cells, eqB_isl (vw_lst _ _), hc, cellAt]
  · have l0 : 0 < z.c.length := List.length_pos_iff.mpr hc
    have m1 := Int.emod_nonneg t (show (z.c.length : Int) ≠ 0 by omega)
    have m2 := Int.emod_lt_of_pos t (show (0 : Int) < z.c.length by omega)
    have e := ixA_isl ⟨rhz, z.muz⟩ z.c (t % z.c.length) m1 m2
    simp [h0, h2, ix_cells, eqB_isl (vw_lst _ _), hc, lenD_lst, isl_len, modD_int _ t (show (0 : Int) < z.c.length by omega), e, cell_val z.c t hc t0]
theorem dr_dry (z : DS) (n : Int) (n0 : 0 < n) (hr : z.r = 0) (t0 : 0 ≤ z.t) (t1 : z.t + 1 < 2 ^ 1000) : ∃ rhz, drR ⟨[.d (.hnd 1), .d (.int n), .un, .un, .un, .un], z.muz⟩ = .ok (.rt (.int (signAt z.c (z.t + 1) % n))) ⟨rhz, ({ z with t := z.t + 1 } : DS).muz⟩ := by
  have w1 := dr_cell ({ z with t := z.t + 1 } : DS) [.d (.hnd 1), .d (.int n), .d (.int (z.t + 1)), .un, .un, .un] (z.t + 1) (by omega) rfl rfl
  have b1 := Int.emod_nonneg (cellAt z.c (z.t + 1)) (show (2147483563 : Int) ≠ 0 by omega)
  have b2 := Int.emod_lt_of_pos (cellAt z.c (z.t + 1)) (show (0 : Int) < 2147483563 by omega)
  obtain ⟨s1, _, s3⟩ := small_sum (t := z.t + 1) (m := cellAt z.c (z.t + 1) % 2147483563) (k := 48271) (by omega) t1 b1 (by omega) (by omega)
  have d1 := Int.emod_nonneg ((cellAt z.c (z.t + 1) % 2147483563 + 48271 * (z.t + 1) + 54321) ^ 3) (show (2147483647 : Int) ≠ 0 by omega)
  have d2 := Int.emod_lt_of_pos ((cellAt z.c (z.t + 1) % 2147483563 + 48271 * (z.t + 1) + 54321) ^ 3) (show (0 : Int) < 2147483647 by omega)
  obtain ⟨_, s5, _⟩ := small_sum (t := z.t + 1) (m := mixd z.c (z.t + 1)) (k := 130363) (by omega) t1 d1 (by unfold mixd; omega) (by omega)
  have p1 : ∀ s, powD s (.int (cellAt z.c (z.t + 1) % 2147483563 + 48271 * (z.t + 1) + 54321)) (.int 3) = some (.int ((cellAt z.c (z.t + 1) % 2147483563 + 48271 * (z.t + 1) + 54321) ^ 3)) := fun s => powD_int s (b := 3) s1 (by omega)
  have p2 : ∀ s, powD s (.int (mixd z.c (z.t + 1) + 130363 * (z.t + 1))) (.int 5) = some (.int ((mixd z.c (z.t + 1) + 130363 * (z.t + 1)) ^ 5)) := fun s => powD_int s (b := 5) s5 (by omega)
  have q1 : ∀ s, mulE s (.int 48271) (.int (z.t + 1)) = some (.int (48271 * (z.t + 1))) := fun s => mulE_int s (by decide) s3
  have q2 : ∀ s, mulE s (.int 130363) (.int (z.t + 1)) = some (.int (130363 * (z.t + 1))) := fun s => mulE_int s (by decide) s3
  have m1 : ∀ s, modD s (.int (cellAt z.c (z.t + 1))) (.int 2147483563) = some (.int (cellAt z.c (z.t + 1) % 2147483563)) := fun s => modD_int s _ (by omega)
  have m2 : ∀ s, modD s (.int ((cellAt z.c (z.t + 1) % 2147483563 + 48271 * (z.t + 1) + 54321) ^ 3)) (.int 2147483647) = some (.int (mixd z.c (z.t + 1))) := fun s => modD_int s _ (by omega)
  have m3 : ∀ s, modD s (.int ((mixd z.c (z.t + 1) + 130363 * (z.t + 1)) ^ 5)) (.int 2147483549) = some (.int ((mixd z.c (z.t + 1) + 130363 * (z.t + 1)) ^ 5 % 2147483549)) := fun s => modD_int s _ (by omega)
  have m4 : ∀ s, fdivD s (.int ((mixd z.c (z.t + 1) + 130363 * (z.t + 1)) ^ 5 % 2147483549)) (.int 17) = some (.int (signAt z.c (z.t + 1))) := fun s => fdivD_int s _ (by omega) (by omega)
  have m5 : ∀ s, modD s (.int (signAt z.c (z.t + 1))) (.int n) = some (.int (signAt z.c (z.t + 1) % n)) := fun s => modD_int s _ n0
  have hr' : ¬ 0 < z.r := by omega
  have c1 : ∀ rhz, kDput2 (.int (z.t + 1)) (.hnd 1) (.str "turn") ⟨rhz, z.muz⟩ = .ok .nx ⟨rhz, ({ z with t := z.t + 1 } : DS).muz⟩ := fun rhz => put_turn z rhz _
  refine ⟨[.d (.hnd 1), .d (.int n), .d (.int (z.t + 1)), .d (.int (cellAt z.c (z.t + 1))), .d (.int (mixd z.c (z.t + 1))), .un], ?_⟩
  have w2 : ∀ (f : M D) (s : S), setS 3 f s = (f s).bind (kSet 3) := fun f s => rfl
  simp only [drR, seqS_ap, ifS_ap, tstS_ap, binS_ap, varS_ap, kVar_d, cS_ap, O.bind_ok, kB1_ap, kB2_ap, List.getElem?_cons_zero, List.getElem?_cons_succ, ix_rest, ofO_some, gtD_int, hr', decide_false, kTst_ap, kIte_f, nxS_ap, kSeq_nx, setS_ap, ix_turn, addD_int, kSet_ap, sto_int, kSetB_t, List.set_cons_succ, List.set_cons_zero, dputS_ap, kDput_ap, kDput1_ap, c1, w1, callV_ap, consS_ap, kCons_ap, nilS_ap, kCons2_ap, kCv_ap, intD_int, m1, q1, p1, m2, q2, p2, m3, m4, m5, retS_ap, kRet_int]
theorem runD_eq {n a : Nat} {body : M Fl} {ds : List D} {muz : List MO} {d : D} {s : S} (hl : ds.length = a) (h : body ⟨ds.map .d ++ List.replicate (n - a) .un, muz⟩ = .ok (.rt d) s) : runD n a body ds muz = .ok d s.muz := by
  unfold runD
  rw [if_pos hl, h]
theorem draw_run (z : DS) (n : Int) (hz : z.Good) (n0 : 0 < n) (n1 : n < 2 ^ 62) (t1 : z.t + 1 < 2 ^ 1000) : runD 6 2 drawS [.hnd 1, .int n] z.muz = .ok (.int (drw n z).1) (drw n z).2.muz := by
  have e0 : (drawS : M Fl) = seqS (whS skC skB) drR := rfl
  have e1 := sk_eq [.d (.hnd 1), .d (.int n), .un, .un, .un, .un] rfl z.L z rfl
  obtain ⟨g1, g2, _⟩ := skp_good z.L z.r hz.L hz.r
  have go : ∃ rhz, drawS ⟨[.d (.hnd 1), .d (.int n), .un, .un, .un, .un], z.muz⟩ = .ok (.rt (.int (drw n z).1)) ⟨rhz, (drw n z).2.muz⟩ := by
    rw [e0, seqS_ap, e1, O.bind_ok, kSeq_nx]
    unfold drw
    by_cases hr : 0 < (skp z.L z.r).2
    · rw [if_pos hr, dr_wet ⟨(skp z.L z.r).1, z.c, (skp z.L z.r).2, z.t⟩ n n0 n1 hr]
      exact ⟨_, rfl⟩
    · rw [if_neg hr]
      obtain ⟨rhz, e2⟩ := dr_dry ⟨(skp z.L z.r).1, z.c, (skp z.L z.r).2, z.t⟩ n n0 (by show (skp z.L z.r).2 = 0; omega) hz.t t1
      rw [e2]
      exact ⟨rhz, rfl⟩
  obtain ⟨rhz, go⟩ := go
  exact runD_eq (ds := [.hnd 1, .int n]) (s := ⟨rhz, (drw n z).2.muz⟩) rfl go
end AG
set_option Elab.async false
set_option linter.all false
set_option maxRecDepth 100000
set_option exponentiation.threshold 4000
namespace AG
end AG
set_option Elab.async false
set_option linter.all false
set_option maxRecDepth 100000
set_option exponentiation.threshold 4000
namespace AG
end AG
set_option Elab.async false
set_option linter.all false
set_option maxRecDepth 100000
set_option exponentiation.threshold 4000
namespace AG
open PySem L2
def IsDraw (cd : List D → List MO → R) : Prop := ∀ (z : DS) (n : Int), z.Good → 0 < n → n < 2 ^ 62 → z.t + 1 < 2 ^ 1000 → cd [.hnd 1, .int n] z.muz = .ok (.int (drw n z).1) (drw n z).2.muz
abbrev pickS (cd : List D → List MO → R) : M Fl := (retS (binS ixA (varS 1) (callF cd (consS (varS 0) (consS (callV lenD (consS (varS 1) nilS)) nilS)))))
theorem atI_ok {α : Type} (l : List α) (i : Int) (h0 : 0 ≤ i) (h1 : i < l.length) : atI l i = l[i.toNat]? := by
  unfold atI ixN
  rw [if_pos h0, if_pos h1]
  rfl
def LET : Str := Str.ofString "abcdefghijklmnopqrstuvwxyz"
def sgn (c : Nat) : Str := ⟨#[c]⟩
theorem let_get : ∀ v, v < 26 → LET.cps.toList[v]? = some (97 + v) := by
  intro v hv
  have h : (List.range 26).all (fun v => decide (LET.cps.toList[v]? = some (97 + v))) = true := by decide +kernel
  exact of_decide_eq_true (List.all_eq_true.mp h v (List.mem_range.mpr hv))
theorem let_len : LET.length = 26 := by decide +kernel
theorem let_len2 : LET.cps.toList.length = 26 := by decide +kernel
structure Nm (x : Str) : Prop where
  pos : 1 ≤ x.length
  few : x.length ≤ 6
  low : ∀ c ∈ x.cps.toList, 97 ≤ c ∧ c ≤ 122
theorem Nm.lay {x : Str} (h : Nm x) : PyData.canLay0 (.str x) = true := by
  simp only [PyData.canLay0, PyData.strOk]
  rw [← Array.all_toList]
  refine List.all_eq_true.mpr fun c hc => ?_
  have := h.low c hc
  simp
  omega
end AG
set_option Elab.async false
set_option linter.all false
set_option maxRecDepth 100000
set_option exponentiation.threshold 4000
namespace AG
open PySem L2
theorem len_tl (w : Str) : w.length = w.cps.toList.length := by simp [Str.length]
theorem any_txs (w : Str) : ∀ fd : List Str, ((fd.map PyData.str).any fun z => PyData.eqv z (.str w)) = decide (w ∈ fd)
  | [] => by simp
  | x :: l => by
    rw [List.map_cons, List.any_cons, any_txs w l]
    have e : PyData.eqv (.str x) (.str w) = (x == w) := by simp only [PyData.eqv]
    rw [e]
    by_cases q : x = w
    · subst q; simp
    · have q' : ¬ w = x := fun z => q z.symm
      have q2 : (x == w) = false := by simpa using q
      rw [q2]
      simp [q']
theorem in_txs {s : S} {d : D} {fd : List Str} {w : Str} (h : vw s d = .lst (txs fd)) (hl : Lay fd) (hw : PyData.canLay0 (.str w) = true) : inA s (.str w) d = some (.bl (decide (w ∈ fd))) := by
  have sw : SeqAt.shaped (.str w) = true := by unfold SeqAt.shaped; simp [hw, PyData.depth]
  have e1 : inB s (.str w) d = some (decide (w ∈ fd)) := by
    unfold inB
    rw [h]
    simp only [vw, pyOf, pyL_txs, sw, shaped_lst hl, Bool.and_self, if_true, any_txs]
  unfold inA inAB
  rw [h]
  show (inB s (.str w) d).map D.bl = _
  rw [e1]
  rfl
end AG
set_option Elab.async false
set_option linter.all false
set_option maxRecDepth 100000
set_option exponentiation.threshold 4000
namespace AG
open PySem L2
theorem lenD_nm (s : S) {w : Str} (h : Nm w) : lenD s [.str w] = some (.int w.length) := by
  show (if w.length ≤ LIM then some (D.int (w.length : Nat)) else none) = _
  rw [if_pos (Nat.le_trans h.few (by decide))]
theorem addD_nm (s : S) {a b : Str} (h : a.length + b.length ≤ 20) : addD s (.str a) (.str b) = some (.str (a ++ b)) := by
  show (if a.length + b.length ≤ LIM then some (D.str (a ++ b)) else none) = _
  rw [if_pos (Nat.le_trans h (by decide))]
end AG
set_option Elab.async false
set_option linter.all false
set_option maxRecDepth 100000
set_option exponentiation.threshold 4000
namespace AG
open PySem L2
end AG
set_option Elab.async false
set_option linter.all false
set_option maxRecDepth 100000
set_option exponentiation.threshold 4000
namespace AG
open PySem L2
end AG
set_option Elab.async false
set_option linter.all false
set_option maxRecDepth 100000
set_option exponentiation.threshold 4000
namespace AG
open PySem L2
theorem Ok.ex {α : Type} {o : O α} {Q : α → S → Prop} (h : Ok o Q) : ∃ a s, o = .ok a s ∧ Q a s := by
  cases o with
  | ok a s => exact ⟨a, s, rfl, h⟩
  | _ => exact h.elim
theorem OkR.ex {r : R} {Q : D → List MO → Prop} (h : OkR r Q) : ∃ d muz, r = .ok d muz ∧ Q d muz := by
  cases r with
  | ok a s => exact ⟨a, s, rfl, h⟩
  | _ => exact h.elim
@[simp] theorem yesS_ap (s : S) : yesS s = .ok true s := Eq.trans rfl rfl
end AG
set_option Elab.async false
set_option linter.all false
set_option maxRecDepth 100000
set_option exponentiation.threshold 4000
namespace AG
open PySem L2
def UNIT : Int := 2 ^ 70
def TOP : Int := 2 ^ 999
structure Bd (n : Nat) (z : DS) : Prop where
  good : z.Good
  t : z.t + n * UNIT < TOP
theorem unit_pos : (0 : Int) < UNIT := by unfold UNIT; decide
theorem unit_big : (2 : Int) ^ 69 + 2000 < UNIT := by unfold UNIT; decide
theorem top_big : TOP + 5000 < 2 ^ 1000 := by
  have h : decide (TOP + 5000 < 2 ^ 1000) = true := by unfold TOP; decide +kernel
  exact of_decide_eq_true h
theorem top_unit : (2 ^ 70 : Int) * UNIT < TOP := by
  have h : decide ((2 ^ 70 : Int) * UNIT < TOP) = true := by unfold TOP UNIT; decide +kernel
  exact of_decide_eq_true h
theorem Bd.le {n m : Nat} {z : DS} (h : Bd n z) (l : m ≤ n) : Bd m z := ⟨h.good, by
  have := h.t
  have u := unit_pos
  have : (m : Int) * UNIT ≤ n * UNIT := Int.mul_le_mul_of_nonneg_right (by omega) (by omega)
  omega⟩
theorem Bd.step {n : Nat} {z z' : DS} (h : Bd (n + 1) z) (g : z'.Good) (t : z'.t ≤ z.t + (2 ^ 69 + 2000)) : Bd n z' := ⟨g, by
  have h1 := h.t
  have u := unit_big
  have e : ((n + 1 : Nat) : Int) * UNIT = n * UNIT + UNIT := by rw [Int.natCast_add, Int.add_mul]; simp
  rw [e] at h1
  generalize (2 : Int) ^ 69 = P at *
  omega⟩
theorem Bd.room {n : Nat} {z : DS} (h : Bd (n + 1) z) : z.t + (2 ^ 69 + 2000) < 2 ^ 1000 := by
  have h1 := h.t
  have u := unit_big
  have tb := top_big
  have p := unit_pos
  have e : ((n + 1 : Nat) : Int) * UNIT = n * UNIT + UNIT := by rw [Int.natCast_add, Int.add_mul]; simp
  have n0 : 0 ≤ (n : Int) * UNIT := Int.mul_nonneg (by omega) (by omega)
  rw [e] at h1
  generalize (2 : Int) ^ 69 = P at *
  generalize (2 : Int) ^ 1000 = Q at *
  omega
theorem Bd.one {n : Nat} {z : DS} (h : Bd (n + 1) z) : z.t + 1 < 2 ^ 1000 := by
  have := h.room
  have p : (0 : Int) < 2 ^ 69 := by decide
  generalize (2 : Int) ^ 69 = P at *
  generalize (2 : Int) ^ 1000 = Q at *
  omega
section
variable {cd cp : List D → List MO → R}
theorem map_erase {α β : Type} (f : α → β) : ∀ (l : List α) (k : Nat), (l.map f).eraseIdx k = (l.eraseIdx k).map f
  | [], _ => rfl
  | _ :: _, 0 => rfl
  | x :: l, k + 1 => by rw [List.map_cons, List.eraseIdx_cons_succ, List.eraseIdx_cons_succ, List.map_cons, map_erase f l k]
theorem erase_perm {α : Type} (l : List α) (k : Nat) (h : k < l.length) : (l[k] :: l.eraseIdx k).Perm l := by
  rw [List.eraseIdx_eq_take_drop_succ]
  refine List.perm_middle.symm.trans ?_
  rw [List.getElem_cons_drop, List.take_append_drop]
theorem eqB_lsts {s : S} {x y : D} {a b : List Str} (hx : vw s x = .lst (txs a)) (hy : vw s y = .lst (txs b)) (ha : Lay a) (hb : Lay b) : eqB s x y = some (decide (a = b)) := by
  unfold eqB
  rw [hx, hy]
  simp only [pyOf_lst (pyL_txs a), pyOf_lst (pyL_txs b), shaped_lst ha, shaped_lst hb, Bool.and_self, if_true, PyData.eqv, eqvAll_txs]
abbrev mxC : M Bool := tstS (binS neD (varS 2) (frzS (lstF nilS)))
abbrev mxB (cd : List D → List MO → R) : M Fl := appS (varS 3) (popAtS (varS 2) (callF cd (consS (varS 0) (consS (callV lenD (consS (varS 2) nilS)) nilS))))
noncomputable abbrev mixedS (cd : List D → List MO → R) : M Fl := (seqS (parA [2, 3] [.inr (callN listN (consS (varS 1) nilS)), .inr (lstF nilS)])
    (seqS (whS mxC (mxB cd))
    (retS (varS 3))))
end
end AG
set_option Elab.async false
set_option linter.all false
set_option maxRecDepth 100000
set_option exponentiation.threshold 4000
namespace AG
open PySem L2
end AG
set_option Elab.async false
set_option linter.all false
set_option maxRecDepth 100000
set_option exponentiation.threshold 4000
namespace AG
open PySem L2
section
variable {s : S} {f g h : M D} {fm : M MO}
def kSlF2 (x : D) (a : Option Int) : Option Int → S → O MO := fun b s3 => match vw s3 x with
  | .lst l => .ok (.ml (cutL l a b)) s3
  | _ => .st
def kSlF1 (x : D) (hi : M (Option Int)) : Option Int → S → O MO := fun a s => (hi s).bind (kSlF2 x a)
def kSlF (lo hi : M (Option Int)) : D → S → O MO := fun x s => (lo s).bind (kSlF1 x hi)
theorem slF_ap (lo hi : M (Option Int)) : slF f lo hi s = (f s).bind (kSlF lo hi) := Eq.trans rfl rfl
theorem kSlF_ap (lo hi : M (Option Int)) (x : D) (s : S) : kSlF lo hi x s = (lo s).bind (kSlF1 x hi) := Eq.trans rfl rfl
theorem kSlF1_ap (hi : M (Option Int)) (x : D) (a : Option Int) (s : S) : kSlF1 x hi a s = (hi s).bind (kSlF2 x a) := Eq.trans rfl rfl
theorem tgT_ap (ts : List (D → M Unit)) (ds : List D) (s : S) : tgT ts (.tup ds) s = tgsS ts ds s := Eq.trans rfl rfl
theorem tgsS_nil (s : S) : tgsS [] [] s = .ok () s := Eq.trans rfl rfl
theorem tgsS_cons (i : Nat) (ts : List (D → M Unit)) (d : D) (ds : List D) (s : S) : tgsS (tgN i :: ts) (d :: ds) s = tgsS ts ds ⟨s.rhz.set i (.d d), s.muz⟩ := Eq.trans rfl rfl
def kAsg (tg : D → M Unit) : D → S → O Fl := fun d s => if sto d then (tg d s).bind fun _ s2 => .ok .nx s2 else .st
def kAsgB (tg : D → M Unit) (d : D) (s : S) : Bool → O Fl
  | true => (tg d s).bind fun _ s2 => .ok .nx s2
  | false => .st
theorem asgS_ap (tg : D → M Unit) : asgS f tg s = (f s).bind (kAsg tg) := Eq.trans rfl rfl
theorem kAsg_ap (tg : D → M Unit) (d : D) (s : S) : kAsg tg d s = kAsgB tg d s (sto d) := by unfold kAsg kAsgB; cases sto d <;> rfl
theorem kAsgB_t (tg : D → M Unit) (d : D) (s : S) : kAsgB tg d s true = (tg d s).bind fun _ s2 => .ok .nx s2 := Eq.trans rfl rfl
theorem negD_int (s : S) (a : Int) : negD s (.int a) = some (.int (-a)) := Eq.trans rfl rfl
theorem ix_t0 (s : S) (a : D) (l : List D) : ixA s (.tup (a :: l)) (.int 0) = some a := by
  show atI (a :: l) 0 = some a
  rw [atI_ok _ _ (by omega) (by simp only [List.length_cons]; omega)]
  rfl
theorem ix_t1 (s : S) (a b : D) (l : List D) : ixA s (.tup (a :: b :: l)) (.int 1) = some b := by
  show atI (a :: b :: l) 1 = some b
  rw [atI_ok _ _ (by omega) (by simp only [List.length_cons]; omega)]
  rfl
theorem ix_l0 (s : S) (a : D) (l : List D) : ixA s (.lst (a :: l)) (.int 0) = some a := ix_t0 s a l
theorem len_tup (s : S) (l : List D) : lenD s [.tup l] = some (.int l.length) := Eq.trans rfl rfl
theorem runD_non {n a : Nat} {body : M Fl} {ds : List D} {muz : List MO} {s : S} (hl : ds.length = a) (h : body ⟨ds.map .d ++ List.replicate (n - a) .un, muz⟩ = .ok .nx s) : runD n a body ds muz = .ok .non s.muz := by
  unfold runD
  rw [if_pos hl, h]
theorem sIx_m1 (n d : Nat) : HT.sIx n d (some (-1)) = n - 1 := by
  show (if (-1 : Int) < 0 then ((-1 : Int) + (n : Int)).toNat else min (-1 : Int).toNat n) = n - 1
  rw [if_pos (by omega)]
  omega
theorem cut_init {α : Type} (l : List α) : cutL l none (some (-1)) = l.dropLast := by
  unfold cutL
  rw [HT.sIx_none, sIx_m1, List.drop_zero, Nat.sub_zero, List.dropLast_eq_take]
theorem slD_tup (s : S) (l : List D) (a b : Option Int) : slD s (.tup l) a b = some (.tup (cutL l a b)) := Eq.trans rfl rfl
theorem slD_lst (s : S) (l : List D) (a b : Option Int) : slD s (.lst l) a b = some (.lst (cutL l a b)) := Eq.trans rfl rfl
end
end AG
set_option Elab.async false
set_option linter.all false
set_option maxRecDepth 100000
set_option exponentiation.threshold 4000
namespace AG
open PySem L2
section
variable {s : S} {f g h : M D} {ga : M (List D)}
theorem isCS_ap (c : Nat) (s : S) : isCS c f s = (f s).bind (kU (isiC c)) := by
  show unS (isiC c) f s = _
  rw [unS_ap]
theorem isiC_ins (c : Nat) (s : S) (fs : List (Str × D)) : isiC c s (.ins c fs) = some (.bl true) := by
  show (if c = c then some (D.bl true) else none) = _
  rw [if_pos rfl]
theorem isiC_tup (c : Nat) (s : S) (l : List D) : isiC c s (.tup l) = some (.bl false) := Eq.trans rfl rfl
theorem isiC_non (c : Nat) (s : S) : isiC c s .non = some (.bl false) := Eq.trans rfl rfl
theorem fld_ins (c : Nat) (n : Str) (s : S) (fs : List (Str × D)) : fldD [c] n s (.ins c fs) = fs.lookup n := by
  show (if c ∈ [c] then fs.lookup n else none) = _
  rw [if_pos (List.mem_singleton.mpr rfl)]
def kFp2 (cs : List Nat) (f : Str) (z : D) : D → S → O Fl := fun x s2 => match mi? s2 x with
  | some (c, fs, put) => if sto z && decide (c ∈ cs) && decide (fs.length < 1000) then .ok .nx (put (putFD f z fs)) else .st
  | none => .st
def kFp1 (cs : List Nat) (f : Str) (fo : M D) : D → S → O Fl := fun z s1 => (fo s1).bind (kFp2 cs f z)
theorem fputS_ap (cs : List Nat) (n : Str) (fv fo : M D) (s : S) : fputS cs n fv fo s = (fv s).bind (kFp1 cs n fo) := Eq.trans rfl rfl
theorem kFp1_ap (cs : List Nat) (n : Str) (fo : M D) (z : D) (s : S) : kFp1 cs n fo z s = (fo s).bind (kFp2 cs n z) := Eq.trans rfl rfl
theorem kFp2_at {c : Nat} {n : Str} {z : D} {rhz : List SV} {muz : List MO} {i : Nat} {fs : List (Str × D)} (hi : muz[i]? = some (.mi c fs)) (hz : sto z = true) (hl : fs.length < 1000) : kFp2 [c] n z (.hnd i) ⟨rhz, muz⟩ = .ok .nx ⟨rhz, muz.set i (.mi c (putFD n z fs))⟩ := by
  unfold kFp2 mi?
  simp only [hi]
  rw [if_pos (by simp [hz, hl])]
def kMk (c : Nat) (call : List D → List MO → R) : List D → S → O MO := fun ds s1 => if ds.all sto then match call (.hnd s1.muz.length :: ds) (s1.muz ++ [.mi c []]) with
  | .ok .non muz => (match cutM s1.muz.length muz, muz[s1.muz.length]? with
    | some muz1, some m => if noHM s1.muz.length m then .ok m { s1 with muz := muz1 } else .st
    | _, _ => .st)
  | .err e muz => (match cutM s1.muz.length muz, muz[s1.muz.length]? with
    | some muz1, some m => if noHM s1.muz.length m then .err e { s1 with muz := muz1 } else .st
    | _, _ => .st)
  | _ => .st
  else .st
theorem makeF_ap (c : Nat) (call : List D → List MO → R) (ga : M (List D)) (s : S) : makeF c call ga s = (ga s).bind (kMk c call) := Eq.trans rfl rfl
theorem kMk_ok {c : Nat} {call : List D → List MO → R} {ds : List D} {rhz : List SV} {muz : List MO} {m : MO} (hs : ds.all sto = true) (hc : call (.hnd muz.length :: ds) (muz ++ [.mi c []]) = .ok .non (muz ++ [m])) (h1 : muz.all (noHM muz.length) = true) (h2 : noHM muz.length m = true) :
    kMk c call ds ⟨rhz, muz⟩ = .ok m ⟨rhz, muz⟩ := by
  unfold kMk
  rw [if_pos hs]
  show (match call (.hnd muz.length :: ds) (muz ++ [.mi c []]) with
    | .ok .non muz' => (match cutM muz.length muz', muz'[muz.length]? with
      | some muz1, some m => if noHM muz.length m then O.ok m { rhz := rhz, muz := muz1 } else .st
      | _, _ => .st)
    | .err e muz' => _
    | _ => _) = _
  rw [hc]
  have e1 : cutM muz.length (muz ++ [m]) = some muz := by
    unfold cutM
    rw [if_pos ⟨by simp, by rw [List.take_left]; exact h1⟩, List.take_left]
  have e2 : (muz ++ [m])[muz.length]? = some m := by simp
  simp only [e1, e2, h2, if_true]
def kBl : D → S → O D := fun d s1 => match d with
  | .bl b => .ok (.bl b) s1
  | _ => .st
theorem blS_ap (s : S) : blS f s = (f s).bind kBl := Eq.trans rfl rfl
theorem kBl_ap (b : Bool) (s : S) : kBl (.bl b) s = .ok (.bl b) s := Eq.trans rfl rfl
def kO2b (c : Nat) (m : Str) (x : D) : D → S → O (List D) := fun y s2 => if (isOf c m s2 x && isOf c m s2 y) = true then .ok [x, y] s2 else .st
def kO2 (c : Nat) (m : Str) (g : M D) : D → S → O (List D) := fun x s1 => (g s1).bind (kO2b c m x)
theorem own2_ap (c : Nat) (m : Str) (s : S) : own2 c m f g s = (f s).bind (kO2 c m g) := Eq.trans rfl rfl
theorem kO2_ap (c : Nat) (m : Str) (x : D) (s : S) : kO2 c m g x s = (g s).bind (kO2b c m x) := Eq.trans rfl rfl
theorem lenE_lst (s : S) (l : List D) : lenE s [.lst l] = some (.int l.length) := Eq.trans rfl rfl
theorem lenE_tup (s : S) (l : List D) : lenE s [.tup l] = some (.int l.length) := Eq.trans rfl rfl
theorem lenE_set (s : S) (l : List D) (h : l.length ≤ LIM) : lenE s [.set l] = some (.int l.length) := by
  show (if l.length ≤ LIM then some (D.int l.length) else none) = _
  rw [if_pos h]
theorem listE_lst (s : S) (l : List D) : listE s [.lst l] = some (.ml l) := Eq.trans rfl rfl
theorem listE_tup (s : S) (l : List D) : listE s [.tup l] = some (.ml l) := Eq.trans rfl rfl
theorem listE_dct (s : S) (t : Bool) (l : List (D × D)) : listE s [.dct t l] = some (.ml (l.map (·.1))) := Eq.trans rfl rfl
theorem strsOf_tx2 : ∀ l : List Str, strsOf (txs l) = some l
  | [] => rfl
  | x :: l => by
    show (strsOf (txs l)).map _ = _
    rw [strsOf_tx2 l]
    rfl
theorem setD_tup (s : S) (l : List Str) (h : l.length ≤ 4000) : setD s [.tup (txs l)] = some (.set (txs (AGS.dist [] l))) := by
  show (match strsOf (txs l) with
    | some ts => if ts.length ≤ 4000 then some (D.set ((AGS.dist [] ts).map .str)) else none
    | none => none) = _
  rw [strsOf_tx2]
  show (if l.length ≤ 4000 then some (D.set ((AGS.dist [] l).map .str)) else none) = _
  rw [if_pos h]
  rfl
theorem okPy_strs (l : List Str) : okPy (l.map PyData.str) = true := by
  unfold okPy
  simp only [Bool.and_eq_true, Bool.or_eq_true, List.all_eq_true, decide_eq_true_eq]
  refine ⟨fun d hd e he => ?_, .inr fun d hd => ?_⟩
  · obtain ⟨a, _, rfl⟩ := List.mem_map.mp hd
    obtain ⟨b, _, rfl⟩ := List.mem_map.mp he
    exact ⟨rfl, Nat.zero_le _⟩
  · obtain ⟨a, _, rfl⟩ := List.mem_map.mp hd
    rfl
theorem leD_str (a b : Str) : leD (.str a) (.str b) = leT a b := by
  have h := congrFun (congrFun leT_eq a) b
  exact h
theorem srt_txs (l : List Str) : (txs l).mergeSort leD = txs (srtT l) := (List.map_mergeSort (r := leT) (s := leD) (f := D.str) (l := l) fun a _ b _ => (leD_str a b).symm).symm
theorem sort_tup (s : S) (l : List Str) (h : l.length ≤ LIM) : sortN s [.tup (txs l)] = some (.ml (txs (srtT l))) := by
  show (match pyL (txs l) with
    | some es => if okPy es && decide ((txs l).length ≤ LIM) then some (MO.ml ((txs l).mergeSort leD)) else none
    | none => none) = _
  have e : pyL (txs l) = some (l.map PyData.str) := py_strs l
  rw [e]
  show (if (okPy (l.map PyData.str) && decide ((txs l).length ≤ LIM)) = true then some (MO.ml ((txs l).mergeSort leD)) else none) = _
  rw [okPy_strs, txs_length, decide_eq_true h, srt_txs]
  rfl
theorem strD_str (s : S) (x : Str) : strD s [.str x] = some (.str x) := Eq.trans rfl rfl
theorem isB_ap (s : S) (a b : Bool) : isBD s (.bl a) (.bl b) = some (.bl (decide (a = b))) := Eq.trans rfl rfl
theorem isNotB_ap (s : S) (a b : Bool) : isNotBD s (.bl a) (.bl b) = some (.bl (!decide (a = b))) := Eq.trans rfl rfl
end
end AG
set_option Elab.async false
set_option linter.all false
set_option maxRecDepth 100000
namespace AG
open PySem L2 PyProof.Rows PySem.W
def tt (l : List Str) : D := .tup (txs l)
def tts (L : List (List Str)) : List D := L.map tt
end AG
set_option Elab.async false
set_option linter.all false
set_option maxRecDepth 100000
namespace AG
open PySem L2
end AG
set_option Elab.async false
set_option linter.all false
set_option maxRecDepth 100000
namespace AG
open PySem L2
theorem filter_sub {S b : List Str} (h : b.Sublist S) (nd : S.Nodup) : S.filter (fun x => decide (x ∈ b)) = b := by
  induction h with
  | slnil => rfl
  | @cons l1 l2 a h ih =>
    rw [List.nodup_cons] at nd
    have : a ∉ l1 := fun m => nd.1 (h.subset m)
    rw [List.filter_cons, if_neg (by simpa using this)]
    exact ih nd.2
  | @cons_cons l1 l2 a h ih =>
    rw [List.nodup_cons] at nd
    rw [List.filter_cons, if_pos (by simp)]
    congr 1
    rw [← ih nd.2]
    refine List.filter_congr fun x hx => ?_
    have e1 := ih nd.2
    by_cases q : x = a
    · subst q
      exact absurd hx nd.1
    · rw [e1]
      simp [q]
theorem sub_of {S a b : List Str} (ha : a.Sublist S) (hb : b.Sublist S) (nd : S.Nodup) (h : ∀ x ∈ a, x ∈ b) : a.Sublist b := by
  have e : a = b.filter (fun x => decide (x ∈ a)) := by
    rw [← filter_sub hb nd, List.filter_filter]
    conv => lhs; rw [← filter_sub ha nd]
    refine List.filter_congr fun x _ => ?_
    have e2 : S.filter (fun x => decide (x ∈ b)) = b := filter_sub hb nd
    by_cases q : x ∈ a
    · simp [q, h x q]
    · simp [q]
  rw [e]
  exact List.filter_sublist
end AG
set_option Elab.async false
set_option linter.all false
namespace AG.Wd
section
variable {α : Type}
def wd (b r : List α) (i : Nat) : Option α := if i < b.length then b[i]? else r[(i - b.length) % r.length]?
def Per (r : List α) (g : Nat) : Prop := ∀ i, r[(i + g) % r.length]? = r[i % r.length]?
def Prim (r : List α) : Prop := ∀ g, 0 < g → g < r.length → g ∣ r.length → ¬ Per r g
theorem Per.self (r : List α) : Per r r.length := fun i => by rw [Nat.add_mod_right]
theorem Per.mul {r : List α} {g : Nat} (h : Per r g) : ∀ k, Per r (k * g)
  | 0 => fun i => by simp
  | k + 1 => fun i => by
    rw [Nat.succ_mul, ← Nat.add_assoc, h (i + k * g), h.mul k i]
theorem Per.sub {r : List α} {g k : Nat} (hg : Per r (g + k)) (hk : Per r k) : Per r g := fun i => by
  rw [← hk (i + g), Nat.add_assoc, hg i]
theorem Per.gcd {r : List α} : ∀ {g k : Nat}, Per r g → Per r k → Per r (Nat.gcd g k) := by
  intro g
  induction g using Nat.strongRecOn with
  | ind g ih =>
    intro k hg hk
    cases g with
    | zero => rw [Nat.gcd_zero_left]; exact hk
    | succ g =>
      rw [Nat.gcd_succ]
      refine ih (k % (g + 1)) (Nat.mod_lt _ (Nat.succ_pos _)) ?_ hg
      have e := Nat.mod_add_div k (g + 1)
      have hm := hg.mul (k / (g + 1))
      rw [Nat.mul_comm] at hm
      exact Per.sub (by rw [e]; exact hk) hm
theorem Prim.le {r : List α} (h : Prim r) (hr : r ≠ []) {g : Nat} (g0 : 0 < g) (hg : Per r g) : r.length ∣ g := by
  have r0 : 0 < r.length := List.length_pos_iff.mpr hr
  have hp := Per.gcd hg (Per.self r)
  have d1 : Nat.gcd g r.length ∣ r.length := Nat.gcd_dvd_right _ _
  have p0 : 0 < Nat.gcd g r.length := Nat.gcd_pos_of_pos_left _ g0
  by_cases hl : Nat.gcd g r.length < r.length
  · exact absurd hp (h _ p0 hl d1)
  · have e : Nat.gcd g r.length = r.length := Nat.le_antisymm (Nat.le_of_dvd r0 d1) (by omega)
    rw [← e]
    exact Nat.gcd_dvd_left _ _
end
end AG.Wd
set_option Elab.async false
set_option linter.all false
set_option maxRecDepth 100000
set_option exponentiation.threshold 4000
namespace AG
open PySem L2 AG.Wd
structure Rn (n m : Nat) (b r : List Str) : Prop where
  nb : ∀ x ∈ b, Nm x
  nr : ∀ x ∈ r, Nm x
  ne : r ≠ []
  bl : b.length ≤ n
  rl : r.length ≤ m
theorem Rn.le {n m n' m' : Nat} {b r : List Str} (h : Rn n m b r) (l : n ≤ n') (k : m ≤ m') : Rn n' m' b r := ⟨h.nb, h.nr, h.ne, Nat.le_trans h.bl l, Nat.le_trans h.rl k⟩
noncomputable abbrev isNameS : M Fl := (seqS (ifS (tOrS (tNotS (tstS (isiS "str" (varS 0)))) (tNotS (tstS (chainS (cmpI fun i j => decide (i ≤ j)) (cmpI fun i j => decide (i ≤ j)) (cS (.int 1)) (callV lenD (consS (varS 0) nilS)) (cS (.int 6)))))) (retS (cS (.bl false))) nxS)
    (retS (callV allD (consS (frzS (lcF (itStr (varS 0)) (tgN 1) yesS (binS inA (varS 1) (cS (.str "abcdefghijklmnopqrstuvwxyz"))) [1])) nilS))))
theorem let_in : ∀ c, 97 ≤ c → c ≤ 122 → ∀ s, inA s (.str (sgn c)) (.str LET) = some (.bl true) := by
  have h : (List.range 26).all (fun v => !(Builtin.Str.occurrences LET (sgn (97 + v)) 0 LET.length 1).isEmpty) = true := by decide +kernel
  intro c c1 c2 s
  have z := List.all_eq_true.mp h (c - 97) (List.mem_range.mpr (by omega))
  rw [show 97 + (c - 97) = c by omega] at z
  show some (D.bl (!(Builtin.Str.occurrences LET (sgn c) 0 LET.length 1).isEmpty)) = _
  rw [z]
theorem bls_true : ∀ l : List D, blsOf (l.map fun _ => D.bl true) = some (l.map fun _ => true)
  | [] => rfl
  | x :: l => by rw [List.map_cons, blsOf, bls_true l]; rfl
theorem all_true (s : S) (l : List D) : allD s [.lst (l.map fun _ => D.bl true)] = some (.bl true) := by
  show (blsOf _).map _ = _
  rw [bls_true]
  simp
def IsName (c : List D → List MO → R) : Prop := ∀ (x : Str) (muz : List MO), Nm x → c [.str x] muz = .ok (.bl true) muz
theorem isi_str (s : S) (x : Str) : isiD "str" s (.str x) = some (.bl true) := Eq.trans rfl rfl
theorem isi_tup (s : S) (x : List D) : isiD "tuple" s (.tup x) = some (.bl true) := Eq.trans rfl rfl
theorem isName_ok : IsName (runD 2 1 isNameS) := by
  intro x muz hx
  refine runD_eq (s := ⟨[.d (.str x), .un], muz⟩) rfl ?_
  have el : ∀ s, lenD s [.str x] = some (.int x.length) := fun s => lenD_nm s hx
  have h1 : decide ((1 : Int) ≤ (x.length : Int)) = true := decide_eq_true (by have := hx.pos; omega)
  have h2 : decide ((x.length : Int) ≤ 6) = true := decide_eq_true (by have := hx.few; omega)
  have lc := kLc_pure (i := 1) (c := yesS) (e := binS inA (varS 1) (cS (.str "abcdefghijklmnopqrstuvwxyz"))) (rhz := [.d (.str x), .un]) (ds := x.cps.toList.map fun c => D.str ⟨#[c]⟩) (muz := muz) (fun _ => true) (fun _ => .bl true) (by simp) rfl (fun _ _ => yesS_ap _) (fun d hd _ => by
    obtain ⟨c, hc, rfl⟩ := List.mem_map.mp hd
    obtain ⟨c1, c2⟩ := hx.low c hc
    refine ⟨?_, rfl⟩
    have e := let_in c c1 c2
    unfold sgn at e
    have eL : (Str.ofString "abcdefghijklmnopqrstuvwxyz") = LET := rfl
    simp only [seqS_ap, setS_ap, retS_ap, ifS_ap, iteS_ap, tstS_ap, tNotS_ap, tAndS_ap, tOrS_ap, andS_ap, orS_ap, notS_ap, binS_ap, unS_ap, callF_ap, callV_ap, callN_ap, consS_ap, nilS_ap, tupS_ap, lstF_ap, frzS_ap, ownS_ap, exS_ap, cS_ap, varS_ap, parA_ap, parS_inl, parS_inr, parS_nil, forS_ap, itRng_ap, itRng2_ap, itS_ap, itStr_ap, lcF_ap, slS_ap, slF_ap, noPartS_ap, partS_ap, isiS_ap, chainS_ap, nxS_ap, bkS_ap, ctS_ap, yesS_ap, orT_ap, appS_ap, popAtS_ap, dputS_ap, lputS_ap, hndS_ap, m1S_ap, asgS_ap, O.bind_ok, kVar_d, kVar_own, kB1_ap, kB2_ap, kU_ap, kAnd_t, kAnd_f, kOr_t, kOr_f, kNot_ap, kTst_ap, kTAnd_t, kTAnd_f, kTOr_t, kTOr_f, kTNot_ap, kIte_t, kIte_f, kC0_ap, kC1_ap, kC1'_t, kC1'_f, kC2_ap, kCons_ap, kCons2_ap, kTup_0, kTup_1, kTup_2, kTupB_t, kLst_0, kLst_1, kLstB_t, kFrz_ap, kCv_ap, kCn_ap, ofO_some, ofN_some, kEx_ap, kSet_ap, kSetB_t, kOwn_ap, kRet_non, kRet_bl, kRet_int, kRet_str, kRet_tup, kRet_lst, kRet_hnd, kRet_dct, kRet_ins, kRet_loc, kRet1_ap, kSeq_nx, kSeq_rt, kSeq_bk, kSeq_ct, kIt_ap, kIts_ap, seqD_lst, seqD_tup, seqD_scr, kFor_ap, tgN_ap, tgT_ap, tgsS_nil, tgsS_cons, kSl_ap, kSl1_ap, kSl2_ap, kSlF_ap, kSlF1_ap, kPart_ap, kPd_ap, kPdB_t, kPm_ap, kPc_ap, kPar_ap, putP_d, putP_m, putP_0, kHnd_ap, frzD, kAsg_ap, kAsgB_t, sto_non, sto_bl, sto_int, sto_str, sto_tup, sto_lst, sto_dct, sto_ins, sto_hnd, sto_scr, Bool.and_self, Bool.not_true, Bool.not_false, List.getElem?_cons_zero, List.getElem?_cons_succ, List.set_cons_succ, List.set_cons_zero, kM1_ap, kM1b_ap, kOrT_ap, kOrT1_t, kOrT1_f, eqD_ap, neD_ap, Option.map_some, addD_int, subD_int, gtD_int, ltD_int, cmpI_int, intD_int, intD_bl, negD_int, kStr_ap, kLput_ap, kLput1_ap, decide_true, decide_false, eL, e]) (by rw [List.length_map, ← len_tl]; exact Nat.le_trans hx.few (by decide))
  have et : (List.filter (fun _ => true) (x.cps.toList.map fun c => D.str ⟨#[c]⟩)) = (x.cps.toList.map fun c => D.str ⟨#[c]⟩) := List.filter_eq_self.mpr (by simp)
  rw [et] at lc
  show isNameS ⟨[.d (.str x), .un], muz⟩ = _
  simp only [isNameS, seqS_ap, setS_ap, retS_ap, ifS_ap, iteS_ap, tstS_ap, tNotS_ap, tAndS_ap, tOrS_ap, andS_ap, orS_ap, notS_ap, binS_ap, unS_ap, callF_ap, callV_ap, callN_ap, consS_ap, nilS_ap, tupS_ap, lstF_ap, frzS_ap, ownS_ap, exS_ap, cS_ap, varS_ap, parA_ap, parS_inl, parS_inr, parS_nil, forS_ap, itRng_ap, itRng2_ap, itS_ap, itStr_ap, lcF_ap, slS_ap, slF_ap, noPartS_ap, partS_ap, isiS_ap, chainS_ap, nxS_ap, bkS_ap, ctS_ap, yesS_ap, orT_ap, appS_ap, popAtS_ap, dputS_ap, lputS_ap, hndS_ap, m1S_ap, asgS_ap, O.bind_ok, kVar_d, kVar_own, kB1_ap, kB2_ap, kU_ap, kAnd_t, kAnd_f, kOr_t, kOr_f, kNot_ap, kTst_ap, kTAnd_t, kTAnd_f, kTOr_t, kTOr_f, kTNot_ap, kIte_t, kIte_f, kC0_ap, kC1_ap, kC1'_t, kC1'_f, kC2_ap, kCons_ap, kCons2_ap, kTup_0, kTup_1, kTup_2, kTupB_t, kLst_0, kLst_1, kLstB_t, kFrz_ap, kCv_ap, kCn_ap, ofO_some, ofN_some, kEx_ap, kSet_ap, kSetB_t, kOwn_ap, kRet_non, kRet_bl, kRet_int, kRet_str, kRet_tup, kRet_lst, kRet_hnd, kRet_dct, kRet_ins, kRet_loc, kRet1_ap, kSeq_nx, kSeq_rt, kSeq_bk, kSeq_ct, kIt_ap, kIts_ap, seqD_lst, seqD_tup, seqD_scr, kFor_ap, tgN_ap, tgT_ap, tgsS_nil, tgsS_cons, kSl_ap, kSl1_ap, kSl2_ap, kSlF_ap, kSlF1_ap, kPart_ap, kPd_ap, kPdB_t, kPm_ap, kPc_ap, kPar_ap, putP_d, putP_m, putP_0, kHnd_ap, frzD, kAsg_ap, kAsgB_t, sto_non, sto_bl, sto_int, sto_str, sto_tup, sto_lst, sto_dct, sto_ins, sto_hnd, sto_scr, Bool.and_self, Bool.not_true, Bool.not_false, List.getElem?_cons_zero, List.getElem?_cons_succ, List.set_cons_succ, List.set_cons_zero, kM1_ap, kM1b_ap, kOrT_ap, kOrT1_t, kOrT1_f, eqD_ap, neD_ap, Option.map_some, addD_int, subD_int, gtD_int, ltD_int, cmpI_int, intD_int, intD_bl, negD_int, kStr_ap, kLput_ap, kLput1_ap, decide_true, decide_false, isi_str, el, h1, h2, lc, all_true]
end AG
set_option Elab.async false
set_option linter.all false
set_option maxRecDepth 100000
set_option exponentiation.threshold 4000
namespace AG
open PySem L2
def kDc (b : Bool) (tg : D → M Unit) (c : M Bool) (kk vv : M D) (vs : List Nat) : List D → S → O MO := fun ds s1 => if vs.any (fun v => isOwn (s1.rhz.getD v .un)) then .st else match dcL b tg c kk vv vs ds [] { s1 with rhz := wipeR s1.rhz vs } with
    | .ok acc s2 => .ok (.md b acc) { s2 with rhz := backR s1.rhz s2.rhz vs }
    | _ => .st
theorem dcF_ap (b : Bool) (it : M (List D)) (tg : D → M Unit) (c : M Bool) (kk vv : M D) (vs : List Nat) (s : S) : dcF b it tg c kk vv vs s = (it s).bind (kDc b tg c kk vv vs) := Eq.trans rfl rfl
def kKs : List D → S → O MO := fun xs s1 => match xs with
  | [x] => (match vw s1 x with
    | .lst l => if l.all isTT && decide (l.length ≤ LIM) then .ok (.ml (l.mergeSort leK)) s1 else .st
    | _ => .st)
  | _ => .st
theorem keySortF_ap (ga : M (List D)) (s : S) : keySortF ga s = (ga s).bind kKs := Eq.trans rfl rfl
def kz (acc : List (List Str)) : List (D × D) := acc.map fun l => (tt l, D.bl true)
theorem tupleD_lst (s : S) (l : List D) : tupleD s [.lst l] = some (.tup l) := Eq.trans rfl rfl
end AG
set_option Elab.async false
set_option linter.all false
set_option maxRecDepth 100000
set_option exponentiation.threshold 4000
namespace AG
open PySem L2
end AG
set_option Elab.async false
set_option linter.all false
set_option maxRecDepth 100000
set_option exponentiation.threshold 4000
namespace AG
open PySem L2
theorem inT_txs {s : S} {fd : List Str} {w : Str} (hl : Lay fd) (hw : PyData.canLay0 (.str w) = true) : inA s (.str w) (.tup (txs fd)) = some (.bl (decide (w ∈ fd))) := by
  have sw : SeqAt.shaped (.str w) = true := by unfold SeqAt.shaped; simp [hw, PyData.depth]
  have e1 : inB s (.str w) (.tup (txs fd)) = some (decide (w ∈ fd)) := by
    unfold inB
    simp only [vw, pyOf, pyL_txs, sw, shaped_tup hl, Bool.and_self, if_true, any_txs]
  show (inB s (.str w) (.tup (txs fd))).map D.bl = _
  rw [e1]
  rfl
theorem dist_nd : ∀ (l acc : List Str), (acc ++ l).Nodup → AGS.dist acc l = acc ++ l
  | [], acc, _ => by simp [AGS.dist]
  | x :: l, acc, h => by
    have hx : x ∉ acc := fun m => by
      rw [List.nodup_append] at h
      exact h.2.2 x m x List.mem_cons_self rfl
    unfold AGS.dist AGS.ins
    rw [if_neg hx, dist_nd l (acc ++ [x]) (by simpa using h)]
    simp
theorem dist_id {l : List Str} (h : l.Nodup) : AGS.dist [] l = l := dist_nd l [] (by simpa using h)
structure Sg (l : List Str) : Prop where
  nm : ∀ x ∈ l, Nm x
  nd : l.Nodup
  ne : l ≠ []
  few : l.length ≤ 5
theorem Sg.lay {l : List Str} (h : Sg l) : Lay l := fun x hx => (h.nm x hx).lay
noncomputable abbrev areSignalsS (c0 : List D → List MO → R) : M Fl := (seqS (ifS (tOrS (tNotS (tstS (isiS "tuple" (varS 0)))) (tNotS (tstS (chainS (cmpI fun i j => decide (i ≤ j)) (cmpI fun i j => decide (i ≤ j)) (cS (.int 1)) (callV lenE (consS (varS 0) nilS)) (cS (.int 5)))))) (retS (cS (.bl false))) nxS)
    (retS (andS (callV allD (consS (frzS (lcF (itS (varS 0)) (tgN 1) yesS (callF c0 (consS (varS 1) nilS)) [1])) nilS)) (binS eqD (callV lenE (consS (callV setD (consS (varS 0) nilS)) nilS)) (callV lenE (consS (varS 0) nilS))))))
def AreSignals (c : List D → List MO → R) : Prop := ∀ (l : List Str) (muz : List MO), Sg l → c [.tup (txs l)] muz = .ok (.bl true) muz
theorem areSignals_ok {c0 : List D → List MO → R} (h0 : IsName c0) : AreSignals (runD 2 1 (areSignalsS c0)) := by
  intro l muz hl
  refine runD_eq (s := ⟨[.d (.tup (txs l)), .un], muz⟩) rfl ?_
  have few := hl.few
  have pos := List.length_pos_iff.mpr hl.ne
  have lc := kLc_pure (i := 1) (c := yesS) (e := callF c0 (consS (varS 1) nilS)) (rhz := [.d (.tup (txs l)), .un]) (ds := txs l) (muz := muz) (fun _ => true) (fun _ => .bl true) (by simp) rfl (fun _ _ => yesS_ap _) (fun d hd _ => by
    unfold txs at hd
    obtain ⟨x, hx, rfl⟩ := List.mem_map.mp hd
    refine ⟨?_, rfl⟩
    have e : ∀ rhz, kCall c0 [.str x] ⟨rhz, muz⟩ = .ok (.bl true) ⟨rhz, muz⟩ := fun rhz => kCall_eq (h0 x muz (hl.nm x hx)) rfl
    simp only [seqS_ap, setS_ap, retS_ap, ifS_ap, iteS_ap, tstS_ap, tNotS_ap, tAndS_ap, tOrS_ap, andS_ap, orS_ap, notS_ap, binS_ap, unS_ap, callF_ap, callV_ap, callN_ap, consS_ap, nilS_ap, tupS_ap, lstF_ap, frzS_ap, ownS_ap, exS_ap, cS_ap, varS_ap, parA_ap, parS_inl, parS_inr, parS_nil, forS_ap, itRng_ap, itRng2_ap, itS_ap, itStr_ap, lcF_ap, slS_ap, slF_ap, noPartS_ap, partS_ap, isiS_ap, chainS_ap, nxS_ap, bkS_ap, ctS_ap, yesS_ap, orT_ap, appS_ap, popAtS_ap, dputS_ap, lputS_ap, hndS_ap, m1S_ap, asgS_ap, O.bind_ok, kVar_d, kVar_own, kB1_ap, kB2_ap, kU_ap, kAnd_t, kAnd_f, kOr_t, kOr_f, kNot_ap, kTst_ap, kTAnd_t, kTAnd_f, kTOr_t, kTOr_f, kTNot_ap, kIte_t, kIte_f, kC0_ap, kC1_ap, kC1'_t, kC1'_f, kC2_ap, kCons_ap, kCons2_ap, kTup_0, kTup_1, kTup_2, kTupB_t, kLst_0, kLst_1, kLstB_t, kFrz_ap, kCv_ap, kCn_ap, ofO_some, ofN_some, kEx_ap, kSet_ap, kSetB_t, kOwn_ap, kRet_non, kRet_bl, kRet_int, kRet_str, kRet_tup, kRet_lst, kRet_hnd, kRet_dct, kRet_ins, kRet_loc, kRet1_ap, kSeq_nx, kSeq_rt, kSeq_bk, kSeq_ct, kIt_ap, kIts_ap, seqD_lst, seqD_tup, seqD_scr, kFor_ap, tgN_ap, tgT_ap, tgsS_nil, tgsS_cons, kSl_ap, kSl1_ap, kSl2_ap, kSlF_ap, kSlF1_ap, kPart_ap, kPd_ap, kPdB_t, kPm_ap, kPc_ap, kPar_ap, putP_d, putP_m, putP_0, kHnd_ap, frzD, kAsg_ap, kAsgB_t, sto_non, sto_bl, sto_int, sto_str, sto_tup, sto_lst, sto_dct, sto_ins, sto_hnd, sto_scr, Bool.and_self, Bool.not_true, Bool.not_false, List.getElem?_cons_zero, List.getElem?_cons_succ, List.set_cons_succ, List.set_cons_zero, kM1_ap, kM1b_ap, kOrT_ap, kOrT1_t, kOrT1_f, eqD_ap, neD_ap, Option.map_some, addD_int, subD_int, gtD_int, ltD_int, cmpI_int, intD_int, intD_bl, negD_int, kStr_ap, kLput_ap, kLput1_ap, decide_true, decide_false, e]) (by rw [txs_length]; unfold LIM; omega)
  have et : (List.filter (fun _ => true) (txs l)) = txs l := List.filter_eq_self.mpr (by simp)
  rw [et] at lc
  have h1 : decide ((1 : Int) ≤ (l.length : Nat)) = true := decide_eq_true (by omega)
  have h2 : decide (((l.length : Nat) : Int) ≤ 5) = true := decide_eq_true (by omega)
  have sd : ∀ s, setD s [.tup (txs l)] = some (.set (txs l)) := fun s => by rw [setD_tup s l (by omega), dist_id hl.nd]
  have ls : ∀ s, lenE s [.set (txs l)] = some (.int l.length) := fun s => by rw [lenE_set s (txs l) (by rw [txs_length]; unfold LIM; omega), txs_length]
  have lt : ∀ s, lenE s [.tup (txs l)] = some (.int l.length) := fun s => by rw [lenE_tup, txs_length]
  have eq : ∀ s, eqB s (.int (l.length : Nat)) (.int (l.length : Nat)) = some true := fun s => by rw [eqB_int]; simp
  show areSignalsS c0 ⟨[.d (.tup (txs l)), .un], muz⟩ = _
  simp only [areSignalsS, seqS_ap, setS_ap, retS_ap, ifS_ap, iteS_ap, tstS_ap, tNotS_ap, tAndS_ap, tOrS_ap, andS_ap, orS_ap, notS_ap, binS_ap, unS_ap, callF_ap, callV_ap, callN_ap, consS_ap, nilS_ap, tupS_ap, lstF_ap, frzS_ap, ownS_ap, exS_ap, cS_ap, varS_ap, parA_ap, parS_inl, parS_inr, parS_nil, forS_ap, itRng_ap, itRng2_ap, itS_ap, itStr_ap, lcF_ap, slS_ap, slF_ap, noPartS_ap, partS_ap, isiS_ap, chainS_ap, nxS_ap, bkS_ap, ctS_ap, yesS_ap, orT_ap, appS_ap, popAtS_ap, dputS_ap, lputS_ap, hndS_ap, m1S_ap, asgS_ap, O.bind_ok, kVar_d, kVar_own, kB1_ap, kB2_ap, kU_ap, kAnd_t, kAnd_f, kOr_t, kOr_f, kNot_ap, kTst_ap, kTAnd_t, kTAnd_f, kTOr_t, kTOr_f, kTNot_ap, kIte_t, kIte_f, kC0_ap, kC1_ap, kC1'_t, kC1'_f, kC2_ap, kCons_ap, kCons2_ap, kTup_0, kTup_1, kTup_2, kTupB_t, kLst_0, kLst_1, kLstB_t, kFrz_ap, kCv_ap, kCn_ap, ofO_some, ofN_some, kEx_ap, kSet_ap, kSetB_t, kOwn_ap, kRet_non, kRet_bl, kRet_int, kRet_str, kRet_tup, kRet_lst, kRet_hnd, kRet_dct, kRet_ins, kRet_loc, kRet1_ap, kSeq_nx, kSeq_rt, kSeq_bk, kSeq_ct, kIt_ap, kIts_ap, seqD_lst, seqD_tup, seqD_scr, kFor_ap, tgN_ap, tgT_ap, tgsS_nil, tgsS_cons, kSl_ap, kSl1_ap, kSl2_ap, kSlF_ap, kSlF1_ap, kPart_ap, kPd_ap, kPdB_t, kPm_ap, kPc_ap, kPar_ap, putP_d, putP_m, putP_0, kHnd_ap, frzD, kAsg_ap, kAsgB_t, sto_non, sto_bl, sto_int, sto_str, sto_tup, sto_lst, sto_dct, sto_ins, sto_hnd, sto_scr, Bool.and_self, Bool.not_true, Bool.not_false, List.getElem?_cons_zero, List.getElem?_cons_succ, List.set_cons_succ, List.set_cons_zero, kM1_ap, kM1b_ap, kOrT_ap, kOrT1_t, kOrT1_f, eqD_ap, neD_ap, Option.map_some, addD_int, subD_int, gtD_int, ltD_int, cmpI_int, intD_int, intD_bl, negD_int, kStr_ap, kLput_ap, kLput1_ap, decide_true, decide_false, isi_tup, lt, h1, h2, lc, all_true, sd, ls, eq, sto]
structure St (l t : List Str) : Prop where
  ne : t ≠ []
  mem : ∀ x ∈ t, x ∈ l
  nd : t.Nodup
  asc : srtT t = t
end AG
set_option Elab.async false
set_option linter.all false
set_option maxRecDepth 100000
set_option exponentiation.threshold 4000
namespace AG
open PySem L2
def Fine (muz : List MO) : Prop := muz.all (noHM muz.length) = true
theorem noHL_txs (n : Nat) : ∀ l : List Str, noHL n (txs l) = true
  | [] => rfl
  | x :: l => by
    show (noH n (.str x) && noHL n (txs l)) = true
    rw [noHL_txs n l]
    rfl
end AG
set_option Elab.async false
set_option linter.all false
set_option maxRecDepth 100000
set_option exponentiation.threshold 4000
namespace AG
open PySem L2
end AG
set_option Elab.async false
set_option linter.all false
set_option maxRecDepth 100000
set_option exponentiation.threshold 4000
namespace AG
open PySem L2
end AG
namespace AG
open PySem L2
end AG
set_option Elab.async false
set_option linter.all false
set_option maxRecDepth 100000
set_option exponentiation.threshold 4000
namespace AG
open PySem L2
theorem eqB_bls (s : S) (a b : Bool) : eqB s (.bl a) (.bl b) = some (decide (a = b)) := Eq.trans rfl rfl
end AG
set_option Elab.async false
set_option linter.all false
set_option maxRecDepth 100000
set_option exponentiation.threshold 4000
namespace AG
open PySem L2
end AG
set_option Elab.async false
set_option linter.all false
set_option maxRecDepth 100000
set_option exponentiation.threshold 4000
namespace AG
open PySem L2
theorem eqB_ints (s : S) (a b : Int) : eqB s (.int a) (.int b) = some (decide (a = b)) := Eq.trans rfl rfl
theorem Sg.sub {S t : List Str} (h : Sg S) (ht : t.Sublist S) (ne : t ≠ []) : Sg t := ⟨fun x hx => h.nm x (ht.subset hx), h.nd.sublist ht, ne, Nat.le_trans ht.length_le h.few⟩
end AG
set_option Elab.async false
set_option linter.all false
set_option maxRecDepth 100000
set_option exponentiation.threshold 4000
namespace AG
open PySem L2
theorem pyL_map {α : Type} {f : α → D} {q : α → PyData} : ∀ L : List α, (∀ x ∈ L, pyOf (f x) = some (q x)) → pyL (L.map f) = some (L.map q)
  | [], _ => rfl
  | x :: L, h => by
    simp only [List.map_cons, pyL, h x List.mem_cons_self, pyL_map L fun y hy => h y (List.mem_cons_of_mem _ hy)]
theorem lays_map {α : Type} {q : α → PyData} : ∀ L : List α, (∀ x ∈ L, PyData.canLay0 (q x) = true) → PyData.canLayAll0 (L.map q) = true
  | [], _ => rfl
  | x :: L, h => by
    simp only [List.map_cons, PyData.canLayAll0, h x List.mem_cons_self, lays_map L fun y hy => h y (List.mem_cons_of_mem _ hy), Bool.and_self]
theorem depths_map {α : Type} {q : α → PyData} {k : Nat} : ∀ L : List α, (∀ x ∈ L, (q x).depth ≤ k) → PyData.depthAll (L.map q) ≤ k
  | [], _ => Nat.zero_le _
  | x :: L, h => by
    have h1 := h x List.mem_cons_self
    have h2 := depths_map L fun y hy => h y (List.mem_cons_of_mem _ hy)
    simp only [List.map_cons, PyData.depthAll]
    omega
end AG
set_option Elab.async false
set_option linter.all false
set_option maxRecDepth 100000
set_option exponentiation.threshold 4000
namespace AG
open PySem L2
end AG
set_option Elab.async false
set_option linter.all false
set_option maxRecDepth 100000
set_option exponentiation.threshold 4000
namespace AG
open PySem L2
theorem tts_length (L : List (List Str)) : (tts L).length = L.length := List.length_map ..
end AG
set_option Elab.async false
set_option linter.all false
set_option maxRecDepth 100000
set_option exponentiation.threshold 4000
namespace AG
open PySem L2
def kIdx2 (x : D) : D → S → O D := fun y s2 => match indexD s2 x y with
  | some d => .ok d s2
  | none => .st
def kIdx (g : M D) : D → S → O D := fun x s1 => match vw s1 x with
  | .lst _ => (g s1).bind (kIdx2 x)
  | _ => .st
theorem indexS_ap {f g : M D} (s : S) : indexS f g s = (f s).bind (kIdx g) := Eq.trans rfl rfl
theorem kIdx_lst {g : M D} (l : List D) (s : S) : kIdx g (.lst l) s = (g s).bind (kIdx2 (.lst l)) := Eq.trans rfl rfl
def ixT (l : List Str) (y : Str) : Nat := l.findIdx fun z => decide (z = y)
theorem modD_pos (s : S) (a : Int) {n : Int} (h : 0 < n) : modD s (.int a) (.int n) = some (.int (a % n)) := modD_int s a h
theorem eqB_len (s : S) (a b : Nat) : eqB s (.int a) (.int b) = some (decide (a = b)) := by
  rw [eqB_ints]
  congr 1
  rw [Bool.eq_iff_iff, decide_eq_true_iff, decide_eq_true_iff]
  omega
section
variable {cd cp cm cs ci : List D → List MO → R}
theorem mul_one_0 (s : S) (x : D) : mulE s (.lst [x]) (.int 0) = some (.lst []) := by
  show mulD s (.lst [x]) (.int 0) = _
  unfold mulD
  simp only [vw]
  rw [if_pos ⟨by decide, by decide, by simp⟩]
  rfl
theorem mul_one_1 (s : S) (x : D) : mulE s (.lst [x]) (.int 1) = some (.lst [x]) := by
  show mulD s (.lst [x]) (.int 1) = _
  unfold mulD
  simp only [vw]
  rw [if_pos ⟨by decide, by decide, by simp [LIM]⟩]
  rfl
end
end AG
set_option Elab.async false
set_option linter.all false
set_option maxRecDepth 100000
set_option exponentiation.threshold 4000
namespace AG
open PySem L2
def kFz (i : Nat) : Option SV → S → O Fl
  | some (.own m), s => .ok .nx ⟨s.rhz.set i (.d (frzD m)), s.muz⟩
  | _, s => .ok .nx s
theorem fzS_ap (i : Nat) (s : S) : fzS i s = kFz i s.rhz[i]? s := by
  unfold fzS kFz
  cases s.rhz[i]? with
  | none => rfl
  | some x => cases x <;> rfl
theorem kFz_own (i : Nat) (m : MO) (s : S) : kFz i (some (.own m)) s = .ok .nx ⟨s.rhz.set i (.d (frzD m)), s.muz⟩ := Eq.trans rfl rfl
end AG
set_option Elab.async false
set_option linter.all false
set_option maxRecDepth 100000
set_option exponentiation.threshold 4000
namespace AG
open PySem L2
def BW : Nat → Nat
  | 0 => 0
  | 1 => 60
  | 2 => 180
  | 3 => 800
  | 4 => 4600
  | _ => 34000
def bf (n k : Nat) : Nat := if k < n then BW k + 1 else 0
end AG
set_option Elab.async false
set_option linter.all false
set_option maxRecDepth 100000
namespace AG
open PySem L2
section
variable {f g : M D} {ga : M (List D)}
def kPerm (n : Nat) (p : List Nat) : List D → S → O (List D) := fun ds s1 => if ds.length = n then .ok (permL p ds) s1 else .st
theorem permS_ap (n : Nat) (p : List Nat) (s : S) : permS n p ga s = (ga s).bind (kPerm n p) := Eq.trans rfl rfl
theorem kPerm_2 (a b : D) (s : S) : kPerm 2 [1, 0] [a, b] s = .ok [b, a] s := Eq.trans rfl rfl
theorem kPerm_1 (a : D) (s : S) : kPerm 1 [0] [a] s = .ok [a] s := Eq.trans rfl rfl
def kIsE (es : List (Nat × Str)) (c : Nat) : D → S → O D := fun x s1 => match x with
  | .exc e => if (es.map (·.1)).contains e = true then .ok (.bl (decide (e = c))) s1 else .st
  | _ => .st
theorem isES_ap (es : List (Nat × Str)) (c : Nat) (s : S) : isES es c f s = (f s).bind (kIsE es c) := Eq.trans rfl rfl
theorem kIsE_ok (es : List (Nat × Str)) (c e : Nat) (s : S) (h : (es.map (·.1)).contains e = true) : kIsE es c (.exc e) s = .ok (.bl (decide (e = c))) s := by
  unfold kIsE
  simp only [h, if_true]
def kCnt2 (x : D) : D → S → O D := fun y s2 => match countD s2 x y with
  | some d => .ok d s2
  | none => .st
def kCnt (g : M D) : D → S → O D := fun x s1 => match vw s1 x with
  | .lst _ => (g s1).bind (kCnt2 x)
  | _ => .st
theorem countS_ap (s : S) : countS f g s = (f s).bind (kCnt g) := Eq.trans rfl rfl
theorem kCnt_lst (l : List D) (s : S) : kCnt g (.lst l) s = (g s).bind (kCnt2 (.lst l)) := Eq.trans rfl rfl
theorem kCnt2_eq (l : List D) (y d : D) (s : S) (h : countD s (.lst l) y = some d) : kCnt2 (.lst l) y s = .ok d s := by
  unfold kCnt2
  rw [h]
theorem count_bls (s : S) (bs : List Bool) (b : Bool) : countD s (.lst (bs.map .bl)) (.bl b) = some (.int (bs.countP fun x => decide (x = b) : Nat)) := by
  have e1 : pyL (bs.map .bl) = some (bs.map .bool) := pyL_map (f := D.bl) (q := PyData.bool) bs fun _ _ => rfl
  have sh : SeqAt.shaped (.list (bs.map .bool)) = true := by
    unfold SeqAt.shaped
    have h1 : PyData.canLayAll0 (bs.map .bool) = true := lays_map (q := PyData.bool) bs fun _ _ => rfl
    have h2 : PyData.depthAll (bs.map .bool) ≤ 0 := depths_map (q := PyData.bool) (k := 0) bs fun _ _ => Nat.le_refl _
    have h3 : (PyData.list (bs.map .bool)).depth ≤ 64 := by
      simp only [PyData.depth]
      omega
    have h4 : (PyData.list (bs.map .bool)).canLay0 = true := by
      simp only [PyData.canLay0]
      exact h1
    rw [h4, decide_eq_true h3]
    rfl
  show (match pyL (bs.map .bl), pyOf (.bl b) with
    | some es, some e => if (SeqAt.shaped (.list es) && SeqAt.shaped e) = true then some (D.int (es.countP fun z => PyData.eqv z e : Nat)) else none
    | _, _ => none) = _
  rw [e1]
  show (if (SeqAt.shaped (.list (bs.map .bool)) && SeqAt.shaped (.bool b)) = true then some (D.int ((bs.map .bool).countP fun z => PyData.eqv z (.bool b) : Nat)) else none) = _
  rw [sh]
  have sb : SeqAt.shaped (.bool b) = true := by cases b <;> decide
  rw [sb, Bool.and_self, if_pos rfl, List.countP_map]
  have ef : ((fun z => PyData.eqv z (.bool b)) ∘ PyData.bool) = fun x => decide (x = b) := by
    funext x
    cases x <;> cases b <;> decide
  rw [ef]
def kHeard (ok : Nat → Bool) (c3 : M Fl) : O D → O D
  | .ok d s' => if sto d = true then tailS c3 [.un, .d d, .d .non, .un] s' else .st
  | .err e s' => if ok e.c = true then tailS c3 [.un, .d .non, .d (.exc e.c), .un] s' else .st
  | .st => .st
theorem heardS_ap (ok : Nat → Bool) (c3 : M Fl) (s : S) : heardS ok f c3 s = kHeard ok c3 (f s) := by
  unfold heardS kHeard
  cases f s <;> rfl
theorem kHeard_ok (ok : Nat → Bool) (c3 : M Fl) (d : D) (s : S) (h : sto d = true) : kHeard ok c3 (.ok d s) = tailS c3 [.un, .d d, .d .non, .un] s := by
  unfold kHeard
  simp only [h, if_true]
theorem kHeard_err (ok : Nat → Bool) (c3 : M Fl) (e : Er) (s : S) (h : ok e.c = true) : kHeard ok c3 (.err e s) = tailS c3 [.un, .d .non, .d (.exc e.c), .un] s := by
  unfold kHeard
  simp only [h, if_true]
theorem tail_eq {c3 : M Fl} {rhz : List SV} {s : S} {d : D} {s3 : S} (h : c3 ⟨rhz, s.muz⟩ = .ok (.rt d) s3) : tailS c3 rhz s = .ok d ⟨s.rhz, s3.muz⟩ := by
  unfold tailS
  rw [h]
end
end AG
set_option Elab.async false
set_option linter.all false
set_option maxRecDepth 100000
namespace AG
open PySem L2
end AG
set_option Elab.async false
set_option linter.all false
set_option maxRecDepth 100000
namespace AG
open PySem L2
end AG
set_option Elab.async false
set_option linter.all false
set_option maxRecDepth 100000
namespace AG
open PySem L2
def above (rank S : List Str) (j : Nat) : List Str := S.filter fun y => decide (j ≤ ixT rank y)
end AG
set_option Elab.async false
set_option linter.all false
set_option maxRecDepth 100000
set_option exponentiation.threshold 4000
namespace AG
open PySem L2
theorem lc_gen {α : Type} {i : Nat} {c : M Bool} {e : M D} {rhz : List SV} {muz : List MO} (mk v : α → D) (p : α → Bool) (L : List α) (hi : i < rhz.length) (ho : isOwn (rhz.getD i .un) = false)
    (hc : ∀ a ∈ L, c ⟨rhz.set i (.d (mk a)), muz⟩ = .ok (p a) ⟨rhz.set i (.d (mk a)), muz⟩) (he : ∀ a ∈ L, p a = true → e ⟨rhz.set i (.d (mk a)), muz⟩ = .ok (v a) ⟨rhz.set i (.d (mk a)), muz⟩ ∧ sto (v a) = true) (hl : L.length ≤ LIM) :
    kLc (tgN i) c e [i] (L.map mk) ⟨rhz, muz⟩ = .ok (.ml ((L.filter p).map v)) ⟨rhz, muz⟩ := by
  have z : Ok (kLc (tgN i) c e [i] (L.map mk) ⟨rhz, muz⟩) fun m s => m = .ml ((L.filter p).map v) ∧ s = ⟨rhz, muz⟩ := by
    refine kLc_ok (fun n acc muz' => acc = ((L.take n).filter p).map v ∧ muz' = muz ∧ acc.length ≤ n) hi ho ⟨by simp, rfl, Nat.le_refl _⟩ ?_ ?_
    · rintro n d acc muz' hd ⟨h1, rfl, h2⟩
      rw [List.getElem?_map, Option.map_eq_some_iff] at hd
      obtain ⟨a, hd, rfl⟩ := hd
      have hn := (List.getElem?_eq_some_iff.mp hd).1
      have hm : a ∈ L := List.mem_of_getElem? hd
      have et : L.take (n + 1) = L.take n ++ [a] := by rw [List.take_succ, hd]; rfl
      rw [hc a hm]
      refine ⟨rfl, ?_⟩
      cases q : p a with
      | false =>
        rw [if_neg Bool.false_ne_true]
        exact ⟨by rw [h1, et, List.filter_append]; simp [q], rfl, by omega⟩
      | true =>
        rw [if_pos rfl, (he a hm q).1]
        exact ⟨rfl, (he a hm q).2, by omega, by rw [h1, et, List.filter_append]; simp [q], rfl, by simp; omega⟩
    · rintro l muz' ⟨h1, rfl, _⟩
      rw [List.length_map, List.take_length] at h1
      exact ⟨by rw [h1], rfl⟩
  cases q : kLc (tgN i) c e [i] (L.map mk) ⟨rhz, muz⟩ with
  | ok m s => rw [q] at z; obtain ⟨rfl, rfl⟩ := z; rfl
  | _ => rw [q] at z; exact z.elim
end AG
set_option Elab.async false
set_option linter.all false
set_option maxRecDepth 100000
set_option exponentiation.threshold 4000
namespace AG
open PySem L2
theorem ix_map (s : S) {α : Type} (f : α → D) (L : List α) (a : Nat) (x : α) (h : L[a]? = some x) : ixA s (.lst (L.map f)) (.int a) = some (f x) := by
  have hl := (List.getElem?_eq_some_iff.mp h).1
  show atI (L.map f) (a : Int) = _
  rw [atI_ok _ _ (by omega) (by rw [List.length_map]; omega), Int.toNat_natCast, List.getElem?_map, h]
  rfl
end AG
set_option Elab.async false
set_option linter.all false
set_option maxRecDepth 100000
set_option exponentiation.threshold 4000
namespace AG
open PySem L2 AG.Wd
def pl (b r : List Str) (m : Nat) : List Str := (List.range m).map fun i => (wd b r i).getD ⟨#[]⟩
end AG
set_option Elab.async false
set_option linter.all false
set_option maxRecDepth 100000
set_option exponentiation.threshold 4000
namespace AG
open PySem L2 AG.Wd
theorem mulE_tup (s : S) {a : List D} {k : Nat} (k1 : 1 ≤ k) (k2 : k ≤ 1000) (h0 : a ≠ []) (hl : a.length ≤ 1000) : mulE s (.tup a) (.int k) = some (.tup (List.replicate k a).flatten) := by
  show (if _ then _ else if _ then _ else _) = _
  by_cases q : k = 1
  · subst q
    rw [if_pos ⟨.inr rfl, by omega, by omega⟩]
    simp
  · rw [if_neg (by intro z; rcases z.1 with z | z; exact h0 z; omega), if_pos ⟨h0, by omega, by omega, hl⟩, Int.toNat_natCast]
theorem addD_tup (s : S) {a b : List D} (h : a.length + b.length ≤ 1000000) : addD s (.tup a) (.tup b) = some (.tup (a ++ b)) := by
  show (if a.length + b.length ≤ LIM then some (D.tup (a ++ b)) else none) = _
  rw [if_pos (show a.length + b.length ≤ LIM from h)]
theorem addD_lst (s : S) {a b : List D} (h : a.length + b.length ≤ 1000000) : addD s (.lst a) (.lst b) = some (.lst (a ++ b)) := by
  show (if a.length + b.length ≤ LIM then some (D.lst (a ++ b)) else none) = _
  rw [if_pos (show a.length + b.length ≤ LIM from h)]
end AG
set_option Elab.async false
set_option linter.all false
set_option maxRecDepth 100000
set_option exponentiation.threshold 4000
namespace AG
open PySem L2 AG.Wd
end AG
set_option Elab.async false
set_option linter.all false
set_option maxRecDepth 100000
set_option exponentiation.threshold 4000
namespace AG
open PySem L2 AG.Wd
end AG
set_option Elab.async false
set_option linter.all false
set_option maxRecDepth 100000
set_option exponentiation.threshold 4000
namespace AG
open PySem L2 AG.Wd
theorem dispF_ap (f : M (List (D × D))) (s : S) : dispF f s = (f s).bind fun ps s1 => if ps.all (fun p => sto p.1 && sto p.2 && isKey false p.1) && decide (ps.length ≤ 15) then .ok (.md false (ps.foldl (fun l p => putD false l p.1 p.2) [])) s1 else .st := Eq.trans rfl rfl
theorem pconsS_ap (f g : M D) (r : M (List (D × D))) (s : S) : pconsS f g r s = (f s).bind fun x s1 => (g s1).bind fun y s2 => (r s2).bind fun ps s3 => .ok ((x, y) :: ps) s3 := Eq.trans rfl rfl
theorem pnilS_ap (s : S) : pnilS s = .ok [] s := Eq.trans rfl rfl
abbrev BIG : Int := 10 ^ 18
noncomputable abbrev beginS : M Fl := (seqS (setS 1 (frzS (lcF (itS (varS 0)) (tgN 2) yesS (callV absD (consS (varS 2) nilS)) [2])))
    (retS (hndS (dispF (pconsS (cS (.str "large")) (hndS (lcF (itS (varS 1)) (tgN 2) (tstS (binS (cmpI fun i j => decide (j ≤ i)) (varS 2) (binS powD (cS (.int 10)) (cS (.int 18))))) (binS subD (varS 2) (binS powD (cS (.int 10)) (cS (.int 18)))) [2])) (pconsS (cS (.str "cells")) (varS 1) (pconsS (cS (.str "rest")) (cS (.int 0)) (pconsS (cS (.str "turn")) (cS (.int 0)) pnilS))))))))
def absI (i : Int) : Int := if i < 0 then -i else i
def IsBegin (c : List D → List MO → R) : Prop := ∀ ns : List Int, ns.length ≤ 63 → ∃ z : DS, c [.scr ns] [] = .ok (.hnd 1) z.muz ∧ Bd (2 ^ 60) z
def intOf : D → Int
  | .int i => i
  | _ => 0
theorem begin_ok : IsBegin (runD 3 1 beginS) := by
  intro ns hl
  have l1 := kLc_pure (i := 2) (c := yesS) (e := callV absD (consS (varS 2) nilS)) (rhz := [.d (.scr ns), .un, .un]) (ds := ns.map .int) (muz := []) (fun _ => true) (fun d => .int (absI (intOf d))) (by simp) rfl (fun _ _ => yesS_ap _) (fun d hd _ => by
    obtain ⟨i, _, rfl⟩ := List.mem_map.mp hd
    have ea : ∀ s, absD s [.int i] = some (.int (absI i)) := fun s => Eq.trans rfl rfl
    refine ⟨?_, rfl⟩
    simp only [seqS_ap, setS_ap, retS_ap, ifS_ap, iteS_ap, tstS_ap, tNotS_ap, tAndS_ap, tOrS_ap, andS_ap, orS_ap, notS_ap, binS_ap, unS_ap, callF_ap, callV_ap, callN_ap, consS_ap, nilS_ap, tupS_ap, lstF_ap, frzS_ap, ownS_ap, exS_ap, cS_ap, varS_ap, parA_ap, parS_inl, parS_inr, parS_nil, forS_ap, itRng_ap, itRng2_ap, itS_ap, itStr_ap, lcF_ap, slS_ap, slF_ap, noPartS_ap, partS_ap, isiS_ap, chainS_ap, nxS_ap, bkS_ap, ctS_ap, yesS_ap, orT_ap, appS_ap, popAtS_ap, dputS_ap, lputS_ap, hndS_ap, m1S_ap, asgS_ap, O.bind_ok, kVar_d, kVar_own, kB1_ap, kB2_ap, kU_ap, kAnd_t, kAnd_f, kOr_t, kOr_f, kNot_ap, kTst_ap, kTAnd_t, kTAnd_f, kTOr_t, kTOr_f, kTNot_ap, kIte_t, kIte_f, kC0_ap, kC1_ap, kC1'_t, kC1'_f, kC2_ap, kCons_ap, kCons2_ap, kTup_0, kTup_1, kTup_2, kTupB_t, kLst_0, kLst_1, kLstB_t, kFrz_ap, kCv_ap, kCn_ap, ofO_some, ofN_some, kEx_ap, kSet_ap, kSetB_t, kOwn_ap, kRet_non, kRet_bl, kRet_int, kRet_str, kRet_tup, kRet_lst, kRet_hnd, kRet_dct, kRet_ins, kRet_loc, kRet1_ap, kSeq_nx, kSeq_rt, kSeq_bk, kSeq_ct, kIt_ap, kIts_ap, seqD_lst, seqD_tup, seqD_scr, kFor_ap, tgN_ap, tgT_ap, tgsS_nil, tgsS_cons, kSl_ap, kSl1_ap, kSl2_ap, kSlF_ap, kSlF1_ap, kPart_ap, kPd_ap, kPdB_t, kPm_ap, kPc_ap, kPar_ap, putP_d, putP_m, putP_0, kHnd_ap, frzD, kAsg_ap, kAsgB_t, sto_non, sto_bl, sto_int, sto_str, sto_tup, sto_lst, sto_dct, sto_ins, sto_hnd, sto_scr, Bool.and_self, Bool.not_true, Bool.not_false, List.getElem?_cons_zero, List.getElem?_cons_succ, List.set_cons_succ, List.set_cons_zero, kM1_ap, kM1b_ap, kOrT_ap, kOrT1_t, kOrT1_f, eqD_ap, neD_ap, Option.map_some, addD_int, subD_int, gtD_int, ltD_int, cmpI_int, intD_int, intD_bl, negD_int, kStr_ap, kLput_ap, kLput1_ap, decide_true, decide_false, ea]
    rfl) (by rw [List.length_map]; exact Nat.le_trans hl (by decide))
  have e1 : ((ns.map D.int).filter fun _ => true).map (fun d => D.int (absI (intOf d))) = isl (ns.map absI) := by
    rw [List.filter_eq_self.mpr (by simp)]
    simp [isl, intOf, Function.comp_def]
  rw [e1] at l1
  have pw : ∀ s, powD s (.int 10) (.int 18) = some (.int BIG) := fun s => powD_int s (a := 10) (b := 18) (by
    have : (2 : Nat) ^ 4 ≤ 2 ^ 2000 := Nat.pow_le_pow_right (by omega) (by omega)
    exact Nat.lt_of_lt_of_le (by decide) this) (by omega)
  have l2 := kLc_pure (i := 2) (c := tstS (binS (cmpI fun i j => decide (j ≤ i)) (varS 2) (binS powD (cS (.int 10)) (cS (.int 18))))) (e := binS subD (varS 2) (binS powD (cS (.int 10)) (cS (.int 18)))) (rhz := [.d (.scr ns), .d (.lst (isl (ns.map absI))), .un]) (ds := isl (ns.map absI)) (muz := []) (fun d => decide (BIG ≤ intOf d)) (fun d => .int (intOf d - BIG)) (by simp) rfl (fun d hd => by
    unfold isl at hd
    obtain ⟨i, _, rfl⟩ := List.mem_map.mp hd
    simp only [seqS_ap, setS_ap, retS_ap, ifS_ap, iteS_ap, tstS_ap, tNotS_ap, tAndS_ap, tOrS_ap, andS_ap, orS_ap, notS_ap, binS_ap, unS_ap, callF_ap, callV_ap, callN_ap, consS_ap, nilS_ap, tupS_ap, lstF_ap, frzS_ap, ownS_ap, exS_ap, cS_ap, varS_ap, parA_ap, parS_inl, parS_inr, parS_nil, forS_ap, itRng_ap, itRng2_ap, itS_ap, itStr_ap, lcF_ap, slS_ap, slF_ap, noPartS_ap, partS_ap, isiS_ap, chainS_ap, nxS_ap, bkS_ap, ctS_ap, yesS_ap, orT_ap, appS_ap, popAtS_ap, dputS_ap, lputS_ap, hndS_ap, m1S_ap, asgS_ap, O.bind_ok, kVar_d, kVar_own, kB1_ap, kB2_ap, kU_ap, kAnd_t, kAnd_f, kOr_t, kOr_f, kNot_ap, kTst_ap, kTAnd_t, kTAnd_f, kTOr_t, kTOr_f, kTNot_ap, kIte_t, kIte_f, kC0_ap, kC1_ap, kC1'_t, kC1'_f, kC2_ap, kCons_ap, kCons2_ap, kTup_0, kTup_1, kTup_2, kTupB_t, kLst_0, kLst_1, kLstB_t, kFrz_ap, kCv_ap, kCn_ap, ofO_some, ofN_some, kEx_ap, kSet_ap, kSetB_t, kOwn_ap, kRet_non, kRet_bl, kRet_int, kRet_str, kRet_tup, kRet_lst, kRet_hnd, kRet_dct, kRet_ins, kRet_loc, kRet1_ap, kSeq_nx, kSeq_rt, kSeq_bk, kSeq_ct, kIt_ap, kIts_ap, seqD_lst, seqD_tup, seqD_scr, kFor_ap, tgN_ap, tgT_ap, tgsS_nil, tgsS_cons, kSl_ap, kSl1_ap, kSl2_ap, kSlF_ap, kSlF1_ap, kPart_ap, kPd_ap, kPdB_t, kPm_ap, kPc_ap, kPar_ap, putP_d, putP_m, putP_0, kHnd_ap, frzD, kAsg_ap, kAsgB_t, sto_non, sto_bl, sto_int, sto_str, sto_tup, sto_lst, sto_dct, sto_ins, sto_hnd, sto_scr, Bool.and_self, Bool.not_true, Bool.not_false, List.getElem?_cons_zero, List.getElem?_cons_succ, List.set_cons_succ, List.set_cons_zero, kM1_ap, kM1b_ap, kOrT_ap, kOrT1_t, kOrT1_f, eqD_ap, neD_ap, Option.map_some, addD_int, subD_int, gtD_int, ltD_int, cmpI_int, intD_int, intD_bl, negD_int, kStr_ap, kLput_ap, kLput1_ap, decide_true, decide_false, pw, intOf]
    rfl) (fun d hd _ => by
    unfold isl at hd
    obtain ⟨i, _, rfl⟩ := List.mem_map.mp hd
    refine ⟨?_, rfl⟩
    simp only [seqS_ap, setS_ap, retS_ap, ifS_ap, iteS_ap, tstS_ap, tNotS_ap, tAndS_ap, tOrS_ap, andS_ap, orS_ap, notS_ap, binS_ap, unS_ap, callF_ap, callV_ap, callN_ap, consS_ap, nilS_ap, tupS_ap, lstF_ap, frzS_ap, ownS_ap, exS_ap, cS_ap, varS_ap, parA_ap, parS_inl, parS_inr, parS_nil, forS_ap, itRng_ap, itRng2_ap, itS_ap, itStr_ap, lcF_ap, slS_ap, slF_ap, noPartS_ap, partS_ap, isiS_ap, chainS_ap, nxS_ap, bkS_ap, ctS_ap, yesS_ap, orT_ap, appS_ap, popAtS_ap, dputS_ap, lputS_ap, hndS_ap, m1S_ap, asgS_ap, O.bind_ok, kVar_d, kVar_own, kB1_ap, kB2_ap, kU_ap, kAnd_t, kAnd_f, kOr_t, kOr_f, kNot_ap, kTst_ap, kTAnd_t, kTAnd_f, kTOr_t, kTOr_f, kTNot_ap, kIte_t, kIte_f, kC0_ap, kC1_ap, kC1'_t, kC1'_f, kC2_ap, kCons_ap, kCons2_ap, kTup_0, kTup_1, kTup_2, kTupB_t, kLst_0, kLst_1, kLstB_t, kFrz_ap, kCv_ap, kCn_ap, ofO_some, ofN_some, kEx_ap, kSet_ap, kSetB_t, kOwn_ap, kRet_non, kRet_bl, kRet_int, kRet_str, kRet_tup, kRet_lst, kRet_hnd, kRet_dct, kRet_ins, kRet_loc, kRet1_ap, kSeq_nx, kSeq_rt, kSeq_bk, kSeq_ct, kIt_ap, kIts_ap, seqD_lst, seqD_tup, seqD_scr, kFor_ap, tgN_ap, tgT_ap, tgsS_nil, tgsS_cons, kSl_ap, kSl1_ap, kSl2_ap, kSlF_ap, kSlF1_ap, kPart_ap, kPd_ap, kPdB_t, kPm_ap, kPc_ap, kPar_ap, putP_d, putP_m, putP_0, kHnd_ap, frzD, kAsg_ap, kAsgB_t, sto_non, sto_bl, sto_int, sto_str, sto_tup, sto_lst, sto_dct, sto_ins, sto_hnd, sto_scr, Bool.and_self, Bool.not_true, Bool.not_false, List.getElem?_cons_zero, List.getElem?_cons_succ, List.set_cons_succ, List.set_cons_zero, kM1_ap, kM1b_ap, kOrT_ap, kOrT1_t, kOrT1_f, eqD_ap, neD_ap, Option.map_some, addD_int, subD_int, gtD_int, ltD_int, cmpI_int, intD_int, intD_bl, negD_int, kStr_ap, kLput_ap, kLput1_ap, decide_true, decide_false, pw, intOf]) (by rw [isl_len, List.length_map]; exact Nat.le_trans hl (by decide))
  have e2 : ((isl (ns.map absI)).filter fun d => decide (BIG ≤ intOf d)).map (fun d => D.int (intOf d - BIG)) = isl (((ns.map absI).filter fun i => decide (BIG ≤ i)).map fun i => i - BIG) := by
    unfold isl
    rw [List.filter_map, List.map_map, List.map_map]
    rfl
  rw [e2] at l2
  have nat0 : ∀ x ∈ ((ns.map absI).filter fun i => decide (BIG ≤ i)).map fun i => i - BIG, 0 ≤ x := by
    intro x hx
    obtain ⟨i, hi, rfl⟩ := List.mem_map.mp hx
    have := of_decide_eq_true (List.mem_filter.mp hi).2
    omega
  refine ⟨⟨((ns.map absI).filter fun i => decide (BIG ≤ i)).map fun i => i - BIG, ns.map absI, 0, 0⟩, ?_, ⟨⟨nat0, by show (0 : Int) ≤ 0; omega, by show (0 : Int) ≤ 0; omega, by rw [List.length_map]; exact hl, ?_⟩, ?_⟩⟩
  · refine runD_eq (s := ⟨[.d (.scr ns), .d (.lst (isl (ns.map absI))), .un], _⟩) rfl ?_
    show beginS ⟨[.d (.scr ns), .un, .un], []⟩ = _
    simp only [beginS, seqS_ap, setS_ap, retS_ap, ifS_ap, iteS_ap, tstS_ap, tNotS_ap, tAndS_ap, tOrS_ap, andS_ap, orS_ap, notS_ap, binS_ap, unS_ap, callF_ap, callV_ap, callN_ap, consS_ap, nilS_ap, tupS_ap, lstF_ap, frzS_ap, ownS_ap, exS_ap, cS_ap, varS_ap, parA_ap, parS_inl, parS_inr, parS_nil, forS_ap, itRng_ap, itRng2_ap, itS_ap, itStr_ap, lcF_ap, slS_ap, slF_ap, noPartS_ap, partS_ap, isiS_ap, chainS_ap, nxS_ap, bkS_ap, ctS_ap, yesS_ap, orT_ap, appS_ap, popAtS_ap, dputS_ap, lputS_ap, hndS_ap, m1S_ap, asgS_ap, O.bind_ok, kVar_d, kVar_own, kB1_ap, kB2_ap, kU_ap, kAnd_t, kAnd_f, kOr_t, kOr_f, kNot_ap, kTst_ap, kTAnd_t, kTAnd_f, kTOr_t, kTOr_f, kTNot_ap, kIte_t, kIte_f, kC0_ap, kC1_ap, kC1'_t, kC1'_f, kC2_ap, kCons_ap, kCons2_ap, kTup_0, kTup_1, kTup_2, kTupB_t, kLst_0, kLst_1, kLstB_t, kFrz_ap, kCv_ap, kCn_ap, ofO_some, ofN_some, kEx_ap, kSet_ap, kSetB_t, kOwn_ap, kRet_non, kRet_bl, kRet_int, kRet_str, kRet_tup, kRet_lst, kRet_hnd, kRet_dct, kRet_ins, kRet_loc, kRet1_ap, kSeq_nx, kSeq_rt, kSeq_bk, kSeq_ct, kIt_ap, kIts_ap, seqD_lst, seqD_tup, seqD_scr, kFor_ap, tgN_ap, tgT_ap, tgsS_nil, tgsS_cons, kSl_ap, kSl1_ap, kSl2_ap, kSlF_ap, kSlF1_ap, kPart_ap, kPd_ap, kPdB_t, kPm_ap, kPc_ap, kPar_ap, putP_d, putP_m, putP_0, kHnd_ap, frzD, kAsg_ap, kAsgB_t, sto_non, sto_bl, sto_int, sto_str, sto_tup, sto_lst, sto_dct, sto_ins, sto_hnd, sto_scr, Bool.and_self, Bool.not_true, Bool.not_false, List.getElem?_cons_zero, List.getElem?_cons_succ, List.set_cons_succ, List.set_cons_zero, kM1_ap, kM1b_ap, kOrT_ap, kOrT1_t, kOrT1_f, eqD_ap, neD_ap, Option.map_some, addD_int, subD_int, gtD_int, ltD_int, cmpI_int, intD_int, intD_bl, negD_int, kStr_ap, kLput_ap, kLput1_ap, decide_true, decide_false, l1, dispF_ap, pconsS_ap, pnilS_ap, l2]
    rfl
  · rw [List.length_map]
    exact Nat.le_trans (List.length_filter_le _ _) (by rw [List.length_map]; exact hl)
  · show (0 : Int) + ((2 ^ 60 : Nat) : Int) * UNIT < TOP
    have h := top_unit
    have u := unit_pos
    have : ((2 ^ 60 : Nat) : Int) * UNIT ≤ (2 ^ 70 : Int) * UNIT := Int.mul_le_mul_of_nonneg_right (by decide) (by omega)
    omega
end AG
set_option Elab.async false
set_option linter.all false
set_option maxRecDepth 100000
set_option exponentiation.threshold 4000
namespace AG
open PySem L2
theorem draw_ok : IsDraw (runD 6 2 drawS) := fun z n hz n0 n1 ht => draw_run z n hz n0 n1 ht
theorem fine_ds (z : DS) : Fine z.muz := by
  have hi : ∀ l : List Int, noHL 2 (isl l) = true := fun l => by
    induction l with
    | nil => rfl
    | cons x l ih => exact ih
  have h1 : noHM 2 (.ml (isl z.L)) = true := hi _
  have h2 : noHM 2 (.md false z.tb) = true := by
    show noH2 2 z.tb = true
    unfold DS.tb
    simp [noH2, noH, hi]
  show (noHM 2 (.ml (isl z.L)) && (noHM 2 (.md false z.tb) && true)) = true
  rw [h1, h2]
  rfl
end AG
set_option Elab.async false
set_option linter.all false
set_option maxRecDepth 100000
set_option exponentiation.threshold 4000
namespace AG
open PySem L2
end AG
set_option Elab.async false
set_option linter.all false
set_option maxRecDepth 100000
namespace AG
open PySem L2 PyProof.Rows PySem.W
end AG
set_option Elab.async false
set_option linter.all false
set_option maxRecDepth 100000
set_option exponentiation.threshold 4000
namespace AG
open PySem L2
theorem lenE_dct (s : S) (t : Bool) (l : List (D × D)) : lenE s [.dct t l] = some (.int l.length) := Eq.trans rfl rfl
end AG
set_option Elab.async false
set_option linter.all false
set_option maxRecDepth 100000
set_option exponentiation.threshold 4000
namespace AG
open PySem L2
end AG
set_option Elab.async false
set_option linter.all false
set_option maxRecDepth 100000
set_option exponentiation.threshold 4000
namespace AG
open PySem L2
end AG
set_option Elab.async false
set_option linter.all false
set_option maxRecDepth 100000
set_option exponentiation.threshold 4000
namespace AG
open PySem L2
end AG
set_option Elab.async false
set_option linter.all false
set_option maxRecDepth 100000
set_option exponentiation.threshold 4000
namespace AG
open PySem L2 PySem.W PyProof.Rows
end AG
set_option Elab.async false
set_option linter.all false
set_option maxRecDepth 100000
set_option exponentiation.threshold 4000
namespace AG
open PySem L2
end AG
set_option Elab.async false
set_option linter.all false
set_option maxRecDepth 100000
set_option exponentiation.threshold 4000
namespace AG
open PySem L2
theorem w_run {n a : Nat} {body : M Fl} {ds : List D} {muz : List MO} {Q : D → List MO → Prop} (hl : ds.length = a) (h : Ok (body ⟨ds.map .d ++ List.replicate (n - a) .un, muz⟩) fun fl s => ∃ d, fl = .rt d ∧ Q d s.muz) : ∃ d muz', runD n a body ds muz = .ok d muz' ∧ Q d muz' := by
  obtain ⟨fl, s, e, d, rfl, q⟩ := h.ex
  exact ⟨d, s.muz, runD_eq hl e, q⟩
theorem w_runE {n a : Nat} {body : M Fl} {ds : List D} {muz muz' : List MO} {d : D} (hl : ds.length = a) (h : Ok (body ⟨ds.map .d ++ List.replicate (n - a) .un, muz⟩) fun fl s => fl = .rt d ∧ s.muz = muz') : runD n a body ds muz = .ok d muz' := by
  obtain ⟨fl, s, e, rfl, rfl⟩ := h.ex
  exact runD_eq hl e
theorem w_runN {n a : Nat} {body : M Fl} {ds : List D} {muz muz' : List MO} (hl : ds.length = a) (h : Ok (body ⟨ds.map .d ++ List.replicate (n - a) .un, muz⟩) fun fl s => fl = .nx ∧ s.muz = muz') : runD n a body ds muz = .ok .non muz' := by
  obtain ⟨fl, s, e, rfl, rfl⟩ := h.ex
  exact runD_non hl e
variable {α β : Type}
theorem w_eq {o : O α} {f : α → S → O β} {a : α} {s : S} {Q : β → S → Prop} (e : o = .ok a s) (k : Ok (f a s) Q) : Ok (o.bind f) Q := by rw [e]; exact k
theorem w_lst {xs : List D} {s : S} {f : MO → S → O β} {Q : β → S → Prop} (k : Ok (f (.ml xs) s) Q) (h : xs.all sto = true := by first | rfl | simp) (hl : xs.length ≤ 1000 := by simp) : Ok ((kLst xs s).bind f) Q := by
  rw [kLst_ap xs s h (Nat.le_trans hl (by decide))]; exact k
theorem w_lc {γ : Type} {i : Nat} {c : M Bool} {e : M D} {rhz : List SV} {muz : List MO} {ds : List D} {f : MO → S → O β} {Q : β → S → Prop} (mk v : γ → D) (p : γ → Bool) (L : List γ) (hd : ds = L.map mk) (hl : L.length ≤ LIM)
    (hc : ∀ a ∈ L, Ok (c ⟨rhz.set i (.d (mk a)), muz⟩) fun b s => b = p a ∧ s = ⟨rhz.set i (.d (mk a)), muz⟩) (he : ∀ a ∈ L, p a = true → Ok (e ⟨rhz.set i (.d (mk a)), muz⟩) fun y s => (y = v a ∧ sto (v a) = true) ∧ s = ⟨rhz.set i (.d (mk a)), muz⟩)
    (k : Ok (f (.ml ((L.filter p).map v)) ⟨rhz, muz⟩) Q) (hi : i < rhz.length := by simp) (ho : isOwn (rhz.getD i .un) = false := by rfl) : Ok ((kLc (tgN i) c e [i] ds ⟨rhz, muz⟩).bind f) Q := by
  subst hd
  rw [lc_gen mk v p L hi ho (fun a h => by
    obtain ⟨b, s, e1, rfl, rfl⟩ := (hc a h).ex
    exact e1) (fun a h h2 => by
    obtain ⟨y, s, e1, ⟨rfl, h3⟩, rfl⟩ := (he a h h2).ex
    exact ⟨e1, h3⟩) hl]
  exact k
theorem w_map {γ : Type} {i : Nat} {e : M D} {rhz : List SV} {muz : List MO} {ds : List D} {f : MO → S → O β} {Q : β → S → Prop} (mk v : γ → D) (L : List γ) (hd : ds = L.map mk) (hl : L.length ≤ LIM)
    (he : ∀ a ∈ L, Ok (e ⟨rhz.set i (.d (mk a)), muz⟩) fun y s => (y = v a ∧ sto (v a) = true) ∧ s = ⟨rhz.set i (.d (mk a)), muz⟩)
    (k : Ok (f (.ml (L.map v)) ⟨rhz, muz⟩) Q) (hi : i < rhz.length := by simp) (ho : isOwn (rhz.getD i .un) = false := by rfl) : Ok ((kLc (tgN i) yesS e [i] ds ⟨rhz, muz⟩).bind f) Q := by
  refine w_lc mk v (fun _ => true) L hd hl (fun a h => ?_) (fun a h _ => he a h) ?_ hi ho
  · rw [yesS_ap]; exact ⟨rfl, rfl⟩
  · rw [List.filter_eq_self.mpr (fun _ _ => rfl)]; exact k
theorem w_for {tg : D → M Unit} {body : M Fl} {ds : List D} {s : S} {f : Fl → S → O β} {Q : β → S → Prop} (I : Nat → S → Prop) (h0 : I 0 s)
    (hs : ∀ i d s, ds[i]? = some d → I i s → Ok ((tg d s).bind fun _ s1 => body s1) fun fl s2 => fl = .nx ∧ I (i + 1) s2) (k : ∀ s, I ds.length s → Ok (f .nx s) Q) : Ok ((forL tg body ds s).bind f) Q := by
  have w := forL_inv (tg := tg) (body := body) (Q := fun fl s => fl = .nx ∧ I ds.length s) ds I s h0 (fun i d s hd hI => (hs i d s hd hI).mono fun fl s2 ⟨e, h⟩ => by subst e; exact h) (fun s h => ⟨rfl, h⟩)
  exact w.bind fun fl s ⟨e, h⟩ => by subst e; exact k s h
end AG
set_option Elab.async false
set_option linter.all false
set_option maxRecDepth 100000
namespace AG
open PySem L2
def vl (i : Nat) : Option SV → D
  | some (.own m) => frzD m
  | _ => .loc i
theorem vl_own (i : Nat) (m : MO) : vl i (some (.own m)) = frzD m := Eq.trans rfl rfl
theorem vl_vw (s : S) (i : Nat) : vw s (vl i s.rhz[i]?) = vw s (.loc i) := by
  unfold vl
  cases h : s.rhz[i]? with
  | none => rfl
  | some x => cases x with
    | own m => simp only [vw, h]; cases m <;> rfl
    | _ => rfl
theorem inA_loc (s : S) (x : D) (i : Nat) : inA s x (.loc i) = inA s x (vl i s.rhz[i]?) := by
  unfold inA inAB inB
  rw [vl_vw]
theorem notInA_loc (s : S) (x : D) (i : Nat) : notInA s x (.loc i) = notInA s x (vl i s.rhz[i]?) := by
  unfold notInA inAB inB
  rw [vl_vw]
theorem lenD_loc (s : S) (i : Nat) : lenD s [.loc i] = lenD s [vl i s.rhz[i]?] := by
  unfold lenD
  simp only [vl_vw]
theorem lenE_loc (s : S) (i : Nat) : lenE s [.loc i] = lenE s [vl i s.rhz[i]?] := by
  unfold vl
  cases h : s.rhz[i]? with
  | none => rfl
  | some x => cases x with
    | own m =>
      unfold lenE lenD
      simp only [vw, h]
      cases m <;> rfl
    | _ => rfl
theorem ixD_loc (s : S) (i : Nat) (y : D) : ixD s (.loc i) y = ixD s (vl i s.rhz[i]?) y := by
  unfold ixD
  rw [vl_vw]
theorem ixA_loc (s : S) (i : Nat) (y : D) : ixA s (.loc i) y = ixA s (vl i s.rhz[i]?) y := by
  unfold ixA
  rw [vl_vw, ixD_loc]
theorem slD_loc (s : S) (i : Nat) (a b : Option Int) : slD s (.loc i) a b = slD s (vl i s.rhz[i]?) a b := by
  unfold slD
  rw [vl_vw]
theorem eqB_loc1 (s : S) (i : Nat) (y : D) : eqB s (.loc i) y = eqB s (vl i s.rhz[i]?) y := by
  unfold eqB
  rw [vl_vw]
theorem eqB_loc2 (s : S) (i : Nat) (y : D) : eqB s y (.loc i) = eqB s y (vl i s.rhz[i]?) := by
  unfold eqB
  rw [vl_vw]
theorem addD_loc1 (s : S) (i : Nat) (y : D) : addD s (.loc i) y = addD s (vl i s.rhz[i]?) y := by
  unfold addD
  rw [vl_vw]
theorem addD_loc2 (s : S) (i : Nat) (y : D) : addD s y (.loc i) = addD s y (vl i s.rhz[i]?) := by
  unfold addD
  rw [vl_vw]
theorem tupleD_loc (s : S) (i : Nat) : tupleD s [.loc i] = tupleD s [vl i s.rhz[i]?] := by
  unfold tupleD
  simp only [vl_vw]
theorem listN_loc (s : S) (i : Nat) : listN s [.loc i] = listN s [vl i s.rhz[i]?] := by
  unfold listN
  simp only [vl_vw]
theorem listE_loc (s : S) (i : Nat) : listE s [.loc i] = listE s [vl i s.rhz[i]?] := by
  unfold listE
  simp only [vl_vw, ← listN_loc]
theorem reprD_loc (s : S) (i : Nat) : reprD s [.loc i] = reprD s [vl i s.rhz[i]?] := by
  unfold reprD
  simp only [vl_vw]
theorem joinD_loc (s : S) (a : Str) (i : Nat) : joinD s a (.loc i) = joinD s a (vl i s.rhz[i]?) := by
  unfold joinD
  simp only [vl_vw]
theorem sortN_loc (s : S) (i : Nat) : sortN s [.loc i] = sortN s [vl i s.rhz[i]?] := by
  unfold sortN
  simp only [vl_vw]
theorem ix_lastM {mk : α → D} (s : S) (l : List α) (x : α) : ixA s (.lst ((l ++ [x]).map mk)) (.int (-1)) = some (mk x) := by
  show atI ((l ++ [x]).map mk) (-1) = _
  have e : ((l ++ [x]).map mk).length = l.length + 1 := by simp
  unfold atI ixN
  rw [e, if_neg (by omega), if_pos (by omega)]
  show ((l ++ [x]).map mk)[((l.length + 1 : Nat) + (-1) : Int).toNat]? = _
  rw [show ((l.length + 1 : Nat) + (-1) : Int).toNat = l.length by omega]
  simp
end AG
namespace AG
theorem sto_exc (c : Nat) : sto (.exc c) = true := Eq.trans rfl rfl
end AG
namespace AG
theorem raiseS_ap (c : Nat) (s : S) : raiseS c s = .err { c := c } s := Eq.trans rfl rfl
theorem isiXS_ap {f : M D} (cs : List (Nat × PySem.Str)) (T : String) (s : S) : isiXS cs T f s = (f s).bind (kU (isiXD (cs.map (·.1)) T)) := by
  show unS (isiXD (cs.map (·.1)) T) f s = _
  rw [unS_ap]
end AG
set_option Elab.async false
set_option linter.all false
set_option maxRecDepth 100000
namespace AG.B
open PySem L2 AG
structure DS where
  L : List Int
  c : List Int
  r : Int
  t : Int
def isl (l : List Int) : List D := l.map .int
def DS.tb (z : DS) : List (D × D) := [(.str "large", .hnd 0), (.str "cells", .lst (isl z.c)), (.str "rest", .int z.r), (.str "turn", .int z.t)]
def DS.muz (z : DS) : List MO := [.ml (isl z.L), .md false z.tb]
structure DS.Good (z : DS) : Prop where
  L : ∀ x ∈ z.L, 0 ≤ x
  r : 0 ≤ z.r
  t : 0 ≤ z.t
  c : z.c.length ≤ 63
  LL : z.L.length ≤ 63
def skp : List Int → Int → List Int × Int
  | [], r => ([], r)
  | x :: L, r => if r = 0 then skp L x else (x :: L, r)
def cellAt (c : List Int) (t : Int) : Int := if c = [] then 0 else (c[(t % c.length).toNat]?).getD 0
def mixd (c : List Int) (t : Int) : Int := (cellAt c t % 2147483629 + 48271 * t + 24680) ^ 3 % 2147483647
def signAt (c : List Int) (t : Int) : Int := (mixd c t + 99991 * t) ^ 5 % 2147483587 / 19
def drw (n : Int) (z : DS) : Int × DS :=
  if 0 < (skp z.L z.r).2 then ((skp z.L z.r).2 % n, ⟨(skp z.L z.r).1, z.c, (skp z.L z.r).2 / n, z.t⟩)
  else (signAt z.c (z.t + 1) % n, ⟨(skp z.L z.r).1, z.c, (skp z.L z.r).2, z.t + 1⟩)
theorem skp_good : ∀ (L : List Int) (r : Int), (∀ x ∈ L, 0 ≤ x) → 0 ≤ r → (∀ x ∈ (skp L r).1, 0 ≤ x) ∧ 0 ≤ (skp L r).2 ∧ (skp L r).1.length ≤ L.length
  | [], r, h, hr => ⟨h, hr, Nat.le_refl _⟩
  | x :: L, r, h, hr => by
    unfold skp
    split
    · obtain ⟨a, b, c⟩ := skp_good L x (fun y hy => h y (List.mem_cons_of_mem _ hy)) (h x List.mem_cons_self)
      exact ⟨a, b, Nat.le_succ_of_le c⟩
    · exact ⟨h, hr, Nat.le_refl _⟩
theorem drw_good {n : Int} {z : DS} (hn : 0 < n) (h : z.Good) : (drw n z).2.Good ∧ 0 ≤ (drw n z).1 ∧ (drw n z).1 < n ∧ (drw n z).2.c = z.c ∧ (drw n z).2.t ≤ z.t + 1 ∧ z.t ≤ (drw n z).2.t := by
  obtain ⟨a, b, c⟩ := skp_good z.L z.r h.L h.r
  unfold drw
  split
  · refine ⟨⟨a, Int.ediv_nonneg b (by omega), h.t, h.c, Nat.le_trans c h.LL⟩, Int.emod_nonneg _ (by omega), Int.emod_lt_of_pos _ hn, rfl, ?_, ?_⟩ <;> (simp <;> omega)
  · refine ⟨⟨a, b, by have := h.t; simp; omega, h.c, Nat.le_trans c h.LL⟩, Int.emod_nonneg _ (by omega), Int.emod_lt_of_pos _ hn, rfl, ?_, ?_⟩ <;> (simp <;> omega)
noncomputable def drawS : M Fl := (seqS (whS (tAndS (tstS (binS eqD (binS ixA (varS 0) (cS (.str "rest"))) (cS (.int 0)))) (tstS (binS neD (binS ixA (varS 0) (cS (.str "large"))) (frzS (lstF nilS))))) (dputS (popAtS (binS ixA (varS 0) (cS (.str "large"))) (cS (.int 0))) (varS 0) (cS (.str "rest"))))
    (seqS (ifS (tstS (binS gtD (binS ixA (varS 0) (cS (.str "rest"))) (cS (.int 0)))) (seqS (setS 5 (binS modD (callV intD (consS (binS ixA (varS 0) (cS (.str "rest"))) nilS)) (varS 1)))
    (seqS (dputS (binS fdivD (binS ixA (varS 0) (cS (.str "rest"))) (varS 1)) (varS 0) (cS (.str "rest")))
    (retS (varS 5)))) nxS)
    (seqS (setS 2 (binS addD (binS ixA (varS 0) (cS (.str "turn"))) (cS (.int 1))))
    (seqS (dputS (varS 2) (varS 0) (cS (.str "turn")))
    (seqS (setS 3 (iteS (tstS (binS neD (binS ixA (varS 0) (cS (.str "cells"))) (frzS (lstF nilS)))) (binS ixA (binS ixA (varS 0) (cS (.str "cells"))) (binS modD (callV intD (consS (varS 2) nilS)) (callV lenD (consS (binS ixA (varS 0) (cS (.str "cells"))) nilS)))) (cS (.int 0))))
    (seqS (setS 4 (binS modD (callV intD (consS (binS powD (binS addD (binS addD (binS modD (callV intD (consS (varS 3) nilS)) (cS (.int 2147483629))) (binS mulE (cS (.int 48271)) (varS 2))) (cS (.int 24680))) (cS (.int 3))) nilS)) (cS (.int 2147483647))))
    (retS (binS modD (callV intD (consS (binS fdivD (binS modD (callV intD (consS (binS powD (binS addD (varS 4) (binS mulE (cS (.int 99991)) (varS 2))) (cS (.int 5))) nilS)) (cS (.int 2147483587))) (cS (.int 19))) nilS)) (varS 1)))))))))
theorem n1 : ¬ Str.ofString "large" = Str.ofString "rest" := by decide
theorem n2 : ¬ Str.ofString "cells" = Str.ofString "rest" := by decide
theorem n3 : ¬ Str.ofString "large" = Str.ofString "turn" := by decide
theorem n4 : ¬ Str.ofString "cells" = Str.ofString "turn" := by decide
theorem n5 : ¬ Str.ofString "rest" = Str.ofString "turn" := by decide
theorem n6 : ¬ Str.ofString "large" = Str.ofString "cells" := by decide
theorem n7 : ¬ Str.ofString "turn" = Str.ofString "rest" := by decide
theorem ix_rest (z : DS) (rhz : List SV) : ixA ⟨rhz, z.muz⟩ (.hnd 1) (.str "rest") = some (.int z.r) := by
  unfold ixA
  simp [vw, DS.muz, DS.tb, isKey, keyD, lookD, keyQ, frzD, n1, n2, n3, n4, n5, n6, n7]
theorem ix_turn (z : DS) (rhz : List SV) : ixA ⟨rhz, z.muz⟩ (.hnd 1) (.str "turn") = some (.int z.t) := by
  unfold ixA
  simp [vw, DS.muz, DS.tb, isKey, keyD, lookD, keyQ, frzD, n1, n2, n3, n4, n5, n6, n7]
theorem ix_large (z : DS) (rhz : List SV) : ixA ⟨rhz, z.muz⟩ (.hnd 1) (.str "large") = some (.hnd 0) := by
  unfold ixA
  simp [vw, DS.muz, DS.tb, isKey, keyD, lookD, keyQ, frzD, n1, n2, n3, n4, n5, n6, n7]
theorem ix_cells (z : DS) (rhz : List SV) : ixA ⟨rhz, z.muz⟩ (.hnd 1) (.str "cells") = some (.lst (isl z.c)) := by
  unfold ixA
  simp [vw, DS.muz, DS.tb, isKey, keyD, lookD, keyQ, frzD, n1, n2, n3, n4, n5, n6, n7]
theorem put_rest (z : DS) (rhz : List SV) (v : Int) : kDput2 (.int v) (.hnd 1) (.str "rest") ⟨rhz, z.muz⟩ = .ok .nx ⟨rhz, ({ z with r := v } : DS).muz⟩ := by
  rw [kDput2_hnd (t := false) (l := z.tb) rfl rfl rfl (by show 4 < LIM; decide)]
  have : putD false z.tb (.str "rest") (.int v) = ({ z with r := v } : DS).tb := by simp [putD, DS.tb, keyQ, keyD, n1, n2, n3, n4, n5, n6, n7]
  rw [this]
  rfl
theorem put_turn (z : DS) (rhz : List SV) (v : Int) : kDput2 (.int v) (.hnd 1) (.str "turn") ⟨rhz, z.muz⟩ = .ok .nx ⟨rhz, ({ z with t := v } : DS).muz⟩ := by
  rw [kDput2_hnd (t := false) (l := z.tb) rfl rfl rfl (by show 4 < LIM; decide)]
  have : putD false z.tb (.str "turn") (.int v) = ({ z with t := v } : DS).tb := by simp [putD, DS.tb, keyQ, keyD, n1, n2, n3, n4, n5, n6, n7]
  rw [this]
  rfl
theorem pyL_isl : ∀ l : List Int, pyL (isl l) = some (l.map .int)
  | [] => by simp [isl, pyL]
  | x :: l => by
    have := pyL_isl l
    unfold isl at this ⊢
    simp only [List.map_cons, pyL, pyOf, this]
theorem lay_isl (l : List Int) : PyData.canLayAll0 (l.map .int) = true := by
  induction l with
  | nil => simp [PyData.canLayAll0]
  | cons x l ih => simp [PyData.canLayAll0, PyData.canLay0, ih]
theorem depth_isl (l : List Int) : PyData.depthAll (l.map .int) = 0 := by
  induction l with
  | nil => simp [PyData.depthAll]
  | cons x l ih => simp [PyData.depthAll, PyData.depth, ih]
theorem eqB_isl {s : S} {d : D} {l : List Int} (h : vw s d = .lst (isl l)) : eqB s d (.lst []) = some (decide (l = [])) := by
  unfold eqB
  rw [h]
  have e0 : pyL [] = some ([] : List PyData) := by simp [pyL]
  simp only [vw, pyOf_lst (pyL_isl l), pyOf_lst e0]
  have s1 : SeqAt.shaped (.list (l.map .int)) = true := by unfold SeqAt.shaped; simp [PyData.canLay0, lay_isl, PyData.depth, depth_isl]
  have s2 : SeqAt.shaped (.list []) = true := by unfold SeqAt.shaped; simp [PyData.canLay0, PyData.canLayAll0, PyData.depth, PyData.depthAll]
  simp only [s1, s2, Bool.and_self, if_true]
  cases l <;> simp [PyData.eqv, PyData.eqvAll]
end AG.B
namespace AG.B
open PySem L2
@[simp] theorem eqD_ap (s : S) (x y : D) : eqD s x y = (eqB s x y).map .bl := Eq.trans rfl rfl
@[simp] theorem neD_ap (s : S) (x y : D) : neD s x y = (eqB s x y).map fun b => .bl (!b) := Eq.trans rfl rfl
@[simp] theorem eqB_int (s : S) (a b : Int) : eqB s (.int a) (.int b) = some (decide (a = b)) := Eq.trans rfl rfl
@[simp] theorem eqB_str (s : S) (a b : Str) : eqB s (.str a) (.str b) = some (decide (a = b)) := Eq.trans rfl rfl
@[simp] theorem addD_int (s : S) (a b : Int) : addD s (.int a) (.int b) = some (.int (a + b)) := Eq.trans rfl rfl
@[simp] theorem subD_int (s : S) (a b : Int) : subD s (.int a) (.int b) = some (.int (a - b)) := Eq.trans rfl rfl
@[simp] theorem gtD_int (s : S) (a b : Int) : gtD s (.int a) (.int b) = some (.bl (decide (b < a))) := Eq.trans rfl rfl
@[simp] theorem ltD_int (s : S) (a b : Int) : ltD s (.int a) (.int b) = some (.bl (decide (a < b))) := Eq.trans rfl rfl
@[simp] theorem cmpI_int (p : Int → Int → Bool) (s : S) (a b : Int) : cmpI p s (.int a) (.int b) = some (.bl (p a b)) := Eq.trans rfl rfl
@[simp] theorem intD_int (s : S) (a : Int) : intD s [.int a] = some (.int a) := Eq.trans rfl rfl
@[simp] theorem intD_bl (s : S) (a : Bool) : intD s [.bl a] = some (.int (if a then 1 else 0)) := Eq.trans rfl rfl
@[simp] theorem maxD_int (s : S) (a b : Int) : maxD s [.int a, .int b] = some (.int (if b > a then b else a)) := Eq.trans rfl rfl
theorem modD_int (s : S) (a : Int) {b : Int} (h : 0 < b) : modD s (.int a) (.int b) = some (.int (a % b)) := by
  show (if _ then _ else _) = _
  rw [if_pos h]
theorem fdivD_int (s : S) (a : Int) {b : Int} (h : 0 < b) (h2 : b < 2 ^ 62) : fdivD s (.int a) (.int b) = some (.int (a / b)) := by
  show (if _ then _ else _) = _
  rw [if_pos]
  refine ⟨h, ?_⟩
  have : b.natAbs < 2 ^ 62 := by omega
  have := (Nat.log2_lt (by omega)).mpr this
  omega
theorem log_lt {a : Int} {k : Nat} (h : a.natAbs < 2 ^ k) (k0 : 0 < k) : a.natAbs.log2 < k := by
  by_cases h0 : a.natAbs = 0
  · rw [h0]; simpa using k0
  · exact (Nat.log2_lt h0).mpr h
theorem mulE_int (s : S) {a b : Int} (h : a.natAbs < 2 ^ 2000) (h2 : b.natAbs < 2 ^ 2000) : mulE s (.int a) (.int b) = some (.int (a * b)) := by
  show mulD s (.int a) (.int b) = _
  show (if _ then _ else _) = _
  rw [if_pos]
  have := log_lt h (by omega)
  have := log_lt h2 (by omega)
  omega
theorem powD_int (s : S) {a : Int} {b : Nat} (h : a.natAbs < 2 ^ 2000) (hb : b ≤ 1000) : powD s (.int a) (.int b) = some (.int (a ^ b)) := by
  unfold powD
  have hi : Builtin.Int.intBits a ≤ 2000 := by
    unfold Builtin.Int.intBits
    have := log_lt h (by omega)
    split <;> omega
  simp only [Int.toNat_natCast]
  rw [if_pos]
  refine ⟨by omega, ?_⟩
  have h1 : (Builtin.Int.intBits a : Int) * b ≤ 2000 * 1000 := Int.mul_le_mul (by omega) (by omega) (by omega) (by omega)
  omega
end AG.B
set_option Elab.async false
set_option linter.all false
set_option maxRecDepth 100000
namespace AG.B
open PySem L2 AG
theorem mu0 (z : DS) : z.muz[0]? = some (.ml (isl z.L)) := rfl
theorem pop0 (z : DS) (rhz : List SV) (x : Int) (L : List Int) (h : z.L = x :: L) : kPopAt1 (.hnd 0) (.int 0) ⟨rhz, z.muz⟩ = .ok (.int x) ⟨rhz, ({ z with L := L } : DS).muz⟩ := by
  have e : isl z.L = .int x :: isl L := by rw [h]; rfl
  have := kPopAt1_hnd (i := 0) (rhz := rhz) (muz := z.muz) (l := isl z.L) (k := 0) (z := .int x) (mu0 z) (by rw [e]; rfl) (by omega)
  rw [show ((0 : Nat) : Int) = 0 from rfl] at this
  rw [this, e]
  rfl
theorem vw_large (z : DS) (rhz : List SV) : vw ⟨rhz, z.muz⟩ (.hnd 0) = .lst (isl z.L) := rfl
abbrev skC : M Bool := tAndS (tstS (binS eqD (binS ixA (varS 0) (cS (.str "rest"))) (cS (.int 0)))) (tstS (binS neD (binS ixA (varS 0) (cS (.str "large"))) (frzS (lstF nilS))))
abbrev skB : M Fl := dputS (popAtS (binS ixA (varS 0) (cS (.str "large"))) (cS (.int 0))) (varS 0) (cS (.str "rest"))
theorem skC_eq (z : DS) (rhz : List SV) (h : rhz[0]? = some (.d (.hnd 1))) : skC ⟨rhz, z.muz⟩ = .ok (decide (z.r = 0) && !decide (z.L = [])) ⟨rhz, z.muz⟩ := by
  by_cases hr : z.r = 0
  · simp [skC, h, ix_rest, ix_large, hr, kLst_0, eqB_isl (vw_large z rhz)]
  · simp [skC, h, ix_rest, hr]
theorem skB_eq (z : DS) (rhz : List SV) (h : rhz[0]? = some (.d (.hnd 1))) (x : Int) (L : List Int) (hL : z.L = x :: L) : skB ⟨rhz, z.muz⟩ = .ok .nx ⟨rhz, ({ z with L := L, r := x } : DS).muz⟩ := by
  have e1 := pop0 z rhz x L hL
  have e2 := put_rest ({ z with L := L } : DS) rhz x
  simp [skB, h, ix_large, kPopAt_hnd (i := 0) (l := isl z.L) (mu0 z), e1, e2]
theorem sk_eq (rhz : List SV) (h : rhz[0]? = some (.d (.hnd 1))) : ∀ (L : List Int) (z : DS), z.L = L → whS skC skB ⟨rhz, z.muz⟩ = .ok .nx ⟨rhz, ({ z with L := (skp z.L z.r).1, r := (skp z.L z.r).2 } : DS).muz⟩
  | [], z, hz => by
    rw [whS_unf, skC_eq z rhz h]
    simp [hz, skp]
    rw [← hz]
  | x :: L, z, hz => by
    rw [whS_unf, skC_eq z rhz h]
    by_cases hr : z.r = 0
    · simp only [hr, hz, decide_true, Bool.true_and, O.bind_ok]
      rw [if_pos (by simp)]
      rw [skB_eq z rhz h x L hz]
      simp only [O.bind_ok]
      rw [sk_eq rhz h L _ rfl]
      simp [skp]
    · simp only [hr, decide_false, Bool.false_and, O.bind_ok, Bool.false_eq_true, if_false]
      have : skp z.L z.r = (z.L, z.r) := by rw [hz]; simp [skp, hr]
      rw [this]
end AG.B
set_option Elab.async false
set_option linter.all false
set_option maxRecDepth 100000
set_option exponentiation.threshold 4000
namespace AG.B
open PySem L2 AG
abbrev drR : M Fl := (seqS (ifS (tstS (binS gtD (binS ixA (varS 0) (cS (.str "rest"))) (cS (.int 0)))) (seqS (setS 5 (binS modD (callV intD (consS (binS ixA (varS 0) (cS (.str "rest"))) nilS)) (varS 1)))
    (seqS (dputS (binS fdivD (binS ixA (varS 0) (cS (.str "rest"))) (varS 1)) (varS 0) (cS (.str "rest")))
    (retS (varS 5)))) nxS)
    (seqS (setS 2 (binS addD (binS ixA (varS 0) (cS (.str "turn"))) (cS (.int 1))))
    (seqS (dputS (varS 2) (varS 0) (cS (.str "turn")))
    (seqS (setS 3 (iteS (tstS (binS neD (binS ixA (varS 0) (cS (.str "cells"))) (frzS (lstF nilS)))) (binS ixA (binS ixA (varS 0) (cS (.str "cells"))) (binS modD (callV intD (consS (varS 2) nilS)) (callV lenD (consS (binS ixA (varS 0) (cS (.str "cells"))) nilS)))) (cS (.int 0))))
    (seqS (setS 4 (binS modD (callV intD (consS (binS powD (binS addD (binS addD (binS modD (callV intD (consS (varS 3) nilS)) (cS (.int 2147483629))) (binS mulE (cS (.int 48271)) (varS 2))) (cS (.int 24680))) (cS (.int 3))) nilS)) (cS (.int 2147483647))))
    (retS (binS modD (callV intD (consS (binS fdivD (binS modD (callV intD (consS (binS powD (binS addD (varS 4) (binS mulE (cS (.int 99991)) (varS 2))) (cS (.int 5))) nilS)) (cS (.int 2147483587))) (cS (.int 19))) nilS)) (varS 1))))))))
theorem vw_lst (s : S) (l : List D) : vw s (.lst l) = .lst l := rfl
theorem lenD_lst (s : S) (l : List D) : lenD s [.lst l] = some (.int l.length) := rfl
theorem isl_len (l : List Int) : (isl l).length = l.length := List.length_map ..
theorem ixA_isl (s : S) (l : List Int) (i : Int) (h0 : 0 ≤ i) (h1 : i < l.length) : ixA s (.lst (isl l)) (.int i) = some (.int ((l[i.toNat]?).getD 0)) := by
  show atI (isl l) i = _
  unfold atI ixN
  rw [if_pos h0, isl_len, if_pos h1]
  show (isl l)[i.toNat]? = _
  unfold isl
  have hl : i.toNat < l.length := by omega
  rw [List.getElem?_map, List.getElem?_eq_getElem hl]
  rfl
theorem dr_wet (z : DS) (n : Int) (n0 : 0 < n) (n1 : n < 2 ^ 62) (hr : 0 < z.r) : drR ⟨[.d (.hnd 1), .d (.int n), .un, .un, .un, .un], z.muz⟩ = .ok (.rt (.int (z.r % n))) ⟨[.d (.hnd 1), .d (.int n), .un, .un, .un, .d (.int (z.r % n))], ({ z with r := z.r / n } : DS).muz⟩ := by
  simp [drR, ix_rest, hr, modD_int _ _ n0, fdivD_int _ _ n0 n1, put_rest]
theorem p2000 : (2 : Nat) ^ 1000 * 2 ^ 62 * 8 ≤ 2 ^ 2000 := by
  have e : (2 : Nat) ^ 1000 * 2 ^ 62 * 8 = 2 ^ 1065 := by
    rw [show (8 : Nat) = 2 ^ 3 from rfl, ← Nat.pow_add, ← Nat.pow_add]
  rw [e]
  exact Nat.pow_le_pow_right (by omega) (by omega)
theorem small_sum {t m : Int} {k : Nat} (t0 : 0 ≤ t) (t1 : t < 2 ^ 1000) (m0 : 0 ≤ m) (m1 : m < 2 ^ 62) (hk : k < 2 ^ 20) : (m + (k : Int) * t + 24680).natAbs < 2 ^ 2000 ∧ (m + (k : Int) * t).natAbs < 2 ^ 2000 ∧ t.natAbs < 2 ^ 2000 := by
  have hp := p2000
  have e1 : (1 : Nat) ≤ 2 ^ 1000 := Nat.one_le_two_pow
  obtain ⟨t, rfl⟩ := Int.eq_ofNat_of_zero_le t0
  obtain ⟨m, rfl⟩ := Int.eq_ofNat_of_zero_le m0
  have t1' : t < 2 ^ 1000 := by
    have : ((2 : Int) ^ 1000) = (((2 : Nat) ^ 1000 : Nat) : Int) := by simp
    rw [this] at t1
    exact Int.ofNat_lt.mp t1
  have kt : k * t ≤ 2 ^ 20 * 2 ^ 1000 := Nat.mul_le_mul (by omega) (by omega)
  have c1 : ((m : Int) + (k : Int) * (t : Int) + 24680).natAbs = m + k * t + 24680 := by omega
  have c2 : ((m : Int) + (k : Int) * (t : Int)).natAbs = m + k * t := by omega
  have c3 : ((t : Int)).natAbs = t := rfl
  rw [c1, c2, c3]
  generalize (2 : Nat) ^ 2000 = P at *
  generalize (2 : Nat) ^ 1000 = Q at *
  generalize k * t = kt' at *
  refine ⟨?_, ?_, ?_⟩ <;> omega
end AG.B
set_option Elab.async false
set_option linter.all false
set_option maxRecDepth 100000
set_option exponentiation.threshold 4000
namespace AG.B
open PySem L2 AG
theorem cell_val (c : List Int) (t : Int) (hc : c ≠ []) (t0 : 0 ≤ t) : cellAt c t = (c[(t % c.length).toNat]?).getD 0 := if_neg hc
theorem dr_cell (z : DS) (rhz : List SV) (t : Int) (t0 : 0 ≤ t) (h0 : rhz[0]? = some (.d (.hnd 1))) (h2 : rhz[2]? = some (.d (.int t))) :
    iteS (tstS (binS neD (binS ixA (varS 0) (cS (.str "cells"))) (frzS (lstF nilS)))) (binS ixA (binS ixA (varS 0) (cS (.str "cells"))) (binS modD (callV intD (consS (varS 2) nilS)) (callV lenD (consS (binS ixA (varS 0) (cS (.str "cells"))) nilS)))) (cS (.int 0)) ⟨rhz, z.muz⟩ = .ok (.int (cellAt z.c t)) ⟨rhz, z.muz⟩ := by
  by_cases hc : z.c = []
  · simp [h0, ix_cells, eqB_isl (vw_lst _ _), hc, cellAt]
  · have l0 : 0 < z.c.length := List.length_pos_iff.mpr hc
    have m1 := Int.emod_nonneg t (show (z.c.length : Int) ≠ 0 by omega)
    have m2 := Int.emod_lt_of_pos t (show (0 : Int) < z.c.length by omega)
    have e := ixA_isl ⟨rhz, z.muz⟩ z.c (t % z.c.length) m1 m2
    simp [h0, h2, ix_cells, eqB_isl (vw_lst _ _), hc, lenD_lst, isl_len, modD_int _ t (show (0 : Int) < z.c.length by omega), e, cell_val z.c t hc t0]
theorem dr_dry (z : DS) (n : Int) (n0 : 0 < n) (hr : z.r = 0) (t0 : 0 ≤ z.t) (t1 : z.t + 1 < 2 ^ 1000) : ∃ rhz, drR ⟨[.d (.hnd 1), .d (.int n), .un, .un, .un, .un], z.muz⟩ = .ok (.rt (.int (signAt z.c (z.t + 1) % n))) ⟨rhz, ({ z with t := z.t + 1 } : DS).muz⟩ := by
  have w1 := dr_cell ({ z with t := z.t + 1 } : DS) [.d (.hnd 1), .d (.int n), .d (.int (z.t + 1)), .un, .un, .un] (z.t + 1) (by omega) rfl rfl
  have b1 := Int.emod_nonneg (cellAt z.c (z.t + 1)) (show (2147483629 : Int) ≠ 0 by omega)
  have b2 := Int.emod_lt_of_pos (cellAt z.c (z.t + 1)) (show (0 : Int) < 2147483629 by omega)
  obtain ⟨s1, _, s3⟩ := small_sum (t := z.t + 1) (m := cellAt z.c (z.t + 1) % 2147483629) (k := 48271) (by omega) t1 b1 (by omega) (by omega)
  have d1 := Int.emod_nonneg ((cellAt z.c (z.t + 1) % 2147483629 + 48271 * (z.t + 1) + 24680) ^ 3) (show (2147483647 : Int) ≠ 0 by omega)
  have d2 := Int.emod_lt_of_pos ((cellAt z.c (z.t + 1) % 2147483629 + 48271 * (z.t + 1) + 24680) ^ 3) (show (0 : Int) < 2147483647 by omega)
  obtain ⟨_, s5, _⟩ := small_sum (t := z.t + 1) (m := mixd z.c (z.t + 1)) (k := 99991) (by omega) t1 d1 (by unfold mixd; omega) (by omega)
  have p1 : ∀ s, powD s (.int (cellAt z.c (z.t + 1) % 2147483629 + 48271 * (z.t + 1) + 24680)) (.int 3) = some (.int ((cellAt z.c (z.t + 1) % 2147483629 + 48271 * (z.t + 1) + 24680) ^ 3)) := fun s => powD_int s (b := 3) s1 (by omega)
  have p2 : ∀ s, powD s (.int (mixd z.c (z.t + 1) + 99991 * (z.t + 1))) (.int 5) = some (.int ((mixd z.c (z.t + 1) + 99991 * (z.t + 1)) ^ 5)) := fun s => powD_int s (b := 5) s5 (by omega)
  have q1 : ∀ s, mulE s (.int 48271) (.int (z.t + 1)) = some (.int (48271 * (z.t + 1))) := fun s => mulE_int s (by decide) s3
  have q2 : ∀ s, mulE s (.int 99991) (.int (z.t + 1)) = some (.int (99991 * (z.t + 1))) := fun s => mulE_int s (by decide) s3
  have m1 : ∀ s, modD s (.int (cellAt z.c (z.t + 1))) (.int 2147483629) = some (.int (cellAt z.c (z.t + 1) % 2147483629)) := fun s => modD_int s _ (by omega)
  have m2 : ∀ s, modD s (.int ((cellAt z.c (z.t + 1) % 2147483629 + 48271 * (z.t + 1) + 24680) ^ 3)) (.int 2147483647) = some (.int (mixd z.c (z.t + 1))) := fun s => modD_int s _ (by omega)
  have m3 : ∀ s, modD s (.int ((mixd z.c (z.t + 1) + 99991 * (z.t + 1)) ^ 5)) (.int 2147483587) = some (.int ((mixd z.c (z.t + 1) + 99991 * (z.t + 1)) ^ 5 % 2147483587)) := fun s => modD_int s _ (by omega)
  have m4 : ∀ s, fdivD s (.int ((mixd z.c (z.t + 1) + 99991 * (z.t + 1)) ^ 5 % 2147483587)) (.int 19) = some (.int (signAt z.c (z.t + 1))) := fun s => fdivD_int s _ (by omega) (by omega)
  have m5 : ∀ s, modD s (.int (signAt z.c (z.t + 1))) (.int n) = some (.int (signAt z.c (z.t + 1) % n)) := fun s => modD_int s _ n0
  have hr' : ¬ 0 < z.r := by omega
  have c1 : ∀ rhz, kDput2 (.int (z.t + 1)) (.hnd 1) (.str "turn") ⟨rhz, z.muz⟩ = .ok .nx ⟨rhz, ({ z with t := z.t + 1 } : DS).muz⟩ := fun rhz => put_turn z rhz _
  refine ⟨[.d (.hnd 1), .d (.int n), .d (.int (z.t + 1)), .d (.int (cellAt z.c (z.t + 1))), .d (.int (mixd z.c (z.t + 1))), .un], ?_⟩
  have w2 : ∀ (f : M D) (s : S), setS 3 f s = (f s).bind (kSet 3) := fun f s => rfl
  simp only [drR, seqS_ap, ifS_ap, tstS_ap, binS_ap, varS_ap, kVar_d, cS_ap, O.bind_ok, kB1_ap, kB2_ap, List.getElem?_cons_zero, List.getElem?_cons_succ, ix_rest, ofO_some, gtD_int, hr', decide_false, kTst_ap, kIte_f, nxS_ap, kSeq_nx, setS_ap, ix_turn, addD_int, kSet_ap, sto_int, kSetB_t, List.set_cons_succ, List.set_cons_zero, dputS_ap, kDput_ap, kDput1_ap, c1, w1, callV_ap, consS_ap, kCons_ap, nilS_ap, kCons2_ap, kCv_ap, intD_int, m1, q1, p1, m2, q2, p2, m3, m4, m5, retS_ap, kRet_int]
theorem runD_eq {n a : Nat} {body : M Fl} {ds : List D} {muz : List MO} {d : D} {s : S} (hl : ds.length = a) (h : body ⟨ds.map .d ++ List.replicate (n - a) .un, muz⟩ = .ok (.rt d) s) : runD n a body ds muz = .ok d s.muz := by
  unfold runD
  rw [if_pos hl, h]
theorem draw_run (z : DS) (n : Int) (hz : z.Good) (n0 : 0 < n) (n1 : n < 2 ^ 62) (t1 : z.t + 1 < 2 ^ 1000) : runD 6 2 drawS [.hnd 1, .int n] z.muz = .ok (.int (drw n z).1) (drw n z).2.muz := by
  have e0 : (drawS : M Fl) = seqS (whS skC skB) drR := rfl
  have e1 := sk_eq [.d (.hnd 1), .d (.int n), .un, .un, .un, .un] rfl z.L z rfl
  obtain ⟨g1, g2, _⟩ := skp_good z.L z.r hz.L hz.r
  have go : ∃ rhz, drawS ⟨[.d (.hnd 1), .d (.int n), .un, .un, .un, .un], z.muz⟩ = .ok (.rt (.int (drw n z).1)) ⟨rhz, (drw n z).2.muz⟩ := by
    rw [e0, seqS_ap, e1, O.bind_ok, kSeq_nx]
    unfold drw
    by_cases hr : 0 < (skp z.L z.r).2
    · rw [if_pos hr, dr_wet ⟨(skp z.L z.r).1, z.c, (skp z.L z.r).2, z.t⟩ n n0 n1 hr]
      exact ⟨_, rfl⟩
    · rw [if_neg hr]
      obtain ⟨rhz, e2⟩ := dr_dry ⟨(skp z.L z.r).1, z.c, (skp z.L z.r).2, z.t⟩ n n0 (by show (skp z.L z.r).2 = 0; omega) hz.t t1
      rw [e2]
      exact ⟨rhz, rfl⟩
  obtain ⟨rhz, go⟩ := go
  exact runD_eq (ds := [.hnd 1, .int n]) (s := ⟨rhz, (drw n z).2.muz⟩) rfl go
end AG.B
set_option Elab.async false
set_option linter.all false
set_option maxRecDepth 100000
set_option exponentiation.threshold 4000
namespace AG.B
open PySem L2 AG
def IsDraw (cd : List D → List MO → R) : Prop := ∀ (z : DS) (n : Int), z.Good → 0 < n → n < 2 ^ 62 → z.t + 1 < 2 ^ 1000 → cd [.hnd 1, .int n] z.muz = .ok (.int (drw n z).1) (drw n z).2.muz
theorem draw_ok : IsDraw (runD 6 2 drawS) := fun z n hz n0 n1 ht => draw_run z n hz n0 n1 ht
end AG.B
set_option Elab.async false
set_option linter.all false
set_option maxRecDepth 100000
set_option exponentiation.threshold 4000
namespace AG.B
open PySem L2 AG
def UNIT : Int := 2 ^ 70
def TOP : Int := 2 ^ 999
structure Bd (n : Nat) (z : DS) : Prop where
  good : z.Good
  t : z.t + n * UNIT < TOP
theorem unit_pos : (0 : Int) < UNIT := by unfold UNIT; decide
theorem unit_big : (2 : Int) ^ 69 + 2000 < UNIT := by unfold UNIT; decide
theorem top_big : TOP + 5000 < 2 ^ 1000 := by
  have h : decide (TOP + 5000 < 2 ^ 1000) = true := by unfold TOP; decide +kernel
  exact of_decide_eq_true h
theorem Bd.le {n m : Nat} {z : DS} (h : Bd n z) (l : m ≤ n) : Bd m z := ⟨h.good, by
  have := h.t
  have u := unit_pos
  have : (m : Int) * UNIT ≤ n * UNIT := Int.mul_le_mul_of_nonneg_right (by omega) (by omega)
  omega⟩
theorem Bd.step {n : Nat} {z z' : DS} (h : Bd (n + 1) z) (g : z'.Good) (t : z'.t ≤ z.t + (2 ^ 69 + 2000)) : Bd n z' := ⟨g, by
  have h1 := h.t
  have u := unit_big
  have e : ((n + 1 : Nat) : Int) * UNIT = n * UNIT + UNIT := by rw [Int.natCast_add, Int.add_mul]; simp
  rw [e] at h1
  generalize (2 : Int) ^ 69 = P at *
  omega⟩
theorem Bd.room {n : Nat} {z : DS} (h : Bd (n + 1) z) : z.t + (2 ^ 69 + 2000) < 2 ^ 1000 := by
  have h1 := h.t
  have u := unit_big
  have tb := top_big
  have p := unit_pos
  have e : ((n + 1 : Nat) : Int) * UNIT = n * UNIT + UNIT := by rw [Int.natCast_add, Int.add_mul]; simp
  have n0 : 0 ≤ (n : Int) * UNIT := Int.mul_nonneg (by omega) (by omega)
  rw [e] at h1
  generalize (2 : Int) ^ 69 = P at *
  generalize (2 : Int) ^ 1000 = Q at *
  omega
theorem Bd.one {n : Nat} {z : DS} (h : Bd (n + 1) z) : z.t + 1 < 2 ^ 1000 := by
  have := h.room
  have p : (0 : Int) < 2 ^ 69 := by decide
  generalize (2 : Int) ^ 69 = P at *
  generalize (2 : Int) ^ 1000 = Q at *
  omega
end AG.B
set_option Elab.async false
set_option linter.all false
set_option maxRecDepth 100000
set_option exponentiation.threshold 4000
namespace AG
open PySem L2
abbrev Pot := Nat → List MO → Prop
structure Src (P : Pot) : Prop where
  le : ∀ {n m : Nat} {muz : List MO}, P n muz → m ≤ n → P m muz
  fine : ∀ {n : Nat} {muz : List MO}, P n muz → Fine muz
def IsDrw (P : Pot) (c : List D → List MO → R) : Prop := ∀ (n : Nat) (muz : List MO) (m : Int), P (n + 1) muz → 0 < m → m < 2 ^ 62 → ∃ (v : Nat) (muz' : List MO), c [.hnd 1, .int m] muz = .ok (.int (v : Nat)) muz' ∧ (v : Int) < m ∧ P n muz'
def IsPck (P : Pot) (c : List D → List MO → R) : Prop := ∀ (n : Nat) (muz : List MO) (l : List D), P (n + 1) muz → l ≠ [] → l.length < 2 ^ 62 → l.all sto = true → ∃ x ∈ l, ∃ (muz' : List MO), c [.hnd 1, .lst l] muz = .ok x muz' ∧ P n muz'
theorem pck_ok {P : Pot} {cd : List D → List MO → R} (hd : IsDrw P cd) : IsPck P (runD 2 2 (pickS cd)) := by
  intro n muz l h l0 l1 hs
  have n0 : 0 < l.length := List.length_pos_iff.mpr l0
  obtain ⟨v, muz', e, v1, h'⟩ := hd n muz l.length h (by omega) (by omega)
  have hl : v < l.length := by omega
  have ex := atI_ok l (v : Nat) (by omega) v1
  rw [Int.toNat_natCast, List.getElem?_eq_getElem hl] at ex
  have hm : l[v] ∈ l := List.getElem_mem hl
  have hx : sto l[v] = true := List.all_eq_true.mp hs _ hm
  refine ⟨l[v], hm, muz', ?_, h'⟩
  refine w_runE rfl ?_
  show Ok (pickS cd ⟨[.d (.hnd 1), .d (.lst l)], muz⟩) _
  have ei : ∀ s, ixA s (.lst l) (.int (v : Nat)) = some l[v] := fun s => ex
  have k : ∀ rhz, kCall cd [.hnd 1, .int l.length] ⟨rhz, muz⟩ = .ok (.int (v : Nat)) ⟨rhz, muz'⟩ := fun rhz => kCall_eq e rfl
  simp only [pickS, seqS_ap, setS_ap, retS_ap, ifS_ap, iteS_ap, tstS_ap, tNotS_ap, tAndS_ap, tOrS_ap, andS_ap, orS_ap, notS_ap, binS_ap, unS_ap, callF_ap, callV_ap, callN_ap, consS_ap, nilS_ap, tupS_ap, lstF_ap, frzS_ap, ownS_ap, exS_ap, cS_ap, varS_ap, parA_ap, parS_inl, parS_inr, parS_nil, forS_ap, itRng_ap, itRng2_ap, itS_ap, itStr_ap, lcF_ap, slS_ap, slF_ap, noPartS_ap, partS_ap, isiS_ap, chainS_ap, nxS_ap, bkS_ap, ctS_ap, yesS_ap, orT_ap, appS_ap, popAtS_ap, dputS_ap, lputS_ap, hndS_ap, m1S_ap, asgS_ap, O.bind_ok, kVar_d, kVar_own, kB1_ap, kB2_ap, kU_ap, kAnd_t, kAnd_f, kOr_t, kOr_f, kNot_ap, kTst_ap, kTAnd_t, kTAnd_f, kTOr_t, kTOr_f, kTNot_ap, kIte_t, kIte_f, kC0_ap, kC1_ap, kC1'_t, kC1'_f, kC2_ap, kCons_ap, kCons2_ap, kTup_0, kTup_1, kTup_2, kTupB_t, kLst_0, kLst_1, kLstB_t, kFrz_ap, kCv_ap, kCn_ap, ofO_some, ofN_some, kEx_ap, kSet_ap, kSetB_t, kOwn_ap, kRet_non, kRet_bl, kRet_int, kRet_str, kRet_tup, kRet_lst, kRet_hnd, kRet_dct, kRet_ins, kRet_loc, kRet1_ap, kSeq_nx, kSeq_rt, kSeq_bk, kSeq_ct, kIt_ap, kIts_ap, seqD_lst, seqD_tup, seqD_scr, kFor_ap, tgN_ap, tgT_ap, tgsS_nil, tgsS_cons, kSl_ap, kSl1_ap, kSl2_ap, kSlF_ap, kSlF1_ap, kPart_ap, kPd_ap, kPdB_t, kPm_ap, kPc_ap, kPar_ap, putP_d, putP_m, putP_0, kHnd_ap, frzD, kAsg_ap, kAsgB_t, sto_non, sto_bl, sto_int, sto_str, sto_tup, sto_lst, sto_dct, sto_ins, sto_hnd, sto_scr, Bool.and_self, Bool.not_true, Bool.not_false, List.getElem?_cons_zero, List.getElem?_cons_succ, List.set_cons_succ, List.set_cons_zero, kM1_ap, kM1b_ap, kOrT_ap, kOrT1_t, kOrT1_f, eqD_ap, neD_ap, Option.map_some, addD_int, subD_int, gtD_int, ltD_int, cmpI_int, intD_int, intD_bl, negD_int, kStr_ap, kLput_ap, kLput1_ap, decide_true, decide_false, lenD_lst, k, ei, kRet_ap _ _ hx, Ok_ok, and_self]
def potB : Pot := fun n muz => ∃ z : B.DS, muz = z.muz ∧ B.Bd n z
theorem srcB : Src potB := ⟨fun ⟨z, e, h⟩ l => ⟨z, e, h.le l⟩, fun ⟨z, e, h⟩ => by subst e; exact fine_ds (⟨z.L, z.c, z.r, z.t⟩ : DS)⟩
theorem drwB {cd : List D → List MO → R} (hd : B.IsDraw cd) : IsDrw potB cd := by
  rintro n muz m ⟨z, rfl, h⟩ m0 m1
  obtain ⟨g1, g2, g3, g4, g5, g6⟩ := B.drw_good m0 h.good
  refine ⟨(B.drw m z).1.toNat, (B.drw m z).2.muz, ?_, by omega, _, rfl, h.step g1 ?_⟩
  · rw [Int.toNat_of_nonneg g2]
    exact hd z m h.good m0 m1 h.one
  · have p : (0 : Int) < 2 ^ 69 := by decide
    generalize (2 : Int) ^ 69 = P at *
    omega
end AG
set_option Elab.async false
set_option linter.all false
set_option maxRecDepth 100000
set_option exponentiation.threshold 4000
namespace AG
open PySem L2
end AG
set_option Elab.async false
set_option linter.all false
set_option maxRecDepth 100000
set_option exponentiation.threshold 4000
namespace AG
open PySem L2
end AG
set_option Elab.async false
set_option linter.all false
set_option maxRecDepth 100000
set_option exponentiation.threshold 4000
namespace AG
open PySem L2
theorem runD_err {n a : Nat} {body : M Fl} {ds : List D} {muz : List MO} {s : S} {e : Er} (hl : ds.length = a) (h : body ⟨ds.map .d ++ List.replicate (n - a) .un, muz⟩ = .err e s) : runD n a body ds muz = .err e s.muz := by
  unfold runD
  rw [if_pos hl, h]
def eslB : List (Nat × Str) := [(7, "NoGame"), (8, "NoPlan"), (6, "NotPlain"), (21, "TooMany"), (1, "NoCondition")]
noncomputable abbrev kindBS : M Fl := (seqS (setS 1 (frzS (lstF (consS (isES eslB 7 (varS 0)) (consS (isES eslB 8 (varS 0)) (consS (isES eslB 6 (varS 0)) nilS))))))
    (seqS (setS 1 (binS addD (varS 1) (frzS (lstF (consS (isES eslB 21 (varS 0)) (consS (isES eslB 1 (varS 0)) nilS))))))
    (seqS (setS 2 (frzS (lstF (consS (cS (.str "game")) (consS (cS (.str "plan")) (consS (cS (.str "plain")) (consS (cS (.str "many")) (consS (cS (.str "condition")) nilS))))))))
    (retS (iteS (tstS (binS eqD (countS (varS 1) (cS (.bl true))) (cS (.int 1)))) (binS ixA (varS 2) (indexS (varS 1) (cS (.bl true)))) (cS (.str "other")))))))
def kindB : Nat → Str
  | 7 => "game"
  | 8 => "plan"
  | 6 => "plain"
  | 21 => "many"
  | _ => "condition"
def IsKindB (c : List D → List MO → R) : Prop := ∀ (e : Nat) (muz : List MO), e ∈ [7, 8, 6, 21, 1] → c [.exc e] muz = .ok (.str (kindB e)) muz
theorem kindB_ok : IsKindB (runD 3 1 kindBS) := by
  intro e muz he
  have ie : ∀ (c : Nat) (s : S), kIsE eslB c (.exc e) s = .ok (.bl (decide (e = c))) s := fun c s => kIsE_ok eslB c e s (by
    simp only [List.mem_cons, List.not_mem_nil, or_false] at he
    rcases he with rfl | rfl | rfl | rfl | rfl <;> rfl)
  refine w_runE rfl ?_
  show Ok (kindBS ⟨[.d (.exc e), .un, .un], muz⟩) _
  have ad : ∀ (s : S) (a b : List Bool), a.length + b.length ≤ 20 → addD s (.lst (a.map .bl)) (.lst (b.map .bl)) = some (.lst ((a ++ b).map .bl)) := fun s a b h => by
    show (if (a.map D.bl).length + (b.map D.bl).length ≤ LIM then some (D.lst (a.map .bl ++ b.map .bl)) else none) = _
    rw [if_pos (by rw [List.length_map, List.length_map]; exact Nat.le_trans h (by decide)), List.map_append]
  have ad1 : ∀ s (a b c d e : Bool), addD s (.lst [.bl a, .bl b, .bl c]) (.lst [.bl d, .bl e]) = some (.lst ([a, b, c, d, e].map .bl)) := fun s a b c d e => ad s [a, b, c] [d, e] (by simp)
  have cn := fun (s : S) (bs : List Bool) => kCnt2_eq (bs.map .bl) (.bl true) _ s (count_bls s bs true)
  simp only [seqS_ap, setS_ap, retS_ap, ifS_ap, iteS_ap, tstS_ap, tNotS_ap, tAndS_ap, tOrS_ap, andS_ap, orS_ap, notS_ap, binS_ap, unS_ap, callF_ap, callV_ap, callN_ap, consS_ap, nilS_ap, tupS_ap, lstF_ap, frzS_ap, ownS_ap, exS_ap, cS_ap, varS_ap, parA_ap, parS_inl, parS_inr, parS_nil, forS_ap, itRng_ap, itRng2_ap, itS_ap, itStr_ap, lcF_ap, slS_ap, slF_ap, noPartS_ap, partS_ap, isiS_ap, chainS_ap, nxS_ap, bkS_ap, ctS_ap, yesS_ap, orT_ap, appS_ap, popAtS_ap, dputS_ap, lputS_ap, hndS_ap, m1S_ap, asgS_ap, O.bind_ok, kVar_d, kVar_own, kB1_ap, kB2_ap, kU_ap, kAnd_t, kAnd_f, kOr_t, kOr_f, kNot_ap, kTst_ap, kTAnd_t, kTAnd_f, kTOr_t, kTOr_f, kTNot_ap, kIte_t, kIte_f, kC0_ap, kC1_ap, kC1'_t, kC1'_f, kC2_ap, kCons_ap, kCons2_ap, kTup_0, kTup_1, kTup_2, kTupB_t, kLst_0, kLst_1, kLstB_t, kFrz_ap, kCv_ap, kCn_ap, ofO_some, ofN_some, kEx_ap, kSet_ap, kSetB_t, kOwn_ap, kRet_non, kRet_bl, kRet_int, kRet_str, kRet_tup, kRet_lst, kRet_hnd, kRet_dct, kRet_ins, kRet_loc, kRet1_ap, kSeq_nx, kSeq_rt, kSeq_bk, kSeq_ct, kIt_ap, kIts_ap, seqD_lst, seqD_tup, seqD_scr, kFor_ap, tgN_ap, tgT_ap, tgsS_nil, tgsS_cons, kSl_ap, kSl1_ap, kSl2_ap, kSlF_ap, kSlF1_ap, kPart_ap, kPd_ap, kPdB_t, kPm_ap, kPc_ap, kPar_ap, putP_d, putP_m, putP_0, kHnd_ap, frzD, kAsg_ap, kAsgB_t, sto_non, sto_bl, sto_int, sto_str, sto_tup, sto_lst, sto_dct, sto_ins, sto_hnd, sto_scr, Bool.and_self, Bool.not_true, Bool.not_false, List.getElem?_cons_zero, List.getElem?_cons_succ, List.set_cons_succ, List.set_cons_zero, kM1_ap, kM1b_ap, kOrT_ap, kOrT1_t, kOrT1_f, eqD_ap, neD_ap, Option.map_some, addD_int, subD_int, gtD_int, ltD_int, cmpI_int, intD_int, intD_bl, negD_int, kStr_ap, kLput_ap, kLput1_ap, decide_true, decide_false, isCS_ap, isiC_ins, isiC_tup, isiC_non, fld_ins, fputS_ap, kFp1_ap, makeF_ap, blS_ap, kBl_ap, own2_ap, kO2_ap, lenE_lst, lenE_tup, listE_lst, listE_tup, listE_dct, strD_str, isB_ap, isNotB_ap, keySortF_ap, dcF_ap, tupleD_lst, slD_tup, slD_lst, vl_own, inA_loc, notInA_loc, lenD_loc, lenE_loc, ixA_loc, slD_loc, eqB_loc1, eqB_loc2, addD_loc1, addD_loc2, tupleD_loc, listN_loc, listE_loc, reprD_loc, joinD_loc, sortN_loc, bind_assoc, Ok_ok, and_self, true_and, and_true, permS_ap, kPerm_2, kPerm_1, eqB_int, eqB_bls, eqB_str, fzS_ap, kFz_own, lenD_lst, len_tup, txs_length, tts_length, sto_exc, tgU_ap, isiXS_ap, raiseS_ap, O.bind_err, countS_ap, indexS_ap, heardS_ap, revD_tup, revD_lst, isES_ap, ie]
  refine w_lst ?_
  simp only [seqS_ap, setS_ap, retS_ap, ifS_ap, iteS_ap, tstS_ap, tNotS_ap, tAndS_ap, tOrS_ap, andS_ap, orS_ap, notS_ap, binS_ap, unS_ap, callF_ap, callV_ap, callN_ap, consS_ap, nilS_ap, tupS_ap, lstF_ap, frzS_ap, ownS_ap, exS_ap, cS_ap, varS_ap, parA_ap, parS_inl, parS_inr, parS_nil, forS_ap, itRng_ap, itRng2_ap, itS_ap, itStr_ap, lcF_ap, slS_ap, slF_ap, noPartS_ap, partS_ap, isiS_ap, chainS_ap, nxS_ap, bkS_ap, ctS_ap, yesS_ap, orT_ap, appS_ap, popAtS_ap, dputS_ap, lputS_ap, hndS_ap, m1S_ap, asgS_ap, O.bind_ok, kVar_d, kVar_own, kB1_ap, kB2_ap, kU_ap, kAnd_t, kAnd_f, kOr_t, kOr_f, kNot_ap, kTst_ap, kTAnd_t, kTAnd_f, kTOr_t, kTOr_f, kTNot_ap, kIte_t, kIte_f, kC0_ap, kC1_ap, kC1'_t, kC1'_f, kC2_ap, kCons_ap, kCons2_ap, kTup_0, kTup_1, kTup_2, kTupB_t, kLst_0, kLst_1, kLstB_t, kFrz_ap, kCv_ap, kCn_ap, ofO_some, ofN_some, kEx_ap, kSet_ap, kSetB_t, kOwn_ap, kRet_non, kRet_bl, kRet_int, kRet_str, kRet_tup, kRet_lst, kRet_hnd, kRet_dct, kRet_ins, kRet_loc, kRet1_ap, kSeq_nx, kSeq_rt, kSeq_bk, kSeq_ct, kIt_ap, kIts_ap, seqD_lst, seqD_tup, seqD_scr, kFor_ap, tgN_ap, tgT_ap, tgsS_nil, tgsS_cons, kSl_ap, kSl1_ap, kSl2_ap, kSlF_ap, kSlF1_ap, kPart_ap, kPd_ap, kPdB_t, kPm_ap, kPc_ap, kPar_ap, putP_d, putP_m, putP_0, kHnd_ap, frzD, kAsg_ap, kAsgB_t, sto_non, sto_bl, sto_int, sto_str, sto_tup, sto_lst, sto_dct, sto_ins, sto_hnd, sto_scr, Bool.and_self, Bool.not_true, Bool.not_false, List.getElem?_cons_zero, List.getElem?_cons_succ, List.set_cons_succ, List.set_cons_zero, kM1_ap, kM1b_ap, kOrT_ap, kOrT1_t, kOrT1_f, eqD_ap, neD_ap, Option.map_some, addD_int, subD_int, gtD_int, ltD_int, cmpI_int, intD_int, intD_bl, negD_int, kStr_ap, kLput_ap, kLput1_ap, decide_true, decide_false, isCS_ap, isiC_ins, isiC_tup, isiC_non, fld_ins, fputS_ap, kFp1_ap, makeF_ap, blS_ap, kBl_ap, own2_ap, kO2_ap, lenE_lst, lenE_tup, listE_lst, listE_tup, listE_dct, strD_str, isB_ap, isNotB_ap, keySortF_ap, dcF_ap, tupleD_lst, slD_tup, slD_lst, vl_own, inA_loc, notInA_loc, lenD_loc, lenE_loc, ixA_loc, slD_loc, eqB_loc1, eqB_loc2, addD_loc1, addD_loc2, tupleD_loc, listN_loc, listE_loc, reprD_loc, joinD_loc, sortN_loc, bind_assoc, Ok_ok, and_self, true_and, and_true, permS_ap, kPerm_2, kPerm_1, eqB_int, eqB_bls, eqB_str, fzS_ap, kFz_own, lenD_lst, len_tup, txs_length, tts_length, sto_exc, tgU_ap, isiXS_ap, raiseS_ap, O.bind_err, countS_ap, indexS_ap, heardS_ap, revD_tup, revD_lst, isES_ap, ie]
  refine w_lst ?_
  simp only [seqS_ap, setS_ap, retS_ap, ifS_ap, iteS_ap, tstS_ap, tNotS_ap, tAndS_ap, tOrS_ap, andS_ap, orS_ap, notS_ap, binS_ap, unS_ap, callF_ap, callV_ap, callN_ap, consS_ap, nilS_ap, tupS_ap, lstF_ap, frzS_ap, ownS_ap, exS_ap, cS_ap, varS_ap, parA_ap, parS_inl, parS_inr, parS_nil, forS_ap, itRng_ap, itRng2_ap, itS_ap, itStr_ap, lcF_ap, slS_ap, slF_ap, noPartS_ap, partS_ap, isiS_ap, chainS_ap, nxS_ap, bkS_ap, ctS_ap, yesS_ap, orT_ap, appS_ap, popAtS_ap, dputS_ap, lputS_ap, hndS_ap, m1S_ap, asgS_ap, O.bind_ok, kVar_d, kVar_own, kB1_ap, kB2_ap, kU_ap, kAnd_t, kAnd_f, kOr_t, kOr_f, kNot_ap, kTst_ap, kTAnd_t, kTAnd_f, kTOr_t, kTOr_f, kTNot_ap, kIte_t, kIte_f, kC0_ap, kC1_ap, kC1'_t, kC1'_f, kC2_ap, kCons_ap, kCons2_ap, kTup_0, kTup_1, kTup_2, kTupB_t, kLst_0, kLst_1, kLstB_t, kFrz_ap, kCv_ap, kCn_ap, ofO_some, ofN_some, kEx_ap, kSet_ap, kSetB_t, kOwn_ap, kRet_non, kRet_bl, kRet_int, kRet_str, kRet_tup, kRet_lst, kRet_hnd, kRet_dct, kRet_ins, kRet_loc, kRet1_ap, kSeq_nx, kSeq_rt, kSeq_bk, kSeq_ct, kIt_ap, kIts_ap, seqD_lst, seqD_tup, seqD_scr, kFor_ap, tgN_ap, tgT_ap, tgsS_nil, tgsS_cons, kSl_ap, kSl1_ap, kSl2_ap, kSlF_ap, kSlF1_ap, kPart_ap, kPd_ap, kPdB_t, kPm_ap, kPc_ap, kPar_ap, putP_d, putP_m, putP_0, kHnd_ap, frzD, kAsg_ap, kAsgB_t, sto_non, sto_bl, sto_int, sto_str, sto_tup, sto_lst, sto_dct, sto_ins, sto_hnd, sto_scr, Bool.and_self, Bool.not_true, Bool.not_false, List.getElem?_cons_zero, List.getElem?_cons_succ, List.set_cons_succ, List.set_cons_zero, kM1_ap, kM1b_ap, kOrT_ap, kOrT1_t, kOrT1_f, eqD_ap, neD_ap, Option.map_some, addD_int, subD_int, gtD_int, ltD_int, cmpI_int, intD_int, intD_bl, negD_int, kStr_ap, kLput_ap, kLput1_ap, decide_true, decide_false, isCS_ap, isiC_ins, isiC_tup, isiC_non, fld_ins, fputS_ap, kFp1_ap, makeF_ap, blS_ap, kBl_ap, own2_ap, kO2_ap, lenE_lst, lenE_tup, listE_lst, listE_tup, listE_dct, strD_str, isB_ap, isNotB_ap, keySortF_ap, dcF_ap, tupleD_lst, slD_tup, slD_lst, vl_own, inA_loc, notInA_loc, lenD_loc, lenE_loc, ixA_loc, slD_loc, eqB_loc1, eqB_loc2, addD_loc1, addD_loc2, tupleD_loc, listN_loc, listE_loc, reprD_loc, joinD_loc, sortN_loc, bind_assoc, Ok_ok, and_self, true_and, and_true, permS_ap, kPerm_2, kPerm_1, eqB_int, eqB_bls, eqB_str, fzS_ap, kFz_own, lenD_lst, len_tup, txs_length, tts_length, sto_exc, tgU_ap, isiXS_ap, raiseS_ap, O.bind_err, countS_ap, indexS_ap, heardS_ap, revD_tup, revD_lst, ad1]
  refine w_lst ?_
  simp only [seqS_ap, setS_ap, retS_ap, ifS_ap, iteS_ap, tstS_ap, tNotS_ap, tAndS_ap, tOrS_ap, andS_ap, orS_ap, notS_ap, binS_ap, unS_ap, callF_ap, callV_ap, callN_ap, consS_ap, nilS_ap, tupS_ap, lstF_ap, frzS_ap, ownS_ap, exS_ap, cS_ap, varS_ap, parA_ap, parS_inl, parS_inr, parS_nil, forS_ap, itRng_ap, itRng2_ap, itS_ap, itStr_ap, lcF_ap, slS_ap, slF_ap, noPartS_ap, partS_ap, isiS_ap, chainS_ap, nxS_ap, bkS_ap, ctS_ap, yesS_ap, orT_ap, appS_ap, popAtS_ap, dputS_ap, lputS_ap, hndS_ap, m1S_ap, asgS_ap, O.bind_ok, kVar_d, kVar_own, kB1_ap, kB2_ap, kU_ap, kAnd_t, kAnd_f, kOr_t, kOr_f, kNot_ap, kTst_ap, kTAnd_t, kTAnd_f, kTOr_t, kTOr_f, kTNot_ap, kIte_t, kIte_f, kC0_ap, kC1_ap, kC1'_t, kC1'_f, kC2_ap, kCons_ap, kCons2_ap, kTup_0, kTup_1, kTup_2, kTupB_t, kLst_0, kLst_1, kLstB_t, kFrz_ap, kCv_ap, kCn_ap, ofO_some, ofN_some, kEx_ap, kSet_ap, kSetB_t, kOwn_ap, kRet_non, kRet_bl, kRet_int, kRet_str, kRet_tup, kRet_lst, kRet_hnd, kRet_dct, kRet_ins, kRet_loc, kRet1_ap, kSeq_nx, kSeq_rt, kSeq_bk, kSeq_ct, kIt_ap, kIts_ap, seqD_lst, seqD_tup, seqD_scr, kFor_ap, tgN_ap, tgT_ap, tgsS_nil, tgsS_cons, kSl_ap, kSl1_ap, kSl2_ap, kSlF_ap, kSlF1_ap, kPart_ap, kPd_ap, kPdB_t, kPm_ap, kPc_ap, kPar_ap, putP_d, putP_m, putP_0, kHnd_ap, frzD, kAsg_ap, kAsgB_t, sto_non, sto_bl, sto_int, sto_str, sto_tup, sto_lst, sto_dct, sto_ins, sto_hnd, sto_scr, Bool.and_self, Bool.not_true, Bool.not_false, List.getElem?_cons_zero, List.getElem?_cons_succ, List.set_cons_succ, List.set_cons_zero, kM1_ap, kM1b_ap, kOrT_ap, kOrT1_t, kOrT1_f, eqD_ap, neD_ap, Option.map_some, addD_int, subD_int, gtD_int, ltD_int, cmpI_int, intD_int, intD_bl, negD_int, kStr_ap, kLput_ap, kLput1_ap, decide_true, decide_false, isCS_ap, isiC_ins, isiC_tup, isiC_non, fld_ins, fputS_ap, kFp1_ap, makeF_ap, blS_ap, kBl_ap, own2_ap, kO2_ap, lenE_lst, lenE_tup, listE_lst, listE_tup, listE_dct, strD_str, isB_ap, isNotB_ap, keySortF_ap, dcF_ap, tupleD_lst, slD_tup, slD_lst, vl_own, inA_loc, notInA_loc, lenD_loc, lenE_loc, ixA_loc, slD_loc, eqB_loc1, eqB_loc2, addD_loc1, addD_loc2, tupleD_loc, listN_loc, listE_loc, reprD_loc, joinD_loc, sortN_loc, bind_assoc, Ok_ok, and_self, true_and, and_true, permS_ap, kPerm_2, kPerm_1, eqB_int, eqB_bls, eqB_str, fzS_ap, kFz_own, lenD_lst, len_tup, txs_length, tts_length, sto_exc, tgU_ap, isiXS_ap, raiseS_ap, O.bind_err, countS_ap, indexS_ap, heardS_ap, revD_tup, revD_lst, countS_ap, kCnt_lst, cn]
  have fin : ∀ (i : Nat) (bs : List Bool) (w : Str), (∀ s, kIdx2 (.lst (bs.map .bl)) (.bl true) s = .ok (.int (i : Nat)) s) → (∀ s, ixA s (.lst [.str "game", .str "plan", .str "plain", .str "many", .str "condition"]) (.int (i : Nat)) = some (.str w)) → ((bs.countP fun x => decide (x = true)) = 1) → Ok
      ((kTst (.bl (decide (((bs.countP fun x => decide (x = true) : Nat) : Int) = 1))) ⟨[.d (.exc e), .d (.lst (bs.map .bl)), .d (.lst [.str "game", .str "plan", .str "plain", .str "many", .str "condition"])], muz⟩).bind fun a s => (kIte (binS ixA (varS 2) (indexS (varS 1) (cS (.bl true)))) (cS (.str "other")) a s).bind kRet) fun fl s => fl = .rt (.str w) ∧ s.muz = muz := fun i bs w h1 h2 h3 => by
    rw [h3]
    simp only [show decide (((1 : Nat) : Int) = 1) = true from rfl, seqS_ap, setS_ap, retS_ap, ifS_ap, iteS_ap, tstS_ap, tNotS_ap, tAndS_ap, tOrS_ap, andS_ap, orS_ap, notS_ap, binS_ap, unS_ap, callF_ap, callV_ap, callN_ap, consS_ap, nilS_ap, tupS_ap, lstF_ap, frzS_ap, ownS_ap, exS_ap, cS_ap, varS_ap, parA_ap, parS_inl, parS_inr, parS_nil, forS_ap, itRng_ap, itRng2_ap, itS_ap, itStr_ap, lcF_ap, slS_ap, slF_ap, noPartS_ap, partS_ap, isiS_ap, chainS_ap, nxS_ap, bkS_ap, ctS_ap, yesS_ap, orT_ap, appS_ap, popAtS_ap, dputS_ap, lputS_ap, hndS_ap, m1S_ap, asgS_ap, O.bind_ok, kVar_d, kVar_own, kB1_ap, kB2_ap, kU_ap, kAnd_t, kAnd_f, kOr_t, kOr_f, kNot_ap, kTst_ap, kTAnd_t, kTAnd_f, kTOr_t, kTOr_f, kTNot_ap, kIte_t, kIte_f, kC0_ap, kC1_ap, kC1'_t, kC1'_f, kC2_ap, kCons_ap, kCons2_ap, kTup_0, kTup_1, kTup_2, kTupB_t, kLst_0, kLst_1, kLstB_t, kFrz_ap, kCv_ap, kCn_ap, ofO_some, ofN_some, kEx_ap, kSet_ap, kSetB_t, kOwn_ap, kRet_non, kRet_bl, kRet_int, kRet_str, kRet_tup, kRet_lst, kRet_hnd, kRet_dct, kRet_ins, kRet_loc, kRet1_ap, kSeq_nx, kSeq_rt, kSeq_bk, kSeq_ct, kIt_ap, kIts_ap, seqD_lst, seqD_tup, seqD_scr, kFor_ap, tgN_ap, tgT_ap, tgsS_nil, tgsS_cons, kSl_ap, kSl1_ap, kSl2_ap, kSlF_ap, kSlF1_ap, kPart_ap, kPd_ap, kPdB_t, kPm_ap, kPc_ap, kPar_ap, putP_d, putP_m, putP_0, kHnd_ap, frzD, kAsg_ap, kAsgB_t, sto_non, sto_bl, sto_int, sto_str, sto_tup, sto_lst, sto_dct, sto_ins, sto_hnd, sto_scr, Bool.and_self, Bool.not_true, Bool.not_false, List.getElem?_cons_zero, List.getElem?_cons_succ, List.set_cons_succ, List.set_cons_zero, kM1_ap, kM1b_ap, kOrT_ap, kOrT1_t, kOrT1_f, eqD_ap, neD_ap, Option.map_some, addD_int, subD_int, gtD_int, ltD_int, cmpI_int, intD_int, intD_bl, negD_int, kStr_ap, kLput_ap, kLput1_ap, decide_true, decide_false, isCS_ap, isiC_ins, isiC_tup, isiC_non, fld_ins, fputS_ap, kFp1_ap, makeF_ap, blS_ap, kBl_ap, own2_ap, kO2_ap, lenE_lst, lenE_tup, listE_lst, listE_tup, listE_dct, strD_str, isB_ap, isNotB_ap, keySortF_ap, dcF_ap, tupleD_lst, slD_tup, slD_lst, vl_own, inA_loc, notInA_loc, lenD_loc, lenE_loc, ixA_loc, slD_loc, eqB_loc1, eqB_loc2, addD_loc1, addD_loc2, tupleD_loc, listN_loc, listE_loc, reprD_loc, joinD_loc, sortN_loc, bind_assoc, Ok_ok, and_self, true_and, and_true, permS_ap, kPerm_2, kPerm_1, eqB_int, eqB_bls, eqB_str, fzS_ap, kFz_own, lenD_lst, len_tup, txs_length, tts_length, sto_exc, tgU_ap, isiXS_ap, raiseS_ap, O.bind_err, countS_ap, indexS_ap, heardS_ap, revD_tup, revD_lst, indexS_ap, kIdx_lst, h1, h2]
  simp only [List.mem_cons, List.not_mem_nil, or_false] at he
  rcases he with rfl | rfl | rfl | rfl | rfl
  · exact fin 0 [true, false, false, false, false] _ (fun s => Eq.trans rfl rfl) (fun s => Eq.trans rfl rfl) rfl
  · exact fin 1 [false, true, false, false, false] _ (fun s => Eq.trans rfl rfl) (fun s => Eq.trans rfl rfl) rfl
  · exact fin 2 [false, false, true, false, false] _ (fun s => Eq.trans rfl rfl) (fun s => Eq.trans rfl rfl) rfl
  · exact fin 3 [false, false, false, true, false] _ (fun s => Eq.trans rfl rfl) (fun s => Eq.trans rfl rfl) rfl
  · exact fin 4 [false, false, false, false, true] _ (fun s => Eq.trans rfl rfl) (fun s => Eq.trans rfl rfl) rfl
noncomputable abbrev heardBS (ck : List D → List MO → R) : M Fl := (retS (iteS (tstS (binS isNonD (varS 2) (cS .non))) (frzS (lstF (consS (varS 1) nilS))) (callF ck (consS (varS 2) nilS))))
theorem heardB_err {ck : List D → List MO → R} (hk : IsKindB ck) {e : Nat} (he : e ∈ [7, 8, 6, 21, 1]) (ok : Nat → Bool) (hok : ok e = true) (s : S) : kHeard ok (heardBS ck) (.err { c := e } s) = .ok (.str (kindB e)) s := by
  rw [kHeard_err _ _ _ _ hok]
  have k : ∀ rhz, kCall ck [.exc e] ⟨rhz, s.muz⟩ = .ok (.str (kindB e)) ⟨rhz, s.muz⟩ := fun rhz => kCall_eq (hk e s.muz he) rfl
  have i1 : ∀ s, isNonD s (.exc e) .non = some (.bl false) := fun s => Eq.trans rfl rfl
  refine tail_eq (s := s) (s3 := ⟨[.un, .d .non, .d (.exc e), .un], s.muz⟩) ?_
  simp only [seqS_ap, setS_ap, retS_ap, ifS_ap, iteS_ap, tstS_ap, tNotS_ap, tAndS_ap, tOrS_ap, andS_ap, orS_ap, notS_ap, binS_ap, unS_ap, callF_ap, callV_ap, callN_ap, consS_ap, nilS_ap, tupS_ap, lstF_ap, frzS_ap, ownS_ap, exS_ap, cS_ap, varS_ap, parA_ap, parS_inl, parS_inr, parS_nil, forS_ap, itRng_ap, itRng2_ap, itS_ap, itStr_ap, lcF_ap, slS_ap, slF_ap, noPartS_ap, partS_ap, isiS_ap, chainS_ap, nxS_ap, bkS_ap, ctS_ap, yesS_ap, orT_ap, appS_ap, popAtS_ap, dputS_ap, lputS_ap, hndS_ap, m1S_ap, asgS_ap, O.bind_ok, kVar_d, kVar_own, kB1_ap, kB2_ap, kU_ap, kAnd_t, kAnd_f, kOr_t, kOr_f, kNot_ap, kTst_ap, kTAnd_t, kTAnd_f, kTOr_t, kTOr_f, kTNot_ap, kIte_t, kIte_f, kC0_ap, kC1_ap, kC1'_t, kC1'_f, kC2_ap, kCons_ap, kCons2_ap, kTup_0, kTup_1, kTup_2, kTupB_t, kLst_0, kLst_1, kLstB_t, kFrz_ap, kCv_ap, kCn_ap, ofO_some, ofN_some, kEx_ap, kSet_ap, kSetB_t, kOwn_ap, kRet_non, kRet_bl, kRet_int, kRet_str, kRet_tup, kRet_lst, kRet_hnd, kRet_dct, kRet_ins, kRet_loc, kRet1_ap, kSeq_nx, kSeq_rt, kSeq_bk, kSeq_ct, kIt_ap, kIts_ap, seqD_lst, seqD_tup, seqD_scr, kFor_ap, tgN_ap, tgT_ap, tgsS_nil, tgsS_cons, kSl_ap, kSl1_ap, kSl2_ap, kSlF_ap, kSlF1_ap, kPart_ap, kPd_ap, kPdB_t, kPm_ap, kPc_ap, kPar_ap, putP_d, putP_m, putP_0, kHnd_ap, frzD, kAsg_ap, kAsgB_t, sto_non, sto_bl, sto_int, sto_str, sto_tup, sto_lst, sto_dct, sto_ins, sto_hnd, sto_scr, Bool.and_self, Bool.not_true, Bool.not_false, List.getElem?_cons_zero, List.getElem?_cons_succ, List.set_cons_succ, List.set_cons_zero, kM1_ap, kM1b_ap, kOrT_ap, kOrT1_t, kOrT1_f, eqD_ap, neD_ap, Option.map_some, addD_int, subD_int, gtD_int, ltD_int, cmpI_int, intD_int, intD_bl, negD_int, kStr_ap, kLput_ap, kLput1_ap, decide_true, decide_false, isCS_ap, isiC_ins, isiC_tup, isiC_non, fld_ins, fputS_ap, kFp1_ap, makeF_ap, blS_ap, kBl_ap, own2_ap, kO2_ap, lenE_lst, lenE_tup, listE_lst, listE_tup, listE_dct, strD_str, isB_ap, isNotB_ap, keySortF_ap, dcF_ap, tupleD_lst, slD_tup, slD_lst, vl_own, inA_loc, notInA_loc, lenD_loc, lenE_loc, ixA_loc, slD_loc, eqB_loc1, eqB_loc2, addD_loc1, addD_loc2, tupleD_loc, listN_loc, listE_loc, reprD_loc, joinD_loc, sortN_loc, bind_assoc, Ok_ok, and_self, true_and, and_true, permS_ap, kPerm_2, kPerm_1, eqB_int, eqB_bls, eqB_str, fzS_ap, kFz_own, lenD_lst, len_tup, txs_length, tts_length, sto_exc, tgU_ap, isiXS_ap, raiseS_ap, O.bind_err, countS_ap, indexS_ap, heardS_ap, revD_tup, revD_lst, i1, k]
end AG
set_option Elab.async false
set_option linter.all false
set_option maxRecDepth 100000
set_option exponentiation.threshold 4000
namespace AG
open PySem L2
def IsBeg (P : Pot) (c : List D → List MO → R) : Prop := ∀ ns : List Int, ns.length ≤ 63 → ∃ muz, c [.scr ns] [] = .ok (.hnd 1) muz ∧ P (2 ^ 60) muz
theorem begB : IsBeg potB (runD 3 1 beginS) := fun ns h => by
  obtain ⟨z, e, b⟩ := begin_ok ns h
  exact ⟨z.muz, e, ⟨z.L, z.c, z.r, z.t⟩, rfl, ⟨⟨b.good.L, b.good.r, b.good.t, b.good.c, b.good.LL⟩, b.t⟩⟩
end AG
set_option Elab.async false
set_option linter.all false
set_option maxRecDepth 100000
namespace AG
open PySem L2
theorem sub_ext {S a b : List Str} (ha : a.Sublist S) (hb : b.Sublist S) (nd : S.Nodup) (h : ∀ x, x ∈ a ↔ x ∈ b) : a = b := by
  have h1 := sub_of ha hb nd fun x hx => (h x).mp hx
  have h2 := sub_of hb ha nd fun x hx => (h x).mpr hx
  exact h1.eq_of_length_le h2.length_le
def uni (S a b : List Str) : List Str := S.filter fun x => decide (x ∈ a) || decide (x ∈ b)
theorem uni_mem {S a b : List Str} (ha : a.Sublist S) (hb : b.Sublist S) (x : Str) : x ∈ uni S a b ↔ x ∈ a ∨ x ∈ b := by
  unfold uni
  rw [List.mem_filter]
  simp only [Bool.or_eq_true, decide_eq_true_eq]
  exact ⟨fun h => h.2, fun h => ⟨h.elim (fun h => ha.subset h) (fun h => hb.subset h), h⟩⟩
theorem uni_sub (S a b : List Str) : (uni S a b).Sublist S := List.filter_sublist
theorem uni_in {S c a b : List Str} (nd : S.Nodup) (hc : c.Sublist S) (ha : a.Sublist c) (hb : b.Sublist c) : uni S a b = uni c a b :=
  sub_ext (uni_sub _ _ _) ((uni_sub _ _ _).trans hc) nd fun x => by rw [uni_mem (ha.trans hc) (hb.trans hc), uni_mem ha hb]
def NoCl (g : List Str → Bool) (kp : Bool) (S : List Str) : Prop := ∀ a b, (a ≠ [] ∧ a.Sublist S) → (b ≠ [] ∧ b.Sublist S) → g a ≠ kp → g b ≠ kp → g (uni S a b) ≠ kp
theorem NoCl.sub {g : List Str → Bool} {kp : Bool} {S c : List Str} (nd : S.Nodup) (h : NoCl g kp S) (hc : c.Sublist S) : NoCl g kp c := fun a b ha hb ga gb => by
  rw [← uni_in nd hc ha.2 hb.2]
  exact h a b ⟨ha.1, ha.2.trans hc⟩ ⟨hb.1, hb.2.trans hc⟩ ga gb
end AG
set_option Elab.async false
set_option linter.all false
set_option maxRecDepth 100000
set_option exponentiation.threshold 4000
namespace AG
open PySem L2
end AG
set_option Elab.async false
set_option linter.all false
set_option maxRecDepth 100000
set_option exponentiation.threshold 4000
namespace AG
open PySem L2
end AG
set_option Elab.async false
set_option linter.all false
set_option maxRecDepth 100000
set_option exponentiation.threshold 4000
namespace AG
open PySem L2
end AG
namespace AG
end AG
set_option Elab.async false
set_option linter.all false
set_option maxRecDepth 100000
set_option exponentiation.threshold 4000
namespace AG
open PySem L2
structure Pl (d : D) : Prop where
  ty : (tyN d).isSome = true
  len : ∀ x, d = .str x → x.length ≤ 1000
theorem Pl.hnd {d : D} (h : Pl d) : ∀ n, d ≠ .hnd n := fun n e => by
  have := h.ty
  rw [e] at this
  simp [tyN] at this
end AG
set_option Elab.async false
set_option linter.all false
set_option maxRecDepth 100000
set_option exponentiation.threshold 4000
namespace AG
open PySem L2
end AG
set_option Elab.async false
set_option linter.all false
set_option maxRecDepth 100000
set_option exponentiation.threshold 4000
namespace AG
open PySem L2
end AG
set_option Elab.async false
set_option linter.all false
set_option maxRecDepth 100000
set_option exponentiation.threshold 4000
namespace AG
open PySem L2
end AG
set_option Elab.async false
set_option linter.all false
set_option maxRecDepth 100000
set_option exponentiation.threshold 4000
namespace AG
open PySem L2
end AG
set_option Elab.async false
set_option linter.all false
set_option maxRecDepth 100000
set_option exponentiation.threshold 4000
namespace AG
open PySem L2
def qs : List Str := ["qa", "qb", "qc", "qd", "qe", "qf"]
theorem keyQ_str (a b : Str) : keyQ false (.str a) (.str b) = decide (a = b) := by
  simp [keyQ, keyD]
def SK (l : List (D × D)) : Prop := ∀ p ∈ l, ∃ x v, p = (D.str x, v)
theorem look_cons (x y : Str) (v : D) (l : List (D × D)) : lookD false ((.str x, v) :: l) (.str y) = if x = y then some v else lookD false l (.str y) := by
  unfold lookD
  rw [List.find?_cons, keyQ_str]
  by_cases h : x = y
  · simp [h]
  · simp [h]
theorem kDput2_own {i : Nat} {rhz : List SV} {muz : List MO} {t : Bool} {l : List (D × D)} {z y : D} (h : rhz[i]? = some (.own (.md t l))) (hz : sto z = true) (hk : isKey t y = true) (hl : l.length < LIM) : kDput2 z (.loc i) y ⟨rhz, muz⟩ = .ok .nx ⟨rhz.set i (.own (.md t (putD t l y z))), muz⟩ := by
  unfold kDput2 md?; simp only [h, hz, hk, Bool.true_and, decide_eq_true hl, if_true]
theorem dictC_ap (s : S) (l : List (D × D)) : dictC s [.dct false l] = some (.md false l) := Eq.trans rfl rfl
end AG
set_option Elab.async false
set_option linter.all false
set_option maxRecDepth 100000
set_option exponentiation.threshold 4000
namespace AG
open PySem L2
end AG
set_option Elab.async false
set_option linter.all false
set_option maxRecDepth 100000
namespace AG
open PySem L2
theorem isOf_ins (c : Nat) (m : Str) (fs : List (Str × D)) (s : S) (h : fs.lookup m = none) : isOf c m s (.ins c fs) = true := by
  show (decide (c = c) && (fs.lookup m).isNone) = true
  simp [h]
def kLn (call : List D → List MO → R) (c : Nat) : D → S → O D := fun x s1 => if (isOf c "__len__" s1 x && sto x) = true then (match call [x] s1.muz with
  | .ok (.int n) muz => if 0 ≤ n ∧ n < 2 ^ 62 then .ok (.int n) { s1 with muz := muz } else .st
  | _ => .st) else .st
theorem lnS_ap (call : List D → List MO → R) (c : Nat) (f : M D) (s : S) : lnS call c f s = (f s).bind (kLn call c) := Eq.trans rfl rfl
theorem kLn_ok {call : List D → List MO → R} {c : Nat} {fs : List (Str × D)} {n : Nat} {rhz : List SV} {muz muz' : List MO} (h : fs.lookup ("__len__" : Str) = none) (e : call [.ins c fs] muz = .ok (.int (n : Nat)) muz') (hn : n < 2 ^ 62) : kLn call c (.ins c fs) ⟨rhz, muz⟩ = .ok (.int (n : Nat)) ⟨rhz, muz'⟩ := by
  unfold kLn
  rw [isOf_ins c _ fs _ h]
  have h2 : sto (.ins c fs) = true := rfl
  rw [h2, Bool.and_self, if_pos rfl, e]
  show (if (0 : Int) ≤ (n : Nat) ∧ ((n : Nat) : Int) < 2 ^ 62 then _ else _) = _
  rw [if_pos ⟨by omega, by omega⟩]
end AG
set_option Elab.async false
set_option linter.all false
set_option maxRecDepth 100000
set_option exponentiation.threshold 4000
namespace AG
open PySem L2
end AG
set_option Elab.async false
set_option linter.all false
set_option maxRecDepth 100000
set_option exponentiation.threshold 4000
namespace AG
open PySem L2
def plainC (c : Nat) : Bool := decide (48 ≤ c) && decide (c ≤ 122) && decide (c ≠ 92)
def plainT (x : Str) : Bool := x.cps.toList.all plainC
theorem Nm.plain {x : Str} (h : Nm x) : plainT x = true := List.all_eq_true.mpr fun c hc => by
  have := h.low c hc
  unfold plainC
  simp only [Bool.and_eq_true, decide_eq_true_eq]
  omega
end AG
set_option Elab.async false
set_option linter.all false
set_option maxRecDepth 100000
set_option exponentiation.threshold 4000
namespace AG
open PySem L2
structure PdOk (n w : Nat) (q : PyData) : Prop where
  sh : PyData.showable q = true
  ly : PyData.canLay0 q = true
  is : PyData.intsShort 8 q = true
  dp : PyData.depth q ≤ n
  wt : PyData.weight q ≤ w
structure PdA (n w : Nat) (Q : List PyData) : Prop where
  sh : PyData.showableAll Q = true
  ly : PyData.canLayAll0 Q = true
  is : PyData.intsShortAll 8 Q = true
  dp : PyData.depthAll Q ≤ n
  wt : PyData.weightAll Q ≤ w
theorem PdOk.le {n w n' w' : Nat} {q : PyData} (h : PdOk n w q) (hn : n ≤ n') (hw : w ≤ w') : PdOk n' w' q := ⟨h.sh, h.ly, h.is, Nat.le_trans h.dp hn, Nat.le_trans h.wt hw⟩
theorem PdA.le {n w n' w' : Nat} {q : List PyData} (h : PdA n w q) (hn : n ≤ n') (hw : w ≤ w') : PdA n' w' q := ⟨h.sh, h.ly, h.is, Nat.le_trans h.dp hn, Nat.le_trans h.wt hw⟩
theorem PdA.tup {n w : Nat} {Q : List PyData} (h : PdA n w Q) : PdOk (n + 1) w (.tuple Q) := ⟨by simp only [PyData.showable]; exact h.sh, by simp only [PyData.canLay0]; exact h.ly, by simp only [PyData.intsShort]; exact h.is, by
  have := h.dp
  simp only [PyData.depth]
  omega, by simp only [PyData.weight]; exact h.wt⟩
theorem PdA.lst {n w : Nat} {Q : List PyData} (h : PdA n w Q) : PdOk (n + 1) w (.list Q) := ⟨by simp only [PyData.showable]; exact h.sh, by simp only [PyData.canLay0]; exact h.ly, by simp only [PyData.intsShort]; exact h.is, by
  have := h.dp
  simp only [PyData.depth]
  omega, by simp only [PyData.weight]; exact h.wt⟩
end AG
set_option Elab.async false
set_option linter.all false
set_option maxRecDepth 100000
set_option exponentiation.threshold 4000
namespace AG
open PySem L2
end AG
set_option Elab.async false
set_option linter.all false
set_option maxRecDepth 100000
set_option exponentiation.threshold 4000
namespace AG
open PySem L2 AG.Wd
end AG
set_option Elab.async false
set_option linter.all false
set_option maxRecDepth 100000
set_option exponentiation.threshold 4000
namespace AG
open PySem L2
abbrev Mv := Option Str × Str
def sgD : Option Str → D
  | none => .non
  | some x => .str x
def mvD (m : Mv) : D := .tup [sgD m.1, .str m.2]
def mvsD (l : List Mv) : D := .tup (l.map mvD)
abbrev GEn := Str × Str × List Mv
def enV (e : GEn) : D := .tup [.str e.2.1, mvsD e.2.2]
def enP (e : GEn) : D × D := (.str e.1, enV e)
def plsD (g : List GEn) : D := .dct false (g.map enP)
def enAt (g : List GEn) (x : Str) : Option GEn := g.find? fun e => decide (e.1 = x)
def mvsAt (g : List GEn) (x : Str) : List Mv := match enAt g x with
  | some e => e.2.2
  | none => []
theorem look_en (x : Str) : ∀ g : List GEn, lookD false (g.map enP) (.str x) = (enAt g x).map enV
  | [] => rfl
  | e :: g => by
    rw [List.map_cons]
    unfold enP
    rw [look_cons]
    unfold enAt
    rw [List.find?_cons]
    by_cases h : e.1 = x
    · simp [h]
    · have ih := look_en x g
      unfold enP enAt at ih
      simp [h, ih]
theorem enAt_mem {g : List GEn} {x : Str} {e : GEn} (h : enAt g x = some e) : e ∈ g ∧ e.1 = x := ⟨List.mem_of_find?_eq_some h, by simpa using List.find?_some h⟩
theorem enAt_some {g : List GEn} {e : GEn} (h : e ∈ g) : ∃ e', enAt g e.1 = some e' := by
  cases q : enAt g e.1 with
  | some e' => exact ⟨e', rfl⟩
  | none =>
    have := List.find?_eq_none.mp q e h
    simp at this
theorem enAt_nd : ∀ {g : List GEn} {e : GEn}, (g.map (·.1)).Nodup → e ∈ g → enAt g e.1 = some e
  | x :: g, e, nd, h => by
    rw [List.map_cons, List.nodup_cons] at nd
    unfold enAt
    rw [List.find?_cons]
    rcases List.mem_cons.mp h with rfl | h
    · simp
    · have : ¬ x.1 = e.1 := fun q => nd.1 (by rw [q]; exact List.mem_map_of_mem h)
      have ih := enAt_nd nd.2 h
      unfold enAt at ih
      simp [this, ih]
def isPl (g : List GEn) (x : Str) : Bool := (enAt g x).isSome
theorem notIn_pls (s : S) (g : List GEn) (x : Str) : notInA s (.str x) (plsD g) = some (.bl (!isPl g x)) := by
  show (some (lookD false (g.map enP) (.str x)).isSome).map (fun b => D.bl (!b)) = _
  rw [look_en]
  unfold isPl
  cases enAt g x <;> rfl
theorem ix_pls (s : S) {g : List GEn} {x : Str} {e : GEn} (h : enAt g x = some e) : ixA s (plsD g) (.str x) = some (enV e) := by
  show lookD false (g.map enP) (.str x) = _
  rw [look_en, h]
  rfl
theorem len_pls (s : S) (g : List GEn) : lenE s [plsD g] = some (.int g.length) := by
  unfold plsD
  rw [lenE_dct, List.length_map]
theorem keys_pls (g : List GEn) : (g.map enP).map (·.1) = txs (g.map (·.1)) := by
  unfold txs
  rw [List.map_map, List.map_map]
  rfl
theorem ix_mv0 (s : S) (m : Mv) : ixA s (mvD m) (.int 0) = some (sgD m.1) := ix_t0 s _ _
theorem ix_mv1 (s : S) (m : Mv) : ixA s (mvD m) (.int 1) = some (.str m.2) := ix_t1 s _ _ _
theorem ix_en0 (s : S) (e : GEn) : ixA s (enV e) (.int 0) = some (.str e.2.1) := ix_t0 s _ _
theorem ix_en1 (s : S) (e : GEn) : ixA s (enV e) (.int 1) = some (mvsD e.2.2) := ix_t1 s _ _ _
theorem isi_mv (s : S) (m : Mv) : isiD "tuple" s (mvD m) = some (.bl true) := Eq.trans rfl rfl
theorem isi_mvs (s : S) (m : List Mv) : isiD "tuple" s (mvsD m) = some (.bl true) := Eq.trans rfl rfl
theorem isi_en (s : S) (m : GEn) : isiD "tuple" s (enV m) = some (.bl true) := Eq.trans rfl rfl
theorem isi_pls (s : S) (g : List GEn) : isiD "dict" s (plsD g) = some (.bl true) := Eq.trans rfl rfl
theorem len_mv (s : S) (m : Mv) : lenE s [mvD m] = some (.int 2) := Eq.trans rfl rfl
theorem len_en (s : S) (m : GEn) : lenE s [enV m] = some (.int 2) := Eq.trans rfl rfl
theorem len_mvs (s : S) (m : List Mv) : lenE s [mvsD m] = some (.int m.length) := by
  unfold mvsD
  rw [lenE_tup, List.length_map]
theorem isN_sg (s : S) (o : Option Str) : isNonD s (sgD o) .non = some (.bl o.isNone) := by cases o <;> exact Eq.trans rfl rfl
theorem isNN_sg (s : S) (o : Option Str) : isNotNonD s (sgD o) .non = some (.bl o.isSome) := by cases o <;> exact Eq.trans rfl rfl
theorem sto_pls (g : List GEn) : sto (plsD g) = true := rfl
theorem sto_mvs (m : List Mv) : sto (mvsD m) = true := rfl
theorem w_noE {β : Type} {o : O Fl} {f : Fl → S → O β} {Q : β → S → Prop} (h : Ok (o.bind f) Q) : Ok ((noE o).bind f) Q := by
  cases o with
  | ok a s => exact h
  | err e s => exact h.elim
  | st => exact h
noncomputable abbrev areMovesS : M Fl := (seqS (ifS (tOrS (tNotS (tstS (isiS "tuple" (varS 2)))) (tNotS (tstS (chainS (cmpI fun i j => decide (i ≤ j)) (cmpI fun i j => decide (i ≤ j)) (cS (.int 1)) (callV lenE (consS (varS 2) nilS)) (cS (.int 40)))))) (retS (cS (.bl false))) nxS)
    (seqS (forS (itS (varS 2)) (tgN 3) (seqS (ifS (tOrS (tNotS (tstS (isiS "tuple" (varS 3)))) (tOrS (tstS (binS neD (callV lenE (consS (varS 3) nilS)) (cS (.int 2)))) (tOrS (tNotS (tstS (isiS "str" (binS ixA (varS 3) (cS (.int 1)))))) (tstS (binS notInA (binS ixA (varS 3) (cS (.int 1))) (varS 1)))))) (retS (cS (.bl false))) nxS)
    (ifS (tAndS (tstS (binS isNotNonD (binS ixA (varS 3) (cS (.int 0))) (cS .non))) (tNotS (tAndS (tstS (isiS "str" (binS ixA (varS 3) (cS (.int 0))))) (tstS (binS inA (binS ixA (varS 3) (cS (.int 0))) (varS 0)))))) (retS (cS (.bl false))) nxS)))
    (retS (cS (.bl true)))))
noncomputable abbrev arePlacesS (cn cp cm : List D → List MO → R) : M Fl := (seqS (ifS (tOrS (tNotS (tstS (isiS "dict" (varS 1)))) (tNotS (tstS (chainS (cmpI fun i j => decide (i ≤ j)) (cmpI fun i j => decide (i ≤ j)) (cS (.int 1)) (callV lenE (consS (varS 1) nilS)) (cS (.int 120)))))) (retS (cS (.bl false))) nxS)
    (seqS (forI (itI 1) (tgT [(tgN 2), (tgN 3)]) (seqS (ifS (tOrS (tNotS (tstS (callF cn (consS (varS 2) nilS)))) (tOrS (tNotS (tstS (isiS "tuple" (varS 3)))) (tstS (binS neD (callV lenE (consS (varS 3) nilS)) (cS (.int 2)))))) (retS (cS (.bl false))) nxS)
    (ifS (tOrS (tNotS (tstS (callF cp (consS (binS ixA (varS 3) (cS (.int 0))) nilS)))) (tNotS (tstS (callF cm (consS (varS 0) (consS (varS 1) (consS (binS ixA (varS 3) (cS (.int 1))) nilS))))))) (retS (cS (.bl false))) nxS)))
    (retS (cS (.bl true)))))
noncomputable abbrev silentS : M Fl := (seqS (setS 1 (frzS (callN listE (consS (varS 0) nilS))))
    (seqS (whS (tstS (binS neD (varS 1) (frzS (lstF nilS)))) (seqS (setS 2 (frzS (lcF (itS (varS 1)) (tgN 3) (tstS (callV anyD (consS (frzS (lcF (itS (binS ixA (binS ixA (varS 0) (varS 3)) (cS (.int 1)))) (tgN 4) yesS (andS (binS isNonD (binS ixA (varS 4) (cS (.int 0))) (cS .non)) (binS inA (binS ixA (varS 4) (cS (.int 1))) (varS 1))) [4])) nilS))) (varS 3) [3])))
    (seqS (ifS (tstS (binS eqD (callV lenE (consS (varS 2) nilS)) (callV lenE (consS (varS 1) nilS)))) (retS (cS (.bl true))) nxS)
    (setS 1 (varS 2)))))
    (retS (cS (.bl false)))))
noncomputable abbrev gInitS (cs cl cr : List D → List MO → R) : M Fl := (seqS (ifS (tOrS (tNotS (tstS (callF cs (consS (varS 1) nilS)))) (tOrS (tNotS (tstS (callF cl (consS (varS 1) (consS (varS 2) nilS))))) (tstS (callF cr (consS (varS 2) nilS))))) (raiseS 7) nxS)
    (seqS (fputS [13] "signals" (callV tupleD (consS (frzS (callN sortN (consS (varS 1) nilS))) nilS)) (varS 0))
    (fputS [13] "held" (frzS (callN dictC (consS (varS 2) nilS))) (varS 0))))
noncomputable abbrev gLenS : M Fl := (retS (callV lenE (consS (unS (fldD [13] "held") (varS 0)) nilS)))
noncomputable abbrev needPlaceS : M Fl := (ifS (tOrS (tNotS (tstS (isiS "str" (varS 1)))) (tstS (binS notInA (varS 1) (unS (fldD [13] "held") (varS 0))))) (raiseS 7) nxS)
noncomputable abbrev goneS (cu : List D → List MO → R) : M Fl := (seqS (ifS (tNotS (tstS (isiS "tuple" (varS 2)))) (raiseS 8) nxS)
    (seqS (setS 3 (frzS (lstF nilS)))
    (seqS (forS (itS (varS 2)) (tgN 4) (seqS (setS 5 (binS ixA (binS ixA (unS (fldD [13] "held") (varS 0)) (varS 1)) (cS (.int 1))))
    (seqS (ifS (tNotS (tstS (callF cu (consS (varS 4) (consS (cS (.int 0)) (consS (binS subD (callV lenE (consS (varS 5) nilS)) (cS (.int 1))) nilS)))))) (raiseS 8) nxS)
    (seqS (asgS (binS ixA (varS 5) (varS 4)) (tgT [(tgN 6), (tgN 1)]))
    (setS 3 (binS addD (varS 3) (binS mulE (frzS (lstF (consS (varS 6) nilS))) (callV intD (consS (binS isNotNonD (varS 6) (cS .non)) nilS)))))))))
    (retS (tupS (consS (callV tupleD (consS (varS 3) nilS)) (consS (varS 1) nilS)))))))
noncomputable abbrev followS (cn cg : List D → List MO → R) : M Fl := (seqS (exS (callF cn (consS (varS 0) (consS (varS 1) nilS))))
    (retS (callF cg (consS (varS 0) (consS (varS 1) (consS (varS 2) nilS))))))
noncomputable abbrev isPlayS : M Fl := (retS (andS (isiS "str" (varS 0)) (binS inA (varS 0) (tupS (consS (cS (.str "keeper")) (consS (cS (.str "breaker")) nilS))))))
noncomputable abbrev isNumberS : M Fl := (retS (andS (isiS "int" (varS 0)) (andS (notS (isiS "bool" (varS 0))) (chainS (cmpI fun i j => decide (i ≤ j)) (cmpI fun i j => decide (i ≤ j)) (varS 1) (varS 0) (varS 2)))))
structure MvOk (sg : List Str) (g : List GEn) (ms : List Mv) : Prop where
  pos : 1 ≤ ms.length
  few : ms.length ≤ 40
  pl : ∀ m ∈ ms, isPl g m.2 = true
  sg : ∀ m ∈ ms, ∀ x, m.1 = some x → x ∈ sg
def AreMovesT (c : List D → List MO → R) : Prop := ∀ (sg : List Str) (g : List GEn) (ms : List Mv) (muz : List MO), Lay sg → MvOk sg g ms → c [.tup (txs sg), plsD g, mvsD ms] muz = .ok (.bl true) muz
def AreMovesF (c : List D → List MO → R) : Prop := ∀ (sg : List Str) (g : List GEn) (ms : List Mv) (muz : List MO), 40 < ms.length → c [.tup (txs sg), plsD g, mvsD ms] muz = .ok (.bl false) muz
theorem areMoves_no : AreMovesF (runD 4 3 areMovesS) := by
  intro sg g ms muz h
  refine w_runE rfl ?_
  show Ok (areMovesS ⟨[.d (.tup (txs sg)), .d (plsD g), .d (mvsD ms), .un], muz⟩) _
  have h1 : decide ((1 : Int) ≤ (ms.length : Nat)) = true := decide_eq_true (by omega)
  have h2 : decide (((ms.length : Nat) : Int) ≤ 40) = false := decide_eq_false (by omega)
  simp only [seqS_ap, setS_ap, retS_ap, ifS_ap, iteS_ap, tstS_ap, tNotS_ap, tAndS_ap, tOrS_ap, andS_ap, orS_ap, notS_ap, binS_ap, unS_ap, callF_ap, callV_ap, callN_ap, consS_ap, nilS_ap, tupS_ap, lstF_ap, frzS_ap, ownS_ap, exS_ap, cS_ap, varS_ap, parA_ap, parS_inl, parS_inr, parS_nil, forS_ap, itRng_ap, itRng2_ap, itS_ap, itStr_ap, lcF_ap, slS_ap, slF_ap, noPartS_ap, partS_ap, isiS_ap, chainS_ap, nxS_ap, bkS_ap, ctS_ap, yesS_ap, orT_ap, appS_ap, popAtS_ap, dputS_ap, lputS_ap, hndS_ap, m1S_ap, asgS_ap, O.bind_ok, kVar_d, kVar_own, kB1_ap, kB2_ap, kU_ap, kAnd_t, kAnd_f, kOr_t, kOr_f, kNot_ap, kTst_ap, kTAnd_t, kTAnd_f, kTOr_t, kTOr_f, kTNot_ap, kIte_t, kIte_f, kC0_ap, kC1_ap, kC1'_t, kC1'_f, kC2_ap, kCons_ap, kCons2_ap, kTup_0, kTup_1, kTup_2, kTupB_t, kLst_0, kLst_1, kLstB_t, kFrz_ap, kCv_ap, kCn_ap, ofO_some, ofN_some, kEx_ap, kSet_ap, kSetB_t, kOwn_ap, kRet_non, kRet_bl, kRet_int, kRet_str, kRet_tup, kRet_lst, kRet_hnd, kRet_dct, kRet_ins, kRet_loc, kRet1_ap, kSeq_nx, kSeq_rt, kSeq_bk, kSeq_ct, kIt_ap, kIts_ap, seqD_lst, seqD_tup, seqD_scr, kFor_ap, tgN_ap, tgT_ap, tgsS_nil, tgsS_cons, kSl_ap, kSl1_ap, kSl2_ap, kSlF_ap, kSlF1_ap, kPart_ap, kPd_ap, kPdB_t, kPm_ap, kPc_ap, kPar_ap, putP_d, putP_m, putP_0, kHnd_ap, frzD, kAsg_ap, kAsgB_t, sto_non, sto_bl, sto_int, sto_str, sto_tup, sto_lst, sto_dct, sto_ins, sto_hnd, sto_scr, Bool.and_self, Bool.not_true, Bool.not_false, List.getElem?_cons_zero, List.getElem?_cons_succ, List.set_cons_succ, List.set_cons_zero, kM1_ap, kM1b_ap, kOrT_ap, kOrT1_t, kOrT1_f, eqD_ap, neD_ap, Option.map_some, addD_int, subD_int, gtD_int, ltD_int, cmpI_int, intD_int, intD_bl, negD_int, kStr_ap, kLput_ap, kLput1_ap, decide_true, decide_false, isCS_ap, isiC_ins, isiC_tup, isiC_non, fld_ins, fputS_ap, kFp1_ap, makeF_ap, blS_ap, kBl_ap, own2_ap, kO2_ap, lenE_lst, lenE_tup, listE_lst, listE_tup, listE_dct, strD_str, isB_ap, isNotB_ap, keySortF_ap, dcF_ap, tupleD_lst, slD_tup, slD_lst, vl_own, inA_loc, notInA_loc, lenD_loc, lenE_loc, ixA_loc, slD_loc, eqB_loc1, eqB_loc2, addD_loc1, addD_loc2, tupleD_loc, listN_loc, listE_loc, reprD_loc, joinD_loc, sortN_loc, bind_assoc, Ok_ok, and_self, true_and, and_true, permS_ap, kPerm_2, kPerm_1, eqB_int, eqB_bls, eqB_str, fzS_ap, kFz_own, lenD_lst, len_tup, txs_length, tts_length, sto_exc, tgU_ap, isiXS_ap, raiseS_ap, O.bind_err, countS_ap, indexS_ap, heardS_ap, revD_tup, revD_lst, isi_mvs, len_mvs, h1, h2]
theorem areMoves_ok : AreMovesT (runD 4 3 areMovesS) := by
  intro sg g ms muz hl h
  refine w_runE rfl ?_
  show Ok (areMovesS ⟨[.d (.tup (txs sg)), .d (plsD g), .d (mvsD ms), .un], muz⟩) _
  have p := h.pos
  have f := h.few
  have h1 : decide ((1 : Int) ≤ (ms.length : Nat)) = true := decide_eq_true (by omega)
  have h2 : decide (((ms.length : Nat) : Int) ≤ 40) = true := decide_eq_true (by omega)
  have sq : seqD (mvsD ms) = some (ms.map mvD) := seqD_tup _
  simp only [seqS_ap, setS_ap, retS_ap, ifS_ap, iteS_ap, tstS_ap, tNotS_ap, tAndS_ap, tOrS_ap, andS_ap, orS_ap, notS_ap, binS_ap, unS_ap, callF_ap, callV_ap, callN_ap, consS_ap, nilS_ap, tupS_ap, lstF_ap, frzS_ap, ownS_ap, exS_ap, cS_ap, varS_ap, parA_ap, parS_inl, parS_inr, parS_nil, forS_ap, itRng_ap, itRng2_ap, itS_ap, itStr_ap, lcF_ap, slS_ap, slF_ap, noPartS_ap, partS_ap, isiS_ap, chainS_ap, nxS_ap, bkS_ap, ctS_ap, yesS_ap, orT_ap, appS_ap, popAtS_ap, dputS_ap, lputS_ap, hndS_ap, m1S_ap, asgS_ap, O.bind_ok, kVar_d, kVar_own, kB1_ap, kB2_ap, kU_ap, kAnd_t, kAnd_f, kOr_t, kOr_f, kNot_ap, kTst_ap, kTAnd_t, kTAnd_f, kTOr_t, kTOr_f, kTNot_ap, kIte_t, kIte_f, kC0_ap, kC1_ap, kC1'_t, kC1'_f, kC2_ap, kCons_ap, kCons2_ap, kTup_0, kTup_1, kTup_2, kTupB_t, kLst_0, kLst_1, kLstB_t, kFrz_ap, kCv_ap, kCn_ap, ofO_some, ofN_some, kEx_ap, kSet_ap, kSetB_t, kOwn_ap, kRet_non, kRet_bl, kRet_int, kRet_str, kRet_tup, kRet_lst, kRet_hnd, kRet_dct, kRet_ins, kRet_loc, kRet1_ap, kSeq_nx, kSeq_rt, kSeq_bk, kSeq_ct, kIt_ap, kIts_ap, seqD_lst, seqD_tup, seqD_scr, kFor_ap, tgN_ap, tgT_ap, tgsS_nil, tgsS_cons, kSl_ap, kSl1_ap, kSl2_ap, kSlF_ap, kSlF1_ap, kPart_ap, kPd_ap, kPdB_t, kPm_ap, kPc_ap, kPar_ap, putP_d, putP_m, putP_0, kHnd_ap, frzD, kAsg_ap, kAsgB_t, sto_non, sto_bl, sto_int, sto_str, sto_tup, sto_lst, sto_dct, sto_ins, sto_hnd, sto_scr, Bool.and_self, Bool.not_true, Bool.not_false, List.getElem?_cons_zero, List.getElem?_cons_succ, List.set_cons_succ, List.set_cons_zero, kM1_ap, kM1b_ap, kOrT_ap, kOrT1_t, kOrT1_f, eqD_ap, neD_ap, Option.map_some, addD_int, subD_int, gtD_int, ltD_int, cmpI_int, intD_int, intD_bl, negD_int, kStr_ap, kLput_ap, kLput1_ap, decide_true, decide_false, isCS_ap, isiC_ins, isiC_tup, isiC_non, fld_ins, fputS_ap, kFp1_ap, makeF_ap, blS_ap, kBl_ap, own2_ap, kO2_ap, lenE_lst, lenE_tup, listE_lst, listE_tup, listE_dct, strD_str, isB_ap, isNotB_ap, keySortF_ap, dcF_ap, tupleD_lst, slD_tup, slD_lst, vl_own, inA_loc, notInA_loc, lenD_loc, lenE_loc, ixA_loc, slD_loc, eqB_loc1, eqB_loc2, addD_loc1, addD_loc2, tupleD_loc, listN_loc, listE_loc, reprD_loc, joinD_loc, sortN_loc, bind_assoc, Ok_ok, and_self, true_and, and_true, permS_ap, kPerm_2, kPerm_1, eqB_int, eqB_bls, eqB_str, fzS_ap, kFz_own, lenD_lst, len_tup, txs_length, tts_length, sto_exc, tgU_ap, isiXS_ap, raiseS_ap, O.bind_err, countS_ap, indexS_ap, heardS_ap, revD_tup, revD_lst, isi_mvs, len_mvs, h1, h2, sq]
  refine w_for (fun _ s => ∃ sv, s = ⟨[.d (.tup (txs sg)), .d (plsD g), .d (mvsD ms), sv], muz⟩) ⟨_, rfl⟩ (fun i d s hd hI => ?_) (fun s hI => ?_)
  · obtain ⟨sv, rfl⟩ := hI
    rw [List.getElem?_map, Option.map_eq_some_iff] at hd
    obtain ⟨m, hm, rfl⟩ := hd
    have mm := List.mem_of_getElem? hm
    have ip := h.pl m mm
    have isg := h.sg m mm
    have e1 : ∀ s, notInA s (.str m.2) (plsD g) = some (.bl false) := fun s => by rw [notIn_pls, ip]; rfl
    simp only [seqS_ap, setS_ap, retS_ap, ifS_ap, iteS_ap, tstS_ap, tNotS_ap, tAndS_ap, tOrS_ap, andS_ap, orS_ap, notS_ap, binS_ap, unS_ap, callF_ap, callV_ap, callN_ap, consS_ap, nilS_ap, tupS_ap, lstF_ap, frzS_ap, ownS_ap, exS_ap, cS_ap, varS_ap, parA_ap, parS_inl, parS_inr, parS_nil, forS_ap, itRng_ap, itRng2_ap, itS_ap, itStr_ap, lcF_ap, slS_ap, slF_ap, noPartS_ap, partS_ap, isiS_ap, chainS_ap, nxS_ap, bkS_ap, ctS_ap, yesS_ap, orT_ap, appS_ap, popAtS_ap, dputS_ap, lputS_ap, hndS_ap, m1S_ap, asgS_ap, O.bind_ok, kVar_d, kVar_own, kB1_ap, kB2_ap, kU_ap, kAnd_t, kAnd_f, kOr_t, kOr_f, kNot_ap, kTst_ap, kTAnd_t, kTAnd_f, kTOr_t, kTOr_f, kTNot_ap, kIte_t, kIte_f, kC0_ap, kC1_ap, kC1'_t, kC1'_f, kC2_ap, kCons_ap, kCons2_ap, kTup_0, kTup_1, kTup_2, kTupB_t, kLst_0, kLst_1, kLstB_t, kFrz_ap, kCv_ap, kCn_ap, ofO_some, ofN_some, kEx_ap, kSet_ap, kSetB_t, kOwn_ap, kRet_non, kRet_bl, kRet_int, kRet_str, kRet_tup, kRet_lst, kRet_hnd, kRet_dct, kRet_ins, kRet_loc, kRet1_ap, kSeq_nx, kSeq_rt, kSeq_bk, kSeq_ct, kIt_ap, kIts_ap, seqD_lst, seqD_tup, seqD_scr, kFor_ap, tgN_ap, tgT_ap, tgsS_nil, tgsS_cons, kSl_ap, kSl1_ap, kSl2_ap, kSlF_ap, kSlF1_ap, kPart_ap, kPd_ap, kPdB_t, kPm_ap, kPc_ap, kPar_ap, putP_d, putP_m, putP_0, kHnd_ap, frzD, kAsg_ap, kAsgB_t, sto_non, sto_bl, sto_int, sto_str, sto_tup, sto_lst, sto_dct, sto_ins, sto_hnd, sto_scr, Bool.and_self, Bool.not_true, Bool.not_false, List.getElem?_cons_zero, List.getElem?_cons_succ, List.set_cons_succ, List.set_cons_zero, kM1_ap, kM1b_ap, kOrT_ap, kOrT1_t, kOrT1_f, eqD_ap, neD_ap, Option.map_some, addD_int, subD_int, gtD_int, ltD_int, cmpI_int, intD_int, intD_bl, negD_int, kStr_ap, kLput_ap, kLput1_ap, decide_true, decide_false, isCS_ap, isiC_ins, isiC_tup, isiC_non, fld_ins, fputS_ap, kFp1_ap, makeF_ap, blS_ap, kBl_ap, own2_ap, kO2_ap, lenE_lst, lenE_tup, listE_lst, listE_tup, listE_dct, strD_str, isB_ap, isNotB_ap, keySortF_ap, dcF_ap, tupleD_lst, slD_tup, slD_lst, vl_own, inA_loc, notInA_loc, lenD_loc, lenE_loc, ixA_loc, slD_loc, eqB_loc1, eqB_loc2, addD_loc1, addD_loc2, tupleD_loc, listN_loc, listE_loc, reprD_loc, joinD_loc, sortN_loc, bind_assoc, Ok_ok, and_self, true_and, and_true, permS_ap, kPerm_2, kPerm_1, eqB_int, eqB_bls, eqB_str, fzS_ap, kFz_own, lenD_lst, len_tup, txs_length, tts_length, sto_exc, tgU_ap, isiXS_ap, raiseS_ap, O.bind_err, countS_ap, indexS_ap, heardS_ap, revD_tup, revD_lst, isi_mv, len_mv, ix_mv1, isi_str, e1, ix_mv0, isNN_sg]
    cases q : m.1 with
    | none =>
      simp only [seqS_ap, setS_ap, retS_ap, ifS_ap, iteS_ap, tstS_ap, tNotS_ap, tAndS_ap, tOrS_ap, andS_ap, orS_ap, notS_ap, binS_ap, unS_ap, callF_ap, callV_ap, callN_ap, consS_ap, nilS_ap, tupS_ap, lstF_ap, frzS_ap, ownS_ap, exS_ap, cS_ap, varS_ap, parA_ap, parS_inl, parS_inr, parS_nil, forS_ap, itRng_ap, itRng2_ap, itS_ap, itStr_ap, lcF_ap, slS_ap, slF_ap, noPartS_ap, partS_ap, isiS_ap, chainS_ap, nxS_ap, bkS_ap, ctS_ap, yesS_ap, orT_ap, appS_ap, popAtS_ap, dputS_ap, lputS_ap, hndS_ap, m1S_ap, asgS_ap, O.bind_ok, kVar_d, kVar_own, kB1_ap, kB2_ap, kU_ap, kAnd_t, kAnd_f, kOr_t, kOr_f, kNot_ap, kTst_ap, kTAnd_t, kTAnd_f, kTOr_t, kTOr_f, kTNot_ap, kIte_t, kIte_f, kC0_ap, kC1_ap, kC1'_t, kC1'_f, kC2_ap, kCons_ap, kCons2_ap, kTup_0, kTup_1, kTup_2, kTupB_t, kLst_0, kLst_1, kLstB_t, kFrz_ap, kCv_ap, kCn_ap, ofO_some, ofN_some, kEx_ap, kSet_ap, kSetB_t, kOwn_ap, kRet_non, kRet_bl, kRet_int, kRet_str, kRet_tup, kRet_lst, kRet_hnd, kRet_dct, kRet_ins, kRet_loc, kRet1_ap, kSeq_nx, kSeq_rt, kSeq_bk, kSeq_ct, kIt_ap, kIts_ap, seqD_lst, seqD_tup, seqD_scr, kFor_ap, tgN_ap, tgT_ap, tgsS_nil, tgsS_cons, kSl_ap, kSl1_ap, kSl2_ap, kSlF_ap, kSlF1_ap, kPart_ap, kPd_ap, kPdB_t, kPm_ap, kPc_ap, kPar_ap, putP_d, putP_m, putP_0, kHnd_ap, frzD, kAsg_ap, kAsgB_t, sto_non, sto_bl, sto_int, sto_str, sto_tup, sto_lst, sto_dct, sto_ins, sto_hnd, sto_scr, Bool.and_self, Bool.not_true, Bool.not_false, List.getElem?_cons_zero, List.getElem?_cons_succ, List.set_cons_succ, List.set_cons_zero, kM1_ap, kM1b_ap, kOrT_ap, kOrT1_t, kOrT1_f, eqD_ap, neD_ap, Option.map_some, addD_int, subD_int, gtD_int, ltD_int, cmpI_int, intD_int, intD_bl, negD_int, kStr_ap, kLput_ap, kLput1_ap, decide_true, decide_false, isCS_ap, isiC_ins, isiC_tup, isiC_non, fld_ins, fputS_ap, kFp1_ap, makeF_ap, blS_ap, kBl_ap, own2_ap, kO2_ap, lenE_lst, lenE_tup, listE_lst, listE_tup, listE_dct, strD_str, isB_ap, isNotB_ap, keySortF_ap, dcF_ap, tupleD_lst, slD_tup, slD_lst, vl_own, inA_loc, notInA_loc, lenD_loc, lenE_loc, ixA_loc, slD_loc, eqB_loc1, eqB_loc2, addD_loc1, addD_loc2, tupleD_loc, listN_loc, listE_loc, reprD_loc, joinD_loc, sortN_loc, bind_assoc, Ok_ok, and_self, true_and, and_true, permS_ap, kPerm_2, kPerm_1, eqB_int, eqB_bls, eqB_str, fzS_ap, kFz_own, lenD_lst, len_tup, txs_length, tts_length, sto_exc, tgU_ap, isiXS_ap, raiseS_ap, O.bind_err, countS_ap, indexS_ap, heardS_ap, revD_tup, revD_lst, Option.isSome_none]
      exact ⟨_, rfl⟩
    | some x =>
      have e2 : ∀ s, inA s (.str x) (.tup (txs sg)) = some (.bl true) := fun s => by rw [inT_txs hl (hl x (isg x q)), decide_eq_true (isg x q)]
      simp only [seqS_ap, setS_ap, retS_ap, ifS_ap, iteS_ap, tstS_ap, tNotS_ap, tAndS_ap, tOrS_ap, andS_ap, orS_ap, notS_ap, binS_ap, unS_ap, callF_ap, callV_ap, callN_ap, consS_ap, nilS_ap, tupS_ap, lstF_ap, frzS_ap, ownS_ap, exS_ap, cS_ap, varS_ap, parA_ap, parS_inl, parS_inr, parS_nil, forS_ap, itRng_ap, itRng2_ap, itS_ap, itStr_ap, lcF_ap, slS_ap, slF_ap, noPartS_ap, partS_ap, isiS_ap, chainS_ap, nxS_ap, bkS_ap, ctS_ap, yesS_ap, orT_ap, appS_ap, popAtS_ap, dputS_ap, lputS_ap, hndS_ap, m1S_ap, asgS_ap, O.bind_ok, kVar_d, kVar_own, kB1_ap, kB2_ap, kU_ap, kAnd_t, kAnd_f, kOr_t, kOr_f, kNot_ap, kTst_ap, kTAnd_t, kTAnd_f, kTOr_t, kTOr_f, kTNot_ap, kIte_t, kIte_f, kC0_ap, kC1_ap, kC1'_t, kC1'_f, kC2_ap, kCons_ap, kCons2_ap, kTup_0, kTup_1, kTup_2, kTupB_t, kLst_0, kLst_1, kLstB_t, kFrz_ap, kCv_ap, kCn_ap, ofO_some, ofN_some, kEx_ap, kSet_ap, kSetB_t, kOwn_ap, kRet_non, kRet_bl, kRet_int, kRet_str, kRet_tup, kRet_lst, kRet_hnd, kRet_dct, kRet_ins, kRet_loc, kRet1_ap, kSeq_nx, kSeq_rt, kSeq_bk, kSeq_ct, kIt_ap, kIts_ap, seqD_lst, seqD_tup, seqD_scr, kFor_ap, tgN_ap, tgT_ap, tgsS_nil, tgsS_cons, kSl_ap, kSl1_ap, kSl2_ap, kSlF_ap, kSlF1_ap, kPart_ap, kPd_ap, kPdB_t, kPm_ap, kPc_ap, kPar_ap, putP_d, putP_m, putP_0, kHnd_ap, frzD, kAsg_ap, kAsgB_t, sto_non, sto_bl, sto_int, sto_str, sto_tup, sto_lst, sto_dct, sto_ins, sto_hnd, sto_scr, Bool.and_self, Bool.not_true, Bool.not_false, List.getElem?_cons_zero, List.getElem?_cons_succ, List.set_cons_succ, List.set_cons_zero, kM1_ap, kM1b_ap, kOrT_ap, kOrT1_t, kOrT1_f, eqD_ap, neD_ap, Option.map_some, addD_int, subD_int, gtD_int, ltD_int, cmpI_int, intD_int, intD_bl, negD_int, kStr_ap, kLput_ap, kLput1_ap, decide_true, decide_false, isCS_ap, isiC_ins, isiC_tup, isiC_non, fld_ins, fputS_ap, kFp1_ap, makeF_ap, blS_ap, kBl_ap, own2_ap, kO2_ap, lenE_lst, lenE_tup, listE_lst, listE_tup, listE_dct, strD_str, isB_ap, isNotB_ap, keySortF_ap, dcF_ap, tupleD_lst, slD_tup, slD_lst, vl_own, inA_loc, notInA_loc, lenD_loc, lenE_loc, ixA_loc, slD_loc, eqB_loc1, eqB_loc2, addD_loc1, addD_loc2, tupleD_loc, listN_loc, listE_loc, reprD_loc, joinD_loc, sortN_loc, bind_assoc, Ok_ok, and_self, true_and, and_true, permS_ap, kPerm_2, kPerm_1, eqB_int, eqB_bls, eqB_str, fzS_ap, kFz_own, lenD_lst, len_tup, txs_length, tts_length, sto_exc, tgU_ap, isiXS_ap, raiseS_ap, O.bind_err, countS_ap, indexS_ap, heardS_ap, revD_tup, revD_lst, Option.isSome_some, ix_mv0, q, sgD, isi_str, e2]
      exact ⟨_, rfl⟩
  · obtain ⟨sv, rfl⟩ := hI
    simp only [seqS_ap, setS_ap, retS_ap, ifS_ap, iteS_ap, tstS_ap, tNotS_ap, tAndS_ap, tOrS_ap, andS_ap, orS_ap, notS_ap, binS_ap, unS_ap, callF_ap, callV_ap, callN_ap, consS_ap, nilS_ap, tupS_ap, lstF_ap, frzS_ap, ownS_ap, exS_ap, cS_ap, varS_ap, parA_ap, parS_inl, parS_inr, parS_nil, forS_ap, itRng_ap, itRng2_ap, itS_ap, itStr_ap, lcF_ap, slS_ap, slF_ap, noPartS_ap, partS_ap, isiS_ap, chainS_ap, nxS_ap, bkS_ap, ctS_ap, yesS_ap, orT_ap, appS_ap, popAtS_ap, dputS_ap, lputS_ap, hndS_ap, m1S_ap, asgS_ap, O.bind_ok, kVar_d, kVar_own, kB1_ap, kB2_ap, kU_ap, kAnd_t, kAnd_f, kOr_t, kOr_f, kNot_ap, kTst_ap, kTAnd_t, kTAnd_f, kTOr_t, kTOr_f, kTNot_ap, kIte_t, kIte_f, kC0_ap, kC1_ap, kC1'_t, kC1'_f, kC2_ap, kCons_ap, kCons2_ap, kTup_0, kTup_1, kTup_2, kTupB_t, kLst_0, kLst_1, kLstB_t, kFrz_ap, kCv_ap, kCn_ap, ofO_some, ofN_some, kEx_ap, kSet_ap, kSetB_t, kOwn_ap, kRet_non, kRet_bl, kRet_int, kRet_str, kRet_tup, kRet_lst, kRet_hnd, kRet_dct, kRet_ins, kRet_loc, kRet1_ap, kSeq_nx, kSeq_rt, kSeq_bk, kSeq_ct, kIt_ap, kIts_ap, seqD_lst, seqD_tup, seqD_scr, kFor_ap, tgN_ap, tgT_ap, tgsS_nil, tgsS_cons, kSl_ap, kSl1_ap, kSl2_ap, kSlF_ap, kSlF1_ap, kPart_ap, kPd_ap, kPdB_t, kPm_ap, kPc_ap, kPar_ap, putP_d, putP_m, putP_0, kHnd_ap, frzD, kAsg_ap, kAsgB_t, sto_non, sto_bl, sto_int, sto_str, sto_tup, sto_lst, sto_dct, sto_ins, sto_hnd, sto_scr, Bool.and_self, Bool.not_true, Bool.not_false, List.getElem?_cons_zero, List.getElem?_cons_succ, List.set_cons_succ, List.set_cons_zero, kM1_ap, kM1b_ap, kOrT_ap, kOrT1_t, kOrT1_f, eqD_ap, neD_ap, Option.map_some, addD_int, subD_int, gtD_int, ltD_int, cmpI_int, intD_int, intD_bl, negD_int, kStr_ap, kLput_ap, kLput1_ap, decide_true, decide_false, isCS_ap, isiC_ins, isiC_tup, isiC_non, fld_ins, fputS_ap, kFp1_ap, makeF_ap, blS_ap, kBl_ap, own2_ap, kO2_ap, lenE_lst, lenE_tup, listE_lst, listE_tup, listE_dct, strD_str, isB_ap, isNotB_ap, keySortF_ap, dcF_ap, tupleD_lst, slD_tup, slD_lst, vl_own, inA_loc, notInA_loc, lenD_loc, lenE_loc, ixA_loc, slD_loc, eqB_loc1, eqB_loc2, addD_loc1, addD_loc2, tupleD_loc, listN_loc, listE_loc, reprD_loc, joinD_loc, sortN_loc, bind_assoc, Ok_ok, and_self, true_and, and_true, permS_ap, kPerm_2, kPerm_1, eqB_int, eqB_bls, eqB_str, fzS_ap, kFz_own, lenD_lst, len_tup, txs_length, tts_length, sto_exc, tgU_ap, isiXS_ap, raiseS_ap, O.bind_err, countS_ap, indexS_ap, heardS_ap, revD_tup, revD_lst]
end AG
set_option Elab.async false
set_option linter.all false
set_option maxRecDepth 100000
set_option exponentiation.threshold 4000
namespace AG
open PySem L2
def plyL : List Str := ["keeper", "breaker"]
theorem ply_lay : Lay plyL := by
  have h : plyL.all (fun x => PyData.canLay0 (.str x)) = true := by decide +kernel
  exact fun x hx => List.all_eq_true.mp h x hx
def IsPlayT (c : List D → List MO → R) : Prop := ∀ (x : Str) (muz : List MO), x ∈ plyL → c [.str x] muz = .ok (.bl true) muz
theorem isPlay_ok : IsPlayT (runD 1 1 isPlayS) := by
  intro x muz hx
  refine w_runE rfl ?_
  show Ok (isPlayS ⟨[.d (.str x)], muz⟩) _
  have e : ∀ s, inA s (.str x) (.tup [.str "keeper", .str "breaker"]) = some (.bl true) := fun s => by
    have := inT_txs (s := s) ply_lay (ply_lay x hx)
    rw [decide_eq_true hx] at this
    exact this
  simp only [seqS_ap, setS_ap, retS_ap, ifS_ap, iteS_ap, tstS_ap, tNotS_ap, tAndS_ap, tOrS_ap, andS_ap, orS_ap, notS_ap, binS_ap, unS_ap, callF_ap, callV_ap, callN_ap, consS_ap, nilS_ap, tupS_ap, lstF_ap, frzS_ap, ownS_ap, exS_ap, cS_ap, varS_ap, parA_ap, parS_inl, parS_inr, parS_nil, forS_ap, itRng_ap, itRng2_ap, itS_ap, itStr_ap, lcF_ap, slS_ap, slF_ap, noPartS_ap, partS_ap, isiS_ap, chainS_ap, nxS_ap, bkS_ap, ctS_ap, yesS_ap, orT_ap, appS_ap, popAtS_ap, dputS_ap, lputS_ap, hndS_ap, m1S_ap, asgS_ap, O.bind_ok, kVar_d, kVar_own, kB1_ap, kB2_ap, kU_ap, kAnd_t, kAnd_f, kOr_t, kOr_f, kNot_ap, kTst_ap, kTAnd_t, kTAnd_f, kTOr_t, kTOr_f, kTNot_ap, kIte_t, kIte_f, kC0_ap, kC1_ap, kC1'_t, kC1'_f, kC2_ap, kCons_ap, kCons2_ap, kTup_0, kTup_1, kTup_2, kTupB_t, kLst_0, kLst_1, kLstB_t, kFrz_ap, kCv_ap, kCn_ap, ofO_some, ofN_some, kEx_ap, kSet_ap, kSetB_t, kOwn_ap, kRet_non, kRet_bl, kRet_int, kRet_str, kRet_tup, kRet_lst, kRet_hnd, kRet_dct, kRet_ins, kRet_loc, kRet1_ap, kSeq_nx, kSeq_rt, kSeq_bk, kSeq_ct, kIt_ap, kIts_ap, seqD_lst, seqD_tup, seqD_scr, kFor_ap, tgN_ap, tgT_ap, tgsS_nil, tgsS_cons, kSl_ap, kSl1_ap, kSl2_ap, kSlF_ap, kSlF1_ap, kPart_ap, kPd_ap, kPdB_t, kPm_ap, kPc_ap, kPar_ap, putP_d, putP_m, putP_0, kHnd_ap, frzD, kAsg_ap, kAsgB_t, sto_non, sto_bl, sto_int, sto_str, sto_tup, sto_lst, sto_dct, sto_ins, sto_hnd, sto_scr, Bool.and_self, Bool.not_true, Bool.not_false, List.getElem?_cons_zero, List.getElem?_cons_succ, List.set_cons_succ, List.set_cons_zero, kM1_ap, kM1b_ap, kOrT_ap, kOrT1_t, kOrT1_f, eqD_ap, neD_ap, Option.map_some, addD_int, subD_int, gtD_int, ltD_int, cmpI_int, intD_int, intD_bl, negD_int, kStr_ap, kLput_ap, kLput1_ap, decide_true, decide_false, isCS_ap, isiC_ins, isiC_tup, isiC_non, fld_ins, fputS_ap, kFp1_ap, makeF_ap, blS_ap, kBl_ap, own2_ap, kO2_ap, lenE_lst, lenE_tup, listE_lst, listE_tup, listE_dct, strD_str, isB_ap, isNotB_ap, keySortF_ap, dcF_ap, tupleD_lst, slD_tup, slD_lst, vl_own, inA_loc, notInA_loc, lenD_loc, lenE_loc, ixA_loc, slD_loc, eqB_loc1, eqB_loc2, addD_loc1, addD_loc2, tupleD_loc, listN_loc, listE_loc, reprD_loc, joinD_loc, sortN_loc, bind_assoc, Ok_ok, and_self, true_and, and_true, permS_ap, kPerm_2, kPerm_1, eqB_int, eqB_bls, eqB_str, fzS_ap, kFz_own, lenD_lst, len_tup, txs_length, tts_length, sto_exc, tgU_ap, isiXS_ap, raiseS_ap, O.bind_err, countS_ap, indexS_ap, heardS_ap, revD_tup, revD_lst, isi_str, e]
structure GOk (sg : List Str) (g : List GEn) : Prop where
  pos : 1 ≤ g.length
  few : g.length ≤ 120
  nm : ∀ e ∈ g, Nm e.1
  ply : ∀ e ∈ g, e.2.1 ∈ plyL
  mv : ∀ e ∈ g, MvOk sg g e.2.2
def ArePlT (c : List D → List MO → R) : Prop := ∀ (sg : List Str) (g : List GEn) (muz : List MO), Lay sg → GOk sg g → c [.tup (txs sg), plsD g] muz = .ok (.bl true) muz
def ArePlF (c : List D → List MO → R) : Prop := ∀ (sg : List Str) (g : List GEn) (muz : List MO), (120 < g.length ∨ ∃ e r, g = e :: r ∧ Nm e.1 ∧ e.2.1 ∈ plyL ∧ 40 < e.2.2.length) → c [.tup (txs sg), plsD g] muz = .ok (.bl false) muz
theorem pairs_pls (g : List GEn) : (g.map enP).map pairT = g.map fun e => D.tup [.str e.1, enV e] := by
  rw [List.map_map]
  rfl
section
variable {cn cp cm : List D → List MO → R}
theorem arePl_ok (hn : IsName cn) (hp : IsPlayT cp) (hm : AreMovesT cm) : ArePlT (runD 4 2 (arePlacesS cn cp cm)) := by
  intro sg g muz hl h
  refine w_runE rfl ?_
  show Ok (arePlacesS cn cp cm ⟨[.d (.tup (txs sg)), .d (plsD g), .un, .un], muz⟩) _
  have p := h.pos
  have f := h.few
  have h1 : decide ((1 : Int) ≤ (g.length : Nat)) = true := decide_eq_true (by omega)
  have h2 : decide (((g.length : Nat) : Int) ≤ 120) = true := decide_eq_true (by omega)
  have it := itI_d (i := 1) (rhz := [.d (.tup (txs sg)), .d (plsD g), .un, .un]) (muz := muz) (l := g.map enP) rfl
  rw [pairs_pls] at it
  simp only [seqS_ap, setS_ap, retS_ap, ifS_ap, iteS_ap, tstS_ap, tNotS_ap, tAndS_ap, tOrS_ap, andS_ap, orS_ap, notS_ap, binS_ap, unS_ap, callF_ap, callV_ap, callN_ap, consS_ap, nilS_ap, tupS_ap, lstF_ap, frzS_ap, ownS_ap, exS_ap, cS_ap, varS_ap, parA_ap, parS_inl, parS_inr, parS_nil, forS_ap, itRng_ap, itRng2_ap, itS_ap, itStr_ap, lcF_ap, slS_ap, slF_ap, noPartS_ap, partS_ap, isiS_ap, chainS_ap, nxS_ap, bkS_ap, ctS_ap, yesS_ap, orT_ap, appS_ap, popAtS_ap, dputS_ap, lputS_ap, hndS_ap, m1S_ap, asgS_ap, O.bind_ok, kVar_d, kVar_own, kB1_ap, kB2_ap, kU_ap, kAnd_t, kAnd_f, kOr_t, kOr_f, kNot_ap, kTst_ap, kTAnd_t, kTAnd_f, kTOr_t, kTOr_f, kTNot_ap, kIte_t, kIte_f, kC0_ap, kC1_ap, kC1'_t, kC1'_f, kC2_ap, kCons_ap, kCons2_ap, kTup_0, kTup_1, kTup_2, kTupB_t, kLst_0, kLst_1, kLstB_t, kFrz_ap, kCv_ap, kCn_ap, ofO_some, ofN_some, kEx_ap, kSet_ap, kSetB_t, kOwn_ap, kRet_non, kRet_bl, kRet_int, kRet_str, kRet_tup, kRet_lst, kRet_hnd, kRet_dct, kRet_ins, kRet_loc, kRet1_ap, kSeq_nx, kSeq_rt, kSeq_bk, kSeq_ct, kIt_ap, kIts_ap, seqD_lst, seqD_tup, seqD_scr, kFor_ap, tgN_ap, tgT_ap, tgsS_nil, tgsS_cons, kSl_ap, kSl1_ap, kSl2_ap, kSlF_ap, kSlF1_ap, kPart_ap, kPd_ap, kPdB_t, kPm_ap, kPc_ap, kPar_ap, putP_d, putP_m, putP_0, kHnd_ap, frzD, kAsg_ap, kAsgB_t, sto_non, sto_bl, sto_int, sto_str, sto_tup, sto_lst, sto_dct, sto_ins, sto_hnd, sto_scr, Bool.and_self, Bool.not_true, Bool.not_false, List.getElem?_cons_zero, List.getElem?_cons_succ, List.set_cons_succ, List.set_cons_zero, kM1_ap, kM1b_ap, kOrT_ap, kOrT1_t, kOrT1_f, eqD_ap, neD_ap, Option.map_some, addD_int, subD_int, gtD_int, ltD_int, cmpI_int, intD_int, intD_bl, negD_int, kStr_ap, kLput_ap, kLput1_ap, decide_true, decide_false, isCS_ap, isiC_ins, isiC_tup, isiC_non, fld_ins, fputS_ap, kFp1_ap, makeF_ap, blS_ap, kBl_ap, own2_ap, kO2_ap, lenE_lst, lenE_tup, listE_lst, listE_tup, listE_dct, strD_str, isB_ap, isNotB_ap, keySortF_ap, dcF_ap, tupleD_lst, slD_tup, slD_lst, vl_own, inA_loc, notInA_loc, lenD_loc, lenE_loc, ixA_loc, slD_loc, eqB_loc1, eqB_loc2, addD_loc1, addD_loc2, tupleD_loc, listN_loc, listE_loc, reprD_loc, joinD_loc, sortN_loc, bind_assoc, Ok_ok, and_self, true_and, and_true, permS_ap, kPerm_2, kPerm_1, eqB_int, eqB_bls, eqB_str, fzS_ap, kFz_own, lenD_lst, len_tup, txs_length, tts_length, sto_exc, tgU_ap, isiXS_ap, raiseS_ap, O.bind_err, countS_ap, indexS_ap, heardS_ap, revD_tup, revD_lst, isi_pls, len_pls, h1, h2, forI_ap, it]
  refine w_noE ?_
  refine w_for (fun _ s => ∃ a b, s = ⟨[.d (.tup (txs sg)), .d (plsD g), a, b], muz⟩) ⟨_, _, rfl⟩ (fun i d s hd hI => ?_) (fun s hI => ?_)
  · obtain ⟨a, b, rfl⟩ := hI
    rw [List.getElem?_map, Option.map_eq_some_iff] at hd
    obtain ⟨e, he, rfl⟩ := hd
    have mm := List.mem_of_getElem? he
    have k1 : ∀ rhz, kCall cn [.str e.1] ⟨rhz, muz⟩ = .ok (.bl true) ⟨rhz, muz⟩ := fun rhz => kCall_eq (hn e.1 muz (h.nm e mm)) rfl
    have k2 : ∀ rhz, kCall cp [.str e.2.1] ⟨rhz, muz⟩ = .ok (.bl true) ⟨rhz, muz⟩ := fun rhz => kCall_eq (hp e.2.1 muz (h.ply e mm)) rfl
    have k3 : ∀ rhz, kCall cm [.tup (txs sg), plsD g, mvsD e.2.2] ⟨rhz, muz⟩ = .ok (.bl true) ⟨rhz, muz⟩ := fun rhz => kCall_eq (hm sg g e.2.2 muz hl (h.mv e mm)) rfl
    simp only [seqS_ap, setS_ap, retS_ap, ifS_ap, iteS_ap, tstS_ap, tNotS_ap, tAndS_ap, tOrS_ap, andS_ap, orS_ap, notS_ap, binS_ap, unS_ap, callF_ap, callV_ap, callN_ap, consS_ap, nilS_ap, tupS_ap, lstF_ap, frzS_ap, ownS_ap, exS_ap, cS_ap, varS_ap, parA_ap, parS_inl, parS_inr, parS_nil, forS_ap, itRng_ap, itRng2_ap, itS_ap, itStr_ap, lcF_ap, slS_ap, slF_ap, noPartS_ap, partS_ap, isiS_ap, chainS_ap, nxS_ap, bkS_ap, ctS_ap, yesS_ap, orT_ap, appS_ap, popAtS_ap, dputS_ap, lputS_ap, hndS_ap, m1S_ap, asgS_ap, O.bind_ok, kVar_d, kVar_own, kB1_ap, kB2_ap, kU_ap, kAnd_t, kAnd_f, kOr_t, kOr_f, kNot_ap, kTst_ap, kTAnd_t, kTAnd_f, kTOr_t, kTOr_f, kTNot_ap, kIte_t, kIte_f, kC0_ap, kC1_ap, kC1'_t, kC1'_f, kC2_ap, kCons_ap, kCons2_ap, kTup_0, kTup_1, kTup_2, kTupB_t, kLst_0, kLst_1, kLstB_t, kFrz_ap, kCv_ap, kCn_ap, ofO_some, ofN_some, kEx_ap, kSet_ap, kSetB_t, kOwn_ap, kRet_non, kRet_bl, kRet_int, kRet_str, kRet_tup, kRet_lst, kRet_hnd, kRet_dct, kRet_ins, kRet_loc, kRet1_ap, kSeq_nx, kSeq_rt, kSeq_bk, kSeq_ct, kIt_ap, kIts_ap, seqD_lst, seqD_tup, seqD_scr, kFor_ap, tgN_ap, tgT_ap, tgsS_nil, tgsS_cons, kSl_ap, kSl1_ap, kSl2_ap, kSlF_ap, kSlF1_ap, kPart_ap, kPd_ap, kPdB_t, kPm_ap, kPc_ap, kPar_ap, putP_d, putP_m, putP_0, kHnd_ap, frzD, kAsg_ap, kAsgB_t, sto_non, sto_bl, sto_int, sto_str, sto_tup, sto_lst, sto_dct, sto_ins, sto_hnd, sto_scr, Bool.and_self, Bool.not_true, Bool.not_false, List.getElem?_cons_zero, List.getElem?_cons_succ, List.set_cons_succ, List.set_cons_zero, kM1_ap, kM1b_ap, kOrT_ap, kOrT1_t, kOrT1_f, eqD_ap, neD_ap, Option.map_some, addD_int, subD_int, gtD_int, ltD_int, cmpI_int, intD_int, intD_bl, negD_int, kStr_ap, kLput_ap, kLput1_ap, decide_true, decide_false, isCS_ap, isiC_ins, isiC_tup, isiC_non, fld_ins, fputS_ap, kFp1_ap, makeF_ap, blS_ap, kBl_ap, own2_ap, kO2_ap, lenE_lst, lenE_tup, listE_lst, listE_tup, listE_dct, strD_str, isB_ap, isNotB_ap, keySortF_ap, dcF_ap, tupleD_lst, slD_tup, slD_lst, vl_own, inA_loc, notInA_loc, lenD_loc, lenE_loc, ixA_loc, slD_loc, eqB_loc1, eqB_loc2, addD_loc1, addD_loc2, tupleD_loc, listN_loc, listE_loc, reprD_loc, joinD_loc, sortN_loc, bind_assoc, Ok_ok, and_self, true_and, and_true, permS_ap, kPerm_2, kPerm_1, eqB_int, eqB_bls, eqB_str, fzS_ap, kFz_own, lenD_lst, len_tup, txs_length, tts_length, sto_exc, tgU_ap, isiXS_ap, raiseS_ap, O.bind_err, countS_ap, indexS_ap, heardS_ap, revD_tup, revD_lst, k1, isi_en, len_en, ix_en0, k2, ix_en1, k3]
    exact ⟨_, _, rfl⟩
  · obtain ⟨a, b, rfl⟩ := hI
    simp only [seqS_ap, setS_ap, retS_ap, ifS_ap, iteS_ap, tstS_ap, tNotS_ap, tAndS_ap, tOrS_ap, andS_ap, orS_ap, notS_ap, binS_ap, unS_ap, callF_ap, callV_ap, callN_ap, consS_ap, nilS_ap, tupS_ap, lstF_ap, frzS_ap, ownS_ap, exS_ap, cS_ap, varS_ap, parA_ap, parS_inl, parS_inr, parS_nil, forS_ap, itRng_ap, itRng2_ap, itS_ap, itStr_ap, lcF_ap, slS_ap, slF_ap, noPartS_ap, partS_ap, isiS_ap, chainS_ap, nxS_ap, bkS_ap, ctS_ap, yesS_ap, orT_ap, appS_ap, popAtS_ap, dputS_ap, lputS_ap, hndS_ap, m1S_ap, asgS_ap, O.bind_ok, kVar_d, kVar_own, kB1_ap, kB2_ap, kU_ap, kAnd_t, kAnd_f, kOr_t, kOr_f, kNot_ap, kTst_ap, kTAnd_t, kTAnd_f, kTOr_t, kTOr_f, kTNot_ap, kIte_t, kIte_f, kC0_ap, kC1_ap, kC1'_t, kC1'_f, kC2_ap, kCons_ap, kCons2_ap, kTup_0, kTup_1, kTup_2, kTupB_t, kLst_0, kLst_1, kLstB_t, kFrz_ap, kCv_ap, kCn_ap, ofO_some, ofN_some, kEx_ap, kSet_ap, kSetB_t, kOwn_ap, kRet_non, kRet_bl, kRet_int, kRet_str, kRet_tup, kRet_lst, kRet_hnd, kRet_dct, kRet_ins, kRet_loc, kRet1_ap, kSeq_nx, kSeq_rt, kSeq_bk, kSeq_ct, kIt_ap, kIts_ap, seqD_lst, seqD_tup, seqD_scr, kFor_ap, tgN_ap, tgT_ap, tgsS_nil, tgsS_cons, kSl_ap, kSl1_ap, kSl2_ap, kSlF_ap, kSlF1_ap, kPart_ap, kPd_ap, kPdB_t, kPm_ap, kPc_ap, kPar_ap, putP_d, putP_m, putP_0, kHnd_ap, frzD, kAsg_ap, kAsgB_t, sto_non, sto_bl, sto_int, sto_str, sto_tup, sto_lst, sto_dct, sto_ins, sto_hnd, sto_scr, Bool.and_self, Bool.not_true, Bool.not_false, List.getElem?_cons_zero, List.getElem?_cons_succ, List.set_cons_succ, List.set_cons_zero, kM1_ap, kM1b_ap, kOrT_ap, kOrT1_t, kOrT1_f, eqD_ap, neD_ap, Option.map_some, addD_int, subD_int, gtD_int, ltD_int, cmpI_int, intD_int, intD_bl, negD_int, kStr_ap, kLput_ap, kLput1_ap, decide_true, decide_false, isCS_ap, isiC_ins, isiC_tup, isiC_non, fld_ins, fputS_ap, kFp1_ap, makeF_ap, blS_ap, kBl_ap, own2_ap, kO2_ap, lenE_lst, lenE_tup, listE_lst, listE_tup, listE_dct, strD_str, isB_ap, isNotB_ap, keySortF_ap, dcF_ap, tupleD_lst, slD_tup, slD_lst, vl_own, inA_loc, notInA_loc, lenD_loc, lenE_loc, ixA_loc, slD_loc, eqB_loc1, eqB_loc2, addD_loc1, addD_loc2, tupleD_loc, listN_loc, listE_loc, reprD_loc, joinD_loc, sortN_loc, bind_assoc, Ok_ok, and_self, true_and, and_true, permS_ap, kPerm_2, kPerm_1, eqB_int, eqB_bls, eqB_str, fzS_ap, kFz_own, lenD_lst, len_tup, txs_length, tts_length, sto_exc, tgU_ap, isiXS_ap, raiseS_ap, O.bind_err, countS_ap, indexS_ap, heardS_ap, revD_tup, revD_lst]
theorem arePl_no (hn : IsName cn) (hp : IsPlayT cp) (hm : AreMovesF cm) : ArePlF (runD 4 2 (arePlacesS cn cp cm)) := by
  intro sg g muz h
  refine w_runE rfl ?_
  show Ok (arePlacesS cn cp cm ⟨[.d (.tup (txs sg)), .d (plsD g), .un, .un], muz⟩) _
  have pos : 1 ≤ g.length := by
    rcases h with h | ⟨e, r, rfl, _⟩
    · omega
    · simp
  have h1 : decide ((1 : Int) ≤ (g.length : Nat)) = true := decide_eq_true (by omega)
  by_cases f : g.length ≤ 120
  · rcases h with h | ⟨e, r, rfl, n1, n2, n3⟩
    · omega
    have h2 : decide ((((e :: r).length : Nat) : Int) ≤ 120) = true := decide_eq_true (by omega)
    have it := itI_d (i := 1) (rhz := [.d (.tup (txs sg)), .d (plsD (e :: r)), .un, .un]) (muz := muz) (l := (e :: r).map enP) rfl
    rw [pairs_pls, List.map_cons] at it
    have k1 : ∀ rhz, kCall cn [.str e.1] ⟨rhz, muz⟩ = .ok (.bl true) ⟨rhz, muz⟩ := fun rhz => kCall_eq (hn e.1 muz n1) rfl
    have k2 : ∀ rhz, kCall cp [.str e.2.1] ⟨rhz, muz⟩ = .ok (.bl true) ⟨rhz, muz⟩ := fun rhz => kCall_eq (hp e.2.1 muz n2) rfl
    have k3 : ∀ rhz, kCall cm [.tup (txs sg), plsD (e :: r), mvsD e.2.2] ⟨rhz, muz⟩ = .ok (.bl false) ⟨rhz, muz⟩ := fun rhz => kCall_eq (hm sg (e :: r) e.2.2 muz n3) rfl
    simp only [seqS_ap, setS_ap, retS_ap, ifS_ap, iteS_ap, tstS_ap, tNotS_ap, tAndS_ap, tOrS_ap, andS_ap, orS_ap, notS_ap, binS_ap, unS_ap, callF_ap, callV_ap, callN_ap, consS_ap, nilS_ap, tupS_ap, lstF_ap, frzS_ap, ownS_ap, exS_ap, cS_ap, varS_ap, parA_ap, parS_inl, parS_inr, parS_nil, forS_ap, itRng_ap, itRng2_ap, itS_ap, itStr_ap, lcF_ap, slS_ap, slF_ap, noPartS_ap, partS_ap, isiS_ap, chainS_ap, nxS_ap, bkS_ap, ctS_ap, yesS_ap, orT_ap, appS_ap, popAtS_ap, dputS_ap, lputS_ap, hndS_ap, m1S_ap, asgS_ap, O.bind_ok, kVar_d, kVar_own, kB1_ap, kB2_ap, kU_ap, kAnd_t, kAnd_f, kOr_t, kOr_f, kNot_ap, kTst_ap, kTAnd_t, kTAnd_f, kTOr_t, kTOr_f, kTNot_ap, kIte_t, kIte_f, kC0_ap, kC1_ap, kC1'_t, kC1'_f, kC2_ap, kCons_ap, kCons2_ap, kTup_0, kTup_1, kTup_2, kTupB_t, kLst_0, kLst_1, kLstB_t, kFrz_ap, kCv_ap, kCn_ap, ofO_some, ofN_some, kEx_ap, kSet_ap, kSetB_t, kOwn_ap, kRet_non, kRet_bl, kRet_int, kRet_str, kRet_tup, kRet_lst, kRet_hnd, kRet_dct, kRet_ins, kRet_loc, kRet1_ap, kSeq_nx, kSeq_rt, kSeq_bk, kSeq_ct, kIt_ap, kIts_ap, seqD_lst, seqD_tup, seqD_scr, kFor_ap, tgN_ap, tgT_ap, tgsS_nil, tgsS_cons, kSl_ap, kSl1_ap, kSl2_ap, kSlF_ap, kSlF1_ap, kPart_ap, kPd_ap, kPdB_t, kPm_ap, kPc_ap, kPar_ap, putP_d, putP_m, putP_0, kHnd_ap, frzD, kAsg_ap, kAsgB_t, sto_non, sto_bl, sto_int, sto_str, sto_tup, sto_lst, sto_dct, sto_ins, sto_hnd, sto_scr, Bool.and_self, Bool.not_true, Bool.not_false, List.getElem?_cons_zero, List.getElem?_cons_succ, List.set_cons_succ, List.set_cons_zero, kM1_ap, kM1b_ap, kOrT_ap, kOrT1_t, kOrT1_f, eqD_ap, neD_ap, Option.map_some, addD_int, subD_int, gtD_int, ltD_int, cmpI_int, intD_int, intD_bl, negD_int, kStr_ap, kLput_ap, kLput1_ap, decide_true, decide_false, isCS_ap, isiC_ins, isiC_tup, isiC_non, fld_ins, fputS_ap, kFp1_ap, makeF_ap, blS_ap, kBl_ap, own2_ap, kO2_ap, lenE_lst, lenE_tup, listE_lst, listE_tup, listE_dct, strD_str, isB_ap, isNotB_ap, keySortF_ap, dcF_ap, tupleD_lst, slD_tup, slD_lst, vl_own, inA_loc, notInA_loc, lenD_loc, lenE_loc, ixA_loc, slD_loc, eqB_loc1, eqB_loc2, addD_loc1, addD_loc2, tupleD_loc, listN_loc, listE_loc, reprD_loc, joinD_loc, sortN_loc, bind_assoc, Ok_ok, and_self, true_and, and_true, permS_ap, kPerm_2, kPerm_1, eqB_int, eqB_bls, eqB_str, fzS_ap, kFz_own, lenD_lst, len_tup, txs_length, tts_length, sto_exc, tgU_ap, isiXS_ap, raiseS_ap, O.bind_err, countS_ap, indexS_ap, heardS_ap, revD_tup, revD_lst, isi_pls, len_pls, h1, h2, forI_ap, it]
    refine w_noE ?_
    rw [forL]
    simp only [seqS_ap, setS_ap, retS_ap, ifS_ap, iteS_ap, tstS_ap, tNotS_ap, tAndS_ap, tOrS_ap, andS_ap, orS_ap, notS_ap, binS_ap, unS_ap, callF_ap, callV_ap, callN_ap, consS_ap, nilS_ap, tupS_ap, lstF_ap, frzS_ap, ownS_ap, exS_ap, cS_ap, varS_ap, parA_ap, parS_inl, parS_inr, parS_nil, forS_ap, itRng_ap, itRng2_ap, itS_ap, itStr_ap, lcF_ap, slS_ap, slF_ap, noPartS_ap, partS_ap, isiS_ap, chainS_ap, nxS_ap, bkS_ap, ctS_ap, yesS_ap, orT_ap, appS_ap, popAtS_ap, dputS_ap, lputS_ap, hndS_ap, m1S_ap, asgS_ap, O.bind_ok, kVar_d, kVar_own, kB1_ap, kB2_ap, kU_ap, kAnd_t, kAnd_f, kOr_t, kOr_f, kNot_ap, kTst_ap, kTAnd_t, kTAnd_f, kTOr_t, kTOr_f, kTNot_ap, kIte_t, kIte_f, kC0_ap, kC1_ap, kC1'_t, kC1'_f, kC2_ap, kCons_ap, kCons2_ap, kTup_0, kTup_1, kTup_2, kTupB_t, kLst_0, kLst_1, kLstB_t, kFrz_ap, kCv_ap, kCn_ap, ofO_some, ofN_some, kEx_ap, kSet_ap, kSetB_t, kOwn_ap, kRet_non, kRet_bl, kRet_int, kRet_str, kRet_tup, kRet_lst, kRet_hnd, kRet_dct, kRet_ins, kRet_loc, kRet1_ap, kSeq_nx, kSeq_rt, kSeq_bk, kSeq_ct, kIt_ap, kIts_ap, seqD_lst, seqD_tup, seqD_scr, kFor_ap, tgN_ap, tgT_ap, tgsS_nil, tgsS_cons, kSl_ap, kSl1_ap, kSl2_ap, kSlF_ap, kSlF1_ap, kPart_ap, kPd_ap, kPdB_t, kPm_ap, kPc_ap, kPar_ap, putP_d, putP_m, putP_0, kHnd_ap, frzD, kAsg_ap, kAsgB_t, sto_non, sto_bl, sto_int, sto_str, sto_tup, sto_lst, sto_dct, sto_ins, sto_hnd, sto_scr, Bool.and_self, Bool.not_true, Bool.not_false, List.getElem?_cons_zero, List.getElem?_cons_succ, List.set_cons_succ, List.set_cons_zero, kM1_ap, kM1b_ap, kOrT_ap, kOrT1_t, kOrT1_f, eqD_ap, neD_ap, Option.map_some, addD_int, subD_int, gtD_int, ltD_int, cmpI_int, intD_int, intD_bl, negD_int, kStr_ap, kLput_ap, kLput1_ap, decide_true, decide_false, isCS_ap, isiC_ins, isiC_tup, isiC_non, fld_ins, fputS_ap, kFp1_ap, makeF_ap, blS_ap, kBl_ap, own2_ap, kO2_ap, lenE_lst, lenE_tup, listE_lst, listE_tup, listE_dct, strD_str, isB_ap, isNotB_ap, keySortF_ap, dcF_ap, tupleD_lst, slD_tup, slD_lst, vl_own, inA_loc, notInA_loc, lenD_loc, lenE_loc, ixA_loc, slD_loc, eqB_loc1, eqB_loc2, addD_loc1, addD_loc2, tupleD_loc, listN_loc, listE_loc, reprD_loc, joinD_loc, sortN_loc, bind_assoc, Ok_ok, and_self, true_and, and_true, permS_ap, kPerm_2, kPerm_1, eqB_int, eqB_bls, eqB_str, fzS_ap, kFz_own, lenD_lst, len_tup, txs_length, tts_length, sto_exc, tgU_ap, isiXS_ap, raiseS_ap, O.bind_err, countS_ap, indexS_ap, heardS_ap, revD_tup, revD_lst, k1, isi_en, len_en, ix_en0, k2, ix_en1, k3]
  · have h2 : decide (((g.length : Nat) : Int) ≤ 120) = false := decide_eq_false (by omega)
    simp only [seqS_ap, setS_ap, retS_ap, ifS_ap, iteS_ap, tstS_ap, tNotS_ap, tAndS_ap, tOrS_ap, andS_ap, orS_ap, notS_ap, binS_ap, unS_ap, callF_ap, callV_ap, callN_ap, consS_ap, nilS_ap, tupS_ap, lstF_ap, frzS_ap, ownS_ap, exS_ap, cS_ap, varS_ap, parA_ap, parS_inl, parS_inr, parS_nil, forS_ap, itRng_ap, itRng2_ap, itS_ap, itStr_ap, lcF_ap, slS_ap, slF_ap, noPartS_ap, partS_ap, isiS_ap, chainS_ap, nxS_ap, bkS_ap, ctS_ap, yesS_ap, orT_ap, appS_ap, popAtS_ap, dputS_ap, lputS_ap, hndS_ap, m1S_ap, asgS_ap, O.bind_ok, kVar_d, kVar_own, kB1_ap, kB2_ap, kU_ap, kAnd_t, kAnd_f, kOr_t, kOr_f, kNot_ap, kTst_ap, kTAnd_t, kTAnd_f, kTOr_t, kTOr_f, kTNot_ap, kIte_t, kIte_f, kC0_ap, kC1_ap, kC1'_t, kC1'_f, kC2_ap, kCons_ap, kCons2_ap, kTup_0, kTup_1, kTup_2, kTupB_t, kLst_0, kLst_1, kLstB_t, kFrz_ap, kCv_ap, kCn_ap, ofO_some, ofN_some, kEx_ap, kSet_ap, kSetB_t, kOwn_ap, kRet_non, kRet_bl, kRet_int, kRet_str, kRet_tup, kRet_lst, kRet_hnd, kRet_dct, kRet_ins, kRet_loc, kRet1_ap, kSeq_nx, kSeq_rt, kSeq_bk, kSeq_ct, kIt_ap, kIts_ap, seqD_lst, seqD_tup, seqD_scr, kFor_ap, tgN_ap, tgT_ap, tgsS_nil, tgsS_cons, kSl_ap, kSl1_ap, kSl2_ap, kSlF_ap, kSlF1_ap, kPart_ap, kPd_ap, kPdB_t, kPm_ap, kPc_ap, kPar_ap, putP_d, putP_m, putP_0, kHnd_ap, frzD, kAsg_ap, kAsgB_t, sto_non, sto_bl, sto_int, sto_str, sto_tup, sto_lst, sto_dct, sto_ins, sto_hnd, sto_scr, Bool.and_self, Bool.not_true, Bool.not_false, List.getElem?_cons_zero, List.getElem?_cons_succ, List.set_cons_succ, List.set_cons_zero, kM1_ap, kM1b_ap, kOrT_ap, kOrT1_t, kOrT1_f, eqD_ap, neD_ap, Option.map_some, addD_int, subD_int, gtD_int, ltD_int, cmpI_int, intD_int, intD_bl, negD_int, kStr_ap, kLput_ap, kLput1_ap, decide_true, decide_false, isCS_ap, isiC_ins, isiC_tup, isiC_non, fld_ins, fputS_ap, kFp1_ap, makeF_ap, blS_ap, kBl_ap, own2_ap, kO2_ap, lenE_lst, lenE_tup, listE_lst, listE_tup, listE_dct, strD_str, isB_ap, isNotB_ap, keySortF_ap, dcF_ap, tupleD_lst, slD_tup, slD_lst, vl_own, inA_loc, notInA_loc, lenD_loc, lenE_loc, ixA_loc, slD_loc, eqB_loc1, eqB_loc2, addD_loc1, addD_loc2, tupleD_loc, listN_loc, listE_loc, reprD_loc, joinD_loc, sortN_loc, bind_assoc, Ok_ok, and_self, true_and, and_true, permS_ap, kPerm_2, kPerm_1, eqB_int, eqB_bls, eqB_str, fzS_ap, kFz_own, lenD_lst, len_tup, txs_length, tts_length, sto_exc, tgU_ap, isiXS_ap, raiseS_ap, O.bind_err, countS_ap, indexS_ap, heardS_ap, revD_tup, revD_lst, isi_pls, len_pls, h1, h2]
end
def keptL (g : List GEn) (l : List Str) : List Str := l.filter fun x => (mvsAt g x).any fun m => m.1.isNone && decide (m.2 ∈ l)
def silN (g : List GEn) : Nat → List Str → Bool
  | 0, _ => false
  | n + 1, l => if l = [] then false else if (keptL g l).length = l.length then true else silN g n (keptL g l)
def silR (g : List GEn) : Bool := silN g g.length (g.map (·.1))
abbrev silC : M Bool := tstS (binS neD (varS 1) (frzS (lstF nilS)))
noncomputable abbrev silB : M Fl := (seqS (setS 2 (frzS (lcF (itS (varS 1)) (tgN 3) (tstS (callV anyD (consS (frzS (lcF (itS (binS ixA (binS ixA (varS 0) (varS 3)) (cS (.int 1)))) (tgN 4) yesS (andS (binS isNonD (binS ixA (varS 4) (cS (.int 0))) (cS .non)) (binS inA (binS ixA (varS 4) (cS (.int 1))) (varS 1))) [4])) nilS))) (varS 3) [3])))
    (seqS (ifS (tstS (binS eqD (callV lenE (consS (varS 2) nilS)) (callV lenE (consS (varS 1) nilS)))) (retS (cS (.bl true))) nxS)
    (setS 1 (varS 2))))
theorem bls_mv (p : Mv → Bool) (l : List Mv) (s : S) : anyD s [.lst (l.map fun m => D.bl (p m))] = some (.bl (l.any p)) := by
  show (blsOf _).map _ = _
  have e : ∀ l : List Mv, blsOf (l.map fun m => D.bl (p m)) = some (l.map p) := by
    intro l
    induction l with
    | nil => rfl
    | cons x l ih => rw [List.map_cons, List.map_cons, blsOf, ih]; rfl
  rw [e, Option.map_some]
  congr 2
  induction l with
  | nil => rfl
  | cons x l ih => simp [List.any_cons, ih]
theorem sil_step {g : List GEn} {l : List Str} {muz : List MO} {s2 s3 s4 : SV} (hl : Lay l) (hg : ∀ x ∈ l, isPl g x = true) (gm : ∀ e ∈ g, e.2.2.length ≤ 1000 ∧ ∀ m ∈ e.2.2, PyData.canLay0 (.str m.2) = true) (few : l.length ≤ 1000) (o3 : isOwn s3 = false) (o4 : isOwn s4 = false) :
    Ok (silB ⟨[.d (plsD g), .d (.lst (txs l)), s2, s3, s4], muz⟩) fun fl s => if (keptL g l).length = l.length then fl = .rt (.bl true) ∧ s.muz = muz else fl = .nx ∧ s = ⟨[.d (plsD g), .d (.lst (txs (keptL g l))), .d (.lst (txs (keptL g l))), s3, s4], muz⟩ := by
  unfold silB
  simp only [seqS_ap, setS_ap, retS_ap, ifS_ap, iteS_ap, tstS_ap, tNotS_ap, tAndS_ap, tOrS_ap, andS_ap, orS_ap, notS_ap, binS_ap, unS_ap, callF_ap, callV_ap, callN_ap, consS_ap, nilS_ap, tupS_ap, lstF_ap, frzS_ap, ownS_ap, exS_ap, cS_ap, varS_ap, parA_ap, parS_inl, parS_inr, parS_nil, forS_ap, itRng_ap, itRng2_ap, itS_ap, itStr_ap, lcF_ap, slS_ap, slF_ap, noPartS_ap, partS_ap, isiS_ap, chainS_ap, nxS_ap, bkS_ap, ctS_ap, yesS_ap, orT_ap, appS_ap, popAtS_ap, dputS_ap, lputS_ap, hndS_ap, m1S_ap, asgS_ap, O.bind_ok, kVar_d, kVar_own, kB1_ap, kB2_ap, kU_ap, kAnd_t, kAnd_f, kOr_t, kOr_f, kNot_ap, kTst_ap, kTAnd_t, kTAnd_f, kTOr_t, kTOr_f, kTNot_ap, kIte_t, kIte_f, kC0_ap, kC1_ap, kC1'_t, kC1'_f, kC2_ap, kCons_ap, kCons2_ap, kTup_0, kTup_1, kTup_2, kTupB_t, kLst_0, kLst_1, kLstB_t, kFrz_ap, kCv_ap, kCn_ap, ofO_some, ofN_some, kEx_ap, kSet_ap, kSetB_t, kOwn_ap, kRet_non, kRet_bl, kRet_int, kRet_str, kRet_tup, kRet_lst, kRet_hnd, kRet_dct, kRet_ins, kRet_loc, kRet1_ap, kSeq_nx, kSeq_rt, kSeq_bk, kSeq_ct, kIt_ap, kIts_ap, seqD_lst, seqD_tup, seqD_scr, kFor_ap, tgN_ap, tgT_ap, tgsS_nil, tgsS_cons, kSl_ap, kSl1_ap, kSl2_ap, kSlF_ap, kSlF1_ap, kPart_ap, kPd_ap, kPdB_t, kPm_ap, kPc_ap, kPar_ap, putP_d, putP_m, putP_0, kHnd_ap, frzD, kAsg_ap, kAsgB_t, sto_non, sto_bl, sto_int, sto_str, sto_tup, sto_lst, sto_dct, sto_ins, sto_hnd, sto_scr, Bool.and_self, Bool.not_true, Bool.not_false, List.getElem?_cons_zero, List.getElem?_cons_succ, List.set_cons_succ, List.set_cons_zero, kM1_ap, kM1b_ap, kOrT_ap, kOrT1_t, kOrT1_f, eqD_ap, neD_ap, Option.map_some, addD_int, subD_int, gtD_int, ltD_int, cmpI_int, intD_int, intD_bl, negD_int, kStr_ap, kLput_ap, kLput1_ap, decide_true, decide_false, isCS_ap, isiC_ins, isiC_tup, isiC_non, fld_ins, fputS_ap, kFp1_ap, makeF_ap, blS_ap, kBl_ap, own2_ap, kO2_ap, lenE_lst, lenE_tup, listE_lst, listE_tup, listE_dct, strD_str, isB_ap, isNotB_ap, keySortF_ap, dcF_ap, tupleD_lst, slD_tup, slD_lst, vl_own, inA_loc, notInA_loc, lenD_loc, lenE_loc, ixA_loc, slD_loc, eqB_loc1, eqB_loc2, addD_loc1, addD_loc2, tupleD_loc, listN_loc, listE_loc, reprD_loc, joinD_loc, sortN_loc, bind_assoc, Ok_ok, and_self, true_and, and_true, permS_ap, kPerm_2, kPerm_1, eqB_int, eqB_bls, eqB_str, fzS_ap, kFz_own, lenD_lst, len_tup, txs_length, tts_length, sto_exc, tgU_ap, isiXS_ap, raiseS_ap, O.bind_err, countS_ap, indexS_ap, heardS_ap, revD_tup, revD_lst]
  refine w_lc D.str D.str (fun x => (mvsAt g x).any fun m => m.1.isNone && decide (m.2 ∈ l)) l rfl (by unfold LIM; omega) (fun x hx => ?_) (fun x hx _ => ?_) ?_ (by simp) o3
  · have ip := hg x hx
    unfold isPl at ip
    obtain ⟨e, he⟩ := Option.isSome_iff_exists.mp ip
    obtain ⟨em, _⟩ := enAt_mem he
    obtain ⟨g1, g2⟩ := gm e em
    have eM : mvsAt g x = e.2.2 := by unfold mvsAt; rw [he]
    have e1 : ∀ s, ixA s (plsD g) (.str x) = some (enV e) := fun s => ix_pls s he
    have sq : seqD (mvsD e.2.2) = some (e.2.2.map mvD) := seqD_tup _
    simp only [seqS_ap, setS_ap, retS_ap, ifS_ap, iteS_ap, tstS_ap, tNotS_ap, tAndS_ap, tOrS_ap, andS_ap, orS_ap, notS_ap, binS_ap, unS_ap, callF_ap, callV_ap, callN_ap, consS_ap, nilS_ap, tupS_ap, lstF_ap, frzS_ap, ownS_ap, exS_ap, cS_ap, varS_ap, parA_ap, parS_inl, parS_inr, parS_nil, forS_ap, itRng_ap, itRng2_ap, itS_ap, itStr_ap, lcF_ap, slS_ap, slF_ap, noPartS_ap, partS_ap, isiS_ap, chainS_ap, nxS_ap, bkS_ap, ctS_ap, yesS_ap, orT_ap, appS_ap, popAtS_ap, dputS_ap, lputS_ap, hndS_ap, m1S_ap, asgS_ap, O.bind_ok, kVar_d, kVar_own, kB1_ap, kB2_ap, kU_ap, kAnd_t, kAnd_f, kOr_t, kOr_f, kNot_ap, kTst_ap, kTAnd_t, kTAnd_f, kTOr_t, kTOr_f, kTNot_ap, kIte_t, kIte_f, kC0_ap, kC1_ap, kC1'_t, kC1'_f, kC2_ap, kCons_ap, kCons2_ap, kTup_0, kTup_1, kTup_2, kTupB_t, kLst_0, kLst_1, kLstB_t, kFrz_ap, kCv_ap, kCn_ap, ofO_some, ofN_some, kEx_ap, kSet_ap, kSetB_t, kOwn_ap, kRet_non, kRet_bl, kRet_int, kRet_str, kRet_tup, kRet_lst, kRet_hnd, kRet_dct, kRet_ins, kRet_loc, kRet1_ap, kSeq_nx, kSeq_rt, kSeq_bk, kSeq_ct, kIt_ap, kIts_ap, seqD_lst, seqD_tup, seqD_scr, kFor_ap, tgN_ap, tgT_ap, tgsS_nil, tgsS_cons, kSl_ap, kSl1_ap, kSl2_ap, kSlF_ap, kSlF1_ap, kPart_ap, kPd_ap, kPdB_t, kPm_ap, kPc_ap, kPar_ap, putP_d, putP_m, putP_0, kHnd_ap, frzD, kAsg_ap, kAsgB_t, sto_non, sto_bl, sto_int, sto_str, sto_tup, sto_lst, sto_dct, sto_ins, sto_hnd, sto_scr, Bool.and_self, Bool.not_true, Bool.not_false, List.getElem?_cons_zero, List.getElem?_cons_succ, List.set_cons_succ, List.set_cons_zero, kM1_ap, kM1b_ap, kOrT_ap, kOrT1_t, kOrT1_f, eqD_ap, neD_ap, Option.map_some, addD_int, subD_int, gtD_int, ltD_int, cmpI_int, intD_int, intD_bl, negD_int, kStr_ap, kLput_ap, kLput1_ap, decide_true, decide_false, isCS_ap, isiC_ins, isiC_tup, isiC_non, fld_ins, fputS_ap, kFp1_ap, makeF_ap, blS_ap, kBl_ap, own2_ap, kO2_ap, lenE_lst, lenE_tup, listE_lst, listE_tup, listE_dct, strD_str, isB_ap, isNotB_ap, keySortF_ap, dcF_ap, tupleD_lst, slD_tup, slD_lst, vl_own, inA_loc, notInA_loc, lenD_loc, lenE_loc, ixA_loc, slD_loc, eqB_loc1, eqB_loc2, addD_loc1, addD_loc2, tupleD_loc, listN_loc, listE_loc, reprD_loc, joinD_loc, sortN_loc, bind_assoc, Ok_ok, and_self, true_and, and_true, permS_ap, kPerm_2, kPerm_1, eqB_int, eqB_bls, eqB_str, fzS_ap, kFz_own, lenD_lst, len_tup, txs_length, tts_length, sto_exc, tgU_ap, isiXS_ap, raiseS_ap, O.bind_err, countS_ap, indexS_ap, heardS_ap, revD_tup, revD_lst, e1, ix_en1, sq]
    refine w_map mvD (fun m => .bl (m.1.isNone && decide (m.2 ∈ l))) e.2.2 rfl (by unfold LIM; omega) (fun m hm => ?_) ?_ (by simp) o4
    · have e2 : ∀ s, inA s (.str m.2) (.lst (txs l)) = some (.bl (decide (m.2 ∈ l))) := fun s => in_txs rfl hl (g2 m hm)
      simp only [seqS_ap, setS_ap, retS_ap, ifS_ap, iteS_ap, tstS_ap, tNotS_ap, tAndS_ap, tOrS_ap, andS_ap, orS_ap, notS_ap, binS_ap, unS_ap, callF_ap, callV_ap, callN_ap, consS_ap, nilS_ap, tupS_ap, lstF_ap, frzS_ap, ownS_ap, exS_ap, cS_ap, varS_ap, parA_ap, parS_inl, parS_inr, parS_nil, forS_ap, itRng_ap, itRng2_ap, itS_ap, itStr_ap, lcF_ap, slS_ap, slF_ap, noPartS_ap, partS_ap, isiS_ap, chainS_ap, nxS_ap, bkS_ap, ctS_ap, yesS_ap, orT_ap, appS_ap, popAtS_ap, dputS_ap, lputS_ap, hndS_ap, m1S_ap, asgS_ap, O.bind_ok, kVar_d, kVar_own, kB1_ap, kB2_ap, kU_ap, kAnd_t, kAnd_f, kOr_t, kOr_f, kNot_ap, kTst_ap, kTAnd_t, kTAnd_f, kTOr_t, kTOr_f, kTNot_ap, kIte_t, kIte_f, kC0_ap, kC1_ap, kC1'_t, kC1'_f, kC2_ap, kCons_ap, kCons2_ap, kTup_0, kTup_1, kTup_2, kTupB_t, kLst_0, kLst_1, kLstB_t, kFrz_ap, kCv_ap, kCn_ap, ofO_some, ofN_some, kEx_ap, kSet_ap, kSetB_t, kOwn_ap, kRet_non, kRet_bl, kRet_int, kRet_str, kRet_tup, kRet_lst, kRet_hnd, kRet_dct, kRet_ins, kRet_loc, kRet1_ap, kSeq_nx, kSeq_rt, kSeq_bk, kSeq_ct, kIt_ap, kIts_ap, seqD_lst, seqD_tup, seqD_scr, kFor_ap, tgN_ap, tgT_ap, tgsS_nil, tgsS_cons, kSl_ap, kSl1_ap, kSl2_ap, kSlF_ap, kSlF1_ap, kPart_ap, kPd_ap, kPdB_t, kPm_ap, kPc_ap, kPar_ap, putP_d, putP_m, putP_0, kHnd_ap, frzD, kAsg_ap, kAsgB_t, sto_non, sto_bl, sto_int, sto_str, sto_tup, sto_lst, sto_dct, sto_ins, sto_hnd, sto_scr, Bool.and_self, Bool.not_true, Bool.not_false, List.getElem?_cons_zero, List.getElem?_cons_succ, List.set_cons_succ, List.set_cons_zero, kM1_ap, kM1b_ap, kOrT_ap, kOrT1_t, kOrT1_f, eqD_ap, neD_ap, Option.map_some, addD_int, subD_int, gtD_int, ltD_int, cmpI_int, intD_int, intD_bl, negD_int, kStr_ap, kLput_ap, kLput1_ap, decide_true, decide_false, isCS_ap, isiC_ins, isiC_tup, isiC_non, fld_ins, fputS_ap, kFp1_ap, makeF_ap, blS_ap, kBl_ap, own2_ap, kO2_ap, lenE_lst, lenE_tup, listE_lst, listE_tup, listE_dct, strD_str, isB_ap, isNotB_ap, keySortF_ap, dcF_ap, tupleD_lst, slD_tup, slD_lst, vl_own, inA_loc, notInA_loc, lenD_loc, lenE_loc, ixA_loc, slD_loc, eqB_loc1, eqB_loc2, addD_loc1, addD_loc2, tupleD_loc, listN_loc, listE_loc, reprD_loc, joinD_loc, sortN_loc, bind_assoc, Ok_ok, and_self, true_and, and_true, permS_ap, kPerm_2, kPerm_1, eqB_int, eqB_bls, eqB_str, fzS_ap, kFz_own, lenD_lst, len_tup, txs_length, tts_length, sto_exc, tgU_ap, isiXS_ap, raiseS_ap, O.bind_err, countS_ap, indexS_ap, heardS_ap, revD_tup, revD_lst, ix_mv0, isN_sg]
      cases q : m.1 with
      | none => simp only [seqS_ap, setS_ap, retS_ap, ifS_ap, iteS_ap, tstS_ap, tNotS_ap, tAndS_ap, tOrS_ap, andS_ap, orS_ap, notS_ap, binS_ap, unS_ap, callF_ap, callV_ap, callN_ap, consS_ap, nilS_ap, tupS_ap, lstF_ap, frzS_ap, ownS_ap, exS_ap, cS_ap, varS_ap, parA_ap, parS_inl, parS_inr, parS_nil, forS_ap, itRng_ap, itRng2_ap, itS_ap, itStr_ap, lcF_ap, slS_ap, slF_ap, noPartS_ap, partS_ap, isiS_ap, chainS_ap, nxS_ap, bkS_ap, ctS_ap, yesS_ap, orT_ap, appS_ap, popAtS_ap, dputS_ap, lputS_ap, hndS_ap, m1S_ap, asgS_ap, O.bind_ok, kVar_d, kVar_own, kB1_ap, kB2_ap, kU_ap, kAnd_t, kAnd_f, kOr_t, kOr_f, kNot_ap, kTst_ap, kTAnd_t, kTAnd_f, kTOr_t, kTOr_f, kTNot_ap, kIte_t, kIte_f, kC0_ap, kC1_ap, kC1'_t, kC1'_f, kC2_ap, kCons_ap, kCons2_ap, kTup_0, kTup_1, kTup_2, kTupB_t, kLst_0, kLst_1, kLstB_t, kFrz_ap, kCv_ap, kCn_ap, ofO_some, ofN_some, kEx_ap, kSet_ap, kSetB_t, kOwn_ap, kRet_non, kRet_bl, kRet_int, kRet_str, kRet_tup, kRet_lst, kRet_hnd, kRet_dct, kRet_ins, kRet_loc, kRet1_ap, kSeq_nx, kSeq_rt, kSeq_bk, kSeq_ct, kIt_ap, kIts_ap, seqD_lst, seqD_tup, seqD_scr, kFor_ap, tgN_ap, tgT_ap, tgsS_nil, tgsS_cons, kSl_ap, kSl1_ap, kSl2_ap, kSlF_ap, kSlF1_ap, kPart_ap, kPd_ap, kPdB_t, kPm_ap, kPc_ap, kPar_ap, putP_d, putP_m, putP_0, kHnd_ap, frzD, kAsg_ap, kAsgB_t, sto_non, sto_bl, sto_int, sto_str, sto_tup, sto_lst, sto_dct, sto_ins, sto_hnd, sto_scr, Bool.and_self, Bool.not_true, Bool.not_false, List.getElem?_cons_zero, List.getElem?_cons_succ, List.set_cons_succ, List.set_cons_zero, kM1_ap, kM1b_ap, kOrT_ap, kOrT1_t, kOrT1_f, eqD_ap, neD_ap, Option.map_some, addD_int, subD_int, gtD_int, ltD_int, cmpI_int, intD_int, intD_bl, negD_int, kStr_ap, kLput_ap, kLput1_ap, decide_true, decide_false, isCS_ap, isiC_ins, isiC_tup, isiC_non, fld_ins, fputS_ap, kFp1_ap, makeF_ap, blS_ap, kBl_ap, own2_ap, kO2_ap, lenE_lst, lenE_tup, listE_lst, listE_tup, listE_dct, strD_str, isB_ap, isNotB_ap, keySortF_ap, dcF_ap, tupleD_lst, slD_tup, slD_lst, vl_own, inA_loc, notInA_loc, lenD_loc, lenE_loc, ixA_loc, slD_loc, eqB_loc1, eqB_loc2, addD_loc1, addD_loc2, tupleD_loc, listN_loc, listE_loc, reprD_loc, joinD_loc, sortN_loc, bind_assoc, Ok_ok, and_self, true_and, and_true, permS_ap, kPerm_2, kPerm_1, eqB_int, eqB_bls, eqB_str, fzS_ap, kFz_own, lenD_lst, len_tup, txs_length, tts_length, sto_exc, tgU_ap, isiXS_ap, raiseS_ap, O.bind_err, countS_ap, indexS_ap, heardS_ap, revD_tup, revD_lst, Option.isNone_none, ix_mv1, e2, Bool.true_and]
      | some y => simp only [seqS_ap, setS_ap, retS_ap, ifS_ap, iteS_ap, tstS_ap, tNotS_ap, tAndS_ap, tOrS_ap, andS_ap, orS_ap, notS_ap, binS_ap, unS_ap, callF_ap, callV_ap, callN_ap, consS_ap, nilS_ap, tupS_ap, lstF_ap, frzS_ap, ownS_ap, exS_ap, cS_ap, varS_ap, parA_ap, parS_inl, parS_inr, parS_nil, forS_ap, itRng_ap, itRng2_ap, itS_ap, itStr_ap, lcF_ap, slS_ap, slF_ap, noPartS_ap, partS_ap, isiS_ap, chainS_ap, nxS_ap, bkS_ap, ctS_ap, yesS_ap, orT_ap, appS_ap, popAtS_ap, dputS_ap, lputS_ap, hndS_ap, m1S_ap, asgS_ap, O.bind_ok, kVar_d, kVar_own, kB1_ap, kB2_ap, kU_ap, kAnd_t, kAnd_f, kOr_t, kOr_f, kNot_ap, kTst_ap, kTAnd_t, kTAnd_f, kTOr_t, kTOr_f, kTNot_ap, kIte_t, kIte_f, kC0_ap, kC1_ap, kC1'_t, kC1'_f, kC2_ap, kCons_ap, kCons2_ap, kTup_0, kTup_1, kTup_2, kTupB_t, kLst_0, kLst_1, kLstB_t, kFrz_ap, kCv_ap, kCn_ap, ofO_some, ofN_some, kEx_ap, kSet_ap, kSetB_t, kOwn_ap, kRet_non, kRet_bl, kRet_int, kRet_str, kRet_tup, kRet_lst, kRet_hnd, kRet_dct, kRet_ins, kRet_loc, kRet1_ap, kSeq_nx, kSeq_rt, kSeq_bk, kSeq_ct, kIt_ap, kIts_ap, seqD_lst, seqD_tup, seqD_scr, kFor_ap, tgN_ap, tgT_ap, tgsS_nil, tgsS_cons, kSl_ap, kSl1_ap, kSl2_ap, kSlF_ap, kSlF1_ap, kPart_ap, kPd_ap, kPdB_t, kPm_ap, kPc_ap, kPar_ap, putP_d, putP_m, putP_0, kHnd_ap, frzD, kAsg_ap, kAsgB_t, sto_non, sto_bl, sto_int, sto_str, sto_tup, sto_lst, sto_dct, sto_ins, sto_hnd, sto_scr, Bool.and_self, Bool.not_true, Bool.not_false, List.getElem?_cons_zero, List.getElem?_cons_succ, List.set_cons_succ, List.set_cons_zero, kM1_ap, kM1b_ap, kOrT_ap, kOrT1_t, kOrT1_f, eqD_ap, neD_ap, Option.map_some, addD_int, subD_int, gtD_int, ltD_int, cmpI_int, intD_int, intD_bl, negD_int, kStr_ap, kLput_ap, kLput1_ap, decide_true, decide_false, isCS_ap, isiC_ins, isiC_tup, isiC_non, fld_ins, fputS_ap, kFp1_ap, makeF_ap, blS_ap, kBl_ap, own2_ap, kO2_ap, lenE_lst, lenE_tup, listE_lst, listE_tup, listE_dct, strD_str, isB_ap, isNotB_ap, keySortF_ap, dcF_ap, tupleD_lst, slD_tup, slD_lst, vl_own, inA_loc, notInA_loc, lenD_loc, lenE_loc, ixA_loc, slD_loc, eqB_loc1, eqB_loc2, addD_loc1, addD_loc2, tupleD_loc, listN_loc, listE_loc, reprD_loc, joinD_loc, sortN_loc, bind_assoc, Ok_ok, and_self, true_and, and_true, permS_ap, kPerm_2, kPerm_1, eqB_int, eqB_bls, eqB_str, fzS_ap, kFz_own, lenD_lst, len_tup, txs_length, tts_length, sto_exc, tgU_ap, isiXS_ap, raiseS_ap, O.bind_err, countS_ap, indexS_ap, heardS_ap, revD_tup, revD_lst, Option.isNone_some, Bool.false_and]
    · simp only [seqS_ap, setS_ap, retS_ap, ifS_ap, iteS_ap, tstS_ap, tNotS_ap, tAndS_ap, tOrS_ap, andS_ap, orS_ap, notS_ap, binS_ap, unS_ap, callF_ap, callV_ap, callN_ap, consS_ap, nilS_ap, tupS_ap, lstF_ap, frzS_ap, ownS_ap, exS_ap, cS_ap, varS_ap, parA_ap, parS_inl, parS_inr, parS_nil, forS_ap, itRng_ap, itRng2_ap, itS_ap, itStr_ap, lcF_ap, slS_ap, slF_ap, noPartS_ap, partS_ap, isiS_ap, chainS_ap, nxS_ap, bkS_ap, ctS_ap, yesS_ap, orT_ap, appS_ap, popAtS_ap, dputS_ap, lputS_ap, hndS_ap, m1S_ap, asgS_ap, O.bind_ok, kVar_d, kVar_own, kB1_ap, kB2_ap, kU_ap, kAnd_t, kAnd_f, kOr_t, kOr_f, kNot_ap, kTst_ap, kTAnd_t, kTAnd_f, kTOr_t, kTOr_f, kTNot_ap, kIte_t, kIte_f, kC0_ap, kC1_ap, kC1'_t, kC1'_f, kC2_ap, kCons_ap, kCons2_ap, kTup_0, kTup_1, kTup_2, kTupB_t, kLst_0, kLst_1, kLstB_t, kFrz_ap, kCv_ap, kCn_ap, ofO_some, ofN_some, kEx_ap, kSet_ap, kSetB_t, kOwn_ap, kRet_non, kRet_bl, kRet_int, kRet_str, kRet_tup, kRet_lst, kRet_hnd, kRet_dct, kRet_ins, kRet_loc, kRet1_ap, kSeq_nx, kSeq_rt, kSeq_bk, kSeq_ct, kIt_ap, kIts_ap, seqD_lst, seqD_tup, seqD_scr, kFor_ap, tgN_ap, tgT_ap, tgsS_nil, tgsS_cons, kSl_ap, kSl1_ap, kSl2_ap, kSlF_ap, kSlF1_ap, kPart_ap, kPd_ap, kPdB_t, kPm_ap, kPc_ap, kPar_ap, putP_d, putP_m, putP_0, kHnd_ap, frzD, kAsg_ap, kAsgB_t, sto_non, sto_bl, sto_int, sto_str, sto_tup, sto_lst, sto_dct, sto_ins, sto_hnd, sto_scr, Bool.and_self, Bool.not_true, Bool.not_false, List.getElem?_cons_zero, List.getElem?_cons_succ, List.set_cons_succ, List.set_cons_zero, kM1_ap, kM1b_ap, kOrT_ap, kOrT1_t, kOrT1_f, eqD_ap, neD_ap, Option.map_some, addD_int, subD_int, gtD_int, ltD_int, cmpI_int, intD_int, intD_bl, negD_int, kStr_ap, kLput_ap, kLput1_ap, decide_true, decide_false, isCS_ap, isiC_ins, isiC_tup, isiC_non, fld_ins, fputS_ap, kFp1_ap, makeF_ap, blS_ap, kBl_ap, own2_ap, kO2_ap, lenE_lst, lenE_tup, listE_lst, listE_tup, listE_dct, strD_str, isB_ap, isNotB_ap, keySortF_ap, dcF_ap, tupleD_lst, slD_tup, slD_lst, vl_own, inA_loc, notInA_loc, lenD_loc, lenE_loc, ixA_loc, slD_loc, eqB_loc1, eqB_loc2, addD_loc1, addD_loc2, tupleD_loc, listN_loc, listE_loc, reprD_loc, joinD_loc, sortN_loc, bind_assoc, Ok_ok, and_self, true_and, and_true, permS_ap, kPerm_2, kPerm_1, eqB_int, eqB_bls, eqB_str, fzS_ap, kFz_own, lenD_lst, len_tup, txs_length, tts_length, sto_exc, tgU_ap, isiXS_ap, raiseS_ap, O.bind_err, countS_ap, indexS_ap, heardS_ap, revD_tup, revD_lst, bls_mv, eM]
  · simp only [seqS_ap, setS_ap, retS_ap, ifS_ap, iteS_ap, tstS_ap, tNotS_ap, tAndS_ap, tOrS_ap, andS_ap, orS_ap, notS_ap, binS_ap, unS_ap, callF_ap, callV_ap, callN_ap, consS_ap, nilS_ap, tupS_ap, lstF_ap, frzS_ap, ownS_ap, exS_ap, cS_ap, varS_ap, parA_ap, parS_inl, parS_inr, parS_nil, forS_ap, itRng_ap, itRng2_ap, itS_ap, itStr_ap, lcF_ap, slS_ap, slF_ap, noPartS_ap, partS_ap, isiS_ap, chainS_ap, nxS_ap, bkS_ap, ctS_ap, yesS_ap, orT_ap, appS_ap, popAtS_ap, dputS_ap, lputS_ap, hndS_ap, m1S_ap, asgS_ap, O.bind_ok, kVar_d, kVar_own, kB1_ap, kB2_ap, kU_ap, kAnd_t, kAnd_f, kOr_t, kOr_f, kNot_ap, kTst_ap, kTAnd_t, kTAnd_f, kTOr_t, kTOr_f, kTNot_ap, kIte_t, kIte_f, kC0_ap, kC1_ap, kC1'_t, kC1'_f, kC2_ap, kCons_ap, kCons2_ap, kTup_0, kTup_1, kTup_2, kTupB_t, kLst_0, kLst_1, kLstB_t, kFrz_ap, kCv_ap, kCn_ap, ofO_some, ofN_some, kEx_ap, kSet_ap, kSetB_t, kOwn_ap, kRet_non, kRet_bl, kRet_int, kRet_str, kRet_tup, kRet_lst, kRet_hnd, kRet_dct, kRet_ins, kRet_loc, kRet1_ap, kSeq_nx, kSeq_rt, kSeq_bk, kSeq_ct, kIt_ap, kIts_ap, seqD_lst, seqD_tup, seqD_scr, kFor_ap, tgN_ap, tgT_ap, tgsS_nil, tgsS_cons, kSl_ap, kSl1_ap, kSl2_ap, kSlF_ap, kSlF1_ap, kPart_ap, kPd_ap, kPdB_t, kPm_ap, kPc_ap, kPar_ap, putP_d, putP_m, putP_0, kHnd_ap, frzD, kAsg_ap, kAsgB_t, sto_non, sto_bl, sto_int, sto_str, sto_tup, sto_lst, sto_dct, sto_ins, sto_hnd, sto_scr, Bool.and_self, Bool.not_true, Bool.not_false, List.getElem?_cons_zero, List.getElem?_cons_succ, List.set_cons_succ, List.set_cons_zero, kM1_ap, kM1b_ap, kOrT_ap, kOrT1_t, kOrT1_f, eqD_ap, neD_ap, Option.map_some, addD_int, subD_int, gtD_int, ltD_int, cmpI_int, intD_int, intD_bl, negD_int, kStr_ap, kLput_ap, kLput1_ap, decide_true, decide_false, isCS_ap, isiC_ins, isiC_tup, isiC_non, fld_ins, fputS_ap, kFp1_ap, makeF_ap, blS_ap, kBl_ap, own2_ap, kO2_ap, lenE_lst, lenE_tup, listE_lst, listE_tup, listE_dct, strD_str, isB_ap, isNotB_ap, keySortF_ap, dcF_ap, tupleD_lst, slD_tup, slD_lst, vl_own, inA_loc, notInA_loc, lenD_loc, lenE_loc, ixA_loc, slD_loc, eqB_loc1, eqB_loc2, addD_loc1, addD_loc2, tupleD_loc, listN_loc, listE_loc, reprD_loc, joinD_loc, sortN_loc, bind_assoc, Ok_ok, and_self, true_and, and_true, permS_ap, kPerm_2, kPerm_1, eqB_int, eqB_bls, eqB_str, fzS_ap, kFz_own, lenD_lst, len_tup, txs_length, tts_length, sto_exc, tgU_ap, isiXS_ap, raiseS_ap, O.bind_err, countS_ap, indexS_ap, heardS_ap, revD_tup, revD_lst]
  · have e3 : (l.filter fun x => (mvsAt g x).any fun m => m.1.isNone && decide (m.2 ∈ l)).map D.str = txs (keptL g l) := rfl
    rw [e3]
    have el : ∀ (s : S) (a b : Nat), eqB s (.int (a : Nat)) (.int (b : Nat)) = some (decide (a = b)) := fun s a b => by
      rw [eqB_int]
      congr 1
      by_cases h : a = b
      · simp [h]
      · rw [decide_eq_false h, decide_eq_false (by omega)]
    by_cases q : (keptL g l).length = l.length
    · simp only [seqS_ap, setS_ap, retS_ap, ifS_ap, iteS_ap, tstS_ap, tNotS_ap, tAndS_ap, tOrS_ap, andS_ap, orS_ap, notS_ap, binS_ap, unS_ap, callF_ap, callV_ap, callN_ap, consS_ap, nilS_ap, tupS_ap, lstF_ap, frzS_ap, ownS_ap, exS_ap, cS_ap, varS_ap, parA_ap, parS_inl, parS_inr, parS_nil, forS_ap, itRng_ap, itRng2_ap, itS_ap, itStr_ap, lcF_ap, slS_ap, slF_ap, noPartS_ap, partS_ap, isiS_ap, chainS_ap, nxS_ap, bkS_ap, ctS_ap, yesS_ap, orT_ap, appS_ap, popAtS_ap, dputS_ap, lputS_ap, hndS_ap, m1S_ap, asgS_ap, O.bind_ok, kVar_d, kVar_own, kB1_ap, kB2_ap, kU_ap, kAnd_t, kAnd_f, kOr_t, kOr_f, kNot_ap, kTst_ap, kTAnd_t, kTAnd_f, kTOr_t, kTOr_f, kTNot_ap, kIte_t, kIte_f, kC0_ap, kC1_ap, kC1'_t, kC1'_f, kC2_ap, kCons_ap, kCons2_ap, kTup_0, kTup_1, kTup_2, kTupB_t, kLst_0, kLst_1, kLstB_t, kFrz_ap, kCv_ap, kCn_ap, ofO_some, ofN_some, kEx_ap, kSet_ap, kSetB_t, kOwn_ap, kRet_non, kRet_bl, kRet_int, kRet_str, kRet_tup, kRet_lst, kRet_hnd, kRet_dct, kRet_ins, kRet_loc, kRet1_ap, kSeq_nx, kSeq_rt, kSeq_bk, kSeq_ct, kIt_ap, kIts_ap, seqD_lst, seqD_tup, seqD_scr, kFor_ap, tgN_ap, tgT_ap, tgsS_nil, tgsS_cons, kSl_ap, kSl1_ap, kSl2_ap, kSlF_ap, kSlF1_ap, kPart_ap, kPd_ap, kPdB_t, kPm_ap, kPc_ap, kPar_ap, putP_d, putP_m, putP_0, kHnd_ap, frzD, kAsg_ap, kAsgB_t, sto_non, sto_bl, sto_int, sto_str, sto_tup, sto_lst, sto_dct, sto_ins, sto_hnd, sto_scr, Bool.and_self, Bool.not_true, Bool.not_false, List.getElem?_cons_zero, List.getElem?_cons_succ, List.set_cons_succ, List.set_cons_zero, kM1_ap, kM1b_ap, kOrT_ap, kOrT1_t, kOrT1_f, eqD_ap, neD_ap, Option.map_some, addD_int, subD_int, gtD_int, ltD_int, cmpI_int, intD_int, intD_bl, negD_int, kStr_ap, kLput_ap, kLput1_ap, decide_true, decide_false, isCS_ap, isiC_ins, isiC_tup, isiC_non, fld_ins, fputS_ap, kFp1_ap, makeF_ap, blS_ap, kBl_ap, own2_ap, kO2_ap, lenE_lst, lenE_tup, listE_lst, listE_tup, listE_dct, strD_str, isB_ap, isNotB_ap, keySortF_ap, dcF_ap, tupleD_lst, slD_tup, slD_lst, vl_own, inA_loc, notInA_loc, lenD_loc, lenE_loc, ixA_loc, slD_loc, eqB_loc1, eqB_loc2, addD_loc1, addD_loc2, tupleD_loc, listN_loc, listE_loc, reprD_loc, joinD_loc, sortN_loc, bind_assoc, Ok_ok, and_self, true_and, and_true, permS_ap, kPerm_2, kPerm_1, eqB_int, eqB_bls, eqB_str, fzS_ap, kFz_own, lenD_lst, len_tup, txs_length, tts_length, sto_exc, tgU_ap, isiXS_ap, raiseS_ap, O.bind_err, countS_ap, indexS_ap, heardS_ap, revD_tup, revD_lst, el, decide_eq_true q, q, if_true]
    · simp only [seqS_ap, setS_ap, retS_ap, ifS_ap, iteS_ap, tstS_ap, tNotS_ap, tAndS_ap, tOrS_ap, andS_ap, orS_ap, notS_ap, binS_ap, unS_ap, callF_ap, callV_ap, callN_ap, consS_ap, nilS_ap, tupS_ap, lstF_ap, frzS_ap, ownS_ap, exS_ap, cS_ap, varS_ap, parA_ap, parS_inl, parS_inr, parS_nil, forS_ap, itRng_ap, itRng2_ap, itS_ap, itStr_ap, lcF_ap, slS_ap, slF_ap, noPartS_ap, partS_ap, isiS_ap, chainS_ap, nxS_ap, bkS_ap, ctS_ap, yesS_ap, orT_ap, appS_ap, popAtS_ap, dputS_ap, lputS_ap, hndS_ap, m1S_ap, asgS_ap, O.bind_ok, kVar_d, kVar_own, kB1_ap, kB2_ap, kU_ap, kAnd_t, kAnd_f, kOr_t, kOr_f, kNot_ap, kTst_ap, kTAnd_t, kTAnd_f, kTOr_t, kTOr_f, kTNot_ap, kIte_t, kIte_f, kC0_ap, kC1_ap, kC1'_t, kC1'_f, kC2_ap, kCons_ap, kCons2_ap, kTup_0, kTup_1, kTup_2, kTupB_t, kLst_0, kLst_1, kLstB_t, kFrz_ap, kCv_ap, kCn_ap, ofO_some, ofN_some, kEx_ap, kSet_ap, kSetB_t, kOwn_ap, kRet_non, kRet_bl, kRet_int, kRet_str, kRet_tup, kRet_lst, kRet_hnd, kRet_dct, kRet_ins, kRet_loc, kRet1_ap, kSeq_nx, kSeq_rt, kSeq_bk, kSeq_ct, kIt_ap, kIts_ap, seqD_lst, seqD_tup, seqD_scr, kFor_ap, tgN_ap, tgT_ap, tgsS_nil, tgsS_cons, kSl_ap, kSl1_ap, kSl2_ap, kSlF_ap, kSlF1_ap, kPart_ap, kPd_ap, kPdB_t, kPm_ap, kPc_ap, kPar_ap, putP_d, putP_m, putP_0, kHnd_ap, frzD, kAsg_ap, kAsgB_t, sto_non, sto_bl, sto_int, sto_str, sto_tup, sto_lst, sto_dct, sto_ins, sto_hnd, sto_scr, Bool.and_self, Bool.not_true, Bool.not_false, List.getElem?_cons_zero, List.getElem?_cons_succ, List.set_cons_succ, List.set_cons_zero, kM1_ap, kM1b_ap, kOrT_ap, kOrT1_t, kOrT1_f, eqD_ap, neD_ap, Option.map_some, addD_int, subD_int, gtD_int, ltD_int, cmpI_int, intD_int, intD_bl, negD_int, kStr_ap, kLput_ap, kLput1_ap, decide_true, decide_false, isCS_ap, isiC_ins, isiC_tup, isiC_non, fld_ins, fputS_ap, kFp1_ap, makeF_ap, blS_ap, kBl_ap, own2_ap, kO2_ap, lenE_lst, lenE_tup, listE_lst, listE_tup, listE_dct, strD_str, isB_ap, isNotB_ap, keySortF_ap, dcF_ap, tupleD_lst, slD_tup, slD_lst, vl_own, inA_loc, notInA_loc, lenD_loc, lenE_loc, ixA_loc, slD_loc, eqB_loc1, eqB_loc2, addD_loc1, addD_loc2, tupleD_loc, listN_loc, listE_loc, reprD_loc, joinD_loc, sortN_loc, bind_assoc, Ok_ok, and_self, true_and, and_true, permS_ap, kPerm_2, kPerm_1, eqB_int, eqB_bls, eqB_str, fzS_ap, kFz_own, lenD_lst, len_tup, txs_length, tts_length, sto_exc, tgU_ap, isiXS_ap, raiseS_ap, O.bind_err, countS_ap, indexS_ap, heardS_ap, revD_tup, revD_lst, el, decide_eq_false q, q, if_false]
end AG
set_option Elab.async false
set_option linter.all false
set_option maxRecDepth 100000
set_option exponentiation.threshold 4000
namespace AG
open PySem L2
end AG
set_option Elab.async false
set_option linter.all false
set_option maxRecDepth 100000
set_option exponentiation.threshold 4000
namespace AG
open PySem L2
theorem kMk_err {c : Nat} {call : List D → List MO → R} {ds : List D} {rhz : List SV} {muz : List MO} {e : Er} (hs : ds.all sto = true) (hc : call (.hnd muz.length :: ds) (muz ++ [.mi c []]) = .err e (muz ++ [.mi c []])) (h1 : muz.all (noHM muz.length) = true) :
    kMk c call ds ⟨rhz, muz⟩ = .err e ⟨rhz, muz⟩ := by
  unfold kMk
  rw [if_pos hs]
  show (match call (.hnd muz.length :: ds) (muz ++ [.mi c []]) with
    | .ok .non muz' => _
    | .err e muz' => (match cutM muz.length muz', muz'[muz.length]? with
      | some muz1, some m => if noHM muz.length m then O.err e { rhz := rhz, muz := muz1 } else .st
      | _, _ => .st)
    | _ => _) = _
  rw [hc]
  have e1 : cutM muz.length (muz ++ [.mi c []]) = some muz := by
    unfold cutM
    rw [if_pos ⟨by simp, by rw [List.take_left]; exact h1⟩, List.take_left]
  have e2 : (muz ++ [.mi c []])[muz.length]? = some (.mi c []) := by simp
  have e3 : noHM muz.length (.mi c []) = true := rfl
  simp only [e1, e2, e3, if_true]
end AG
set_option Elab.async false
set_option linter.all false
set_option maxRecDepth 100000
set_option exponentiation.threshold 4000
namespace AG
open PySem L2
structure GLay (g : List GEn) : Prop where
  nm : ∀ e ∈ g, PyData.canLay0 (.str e.1) = true
  few : g.length ≤ 1000
  mv : ∀ e ∈ g, e.2.2.length ≤ 1000 ∧ ∀ m ∈ e.2.2, PyData.canLay0 (.str m.2) = true
theorem GOk.lay {sg : List Str} {g : List GEn} (h : GOk sg g) : GLay g := ⟨fun e he => (h.nm e he).lay, by have := h.few; omega, fun e he => ⟨by have := (h.mv e he).few; omega, fun m hm => by
  have ip := (h.mv e he).pl m hm
  unfold isPl at ip
  obtain ⟨e', q⟩ := Option.isSome_iff_exists.mp ip
  obtain ⟨q1, q2⟩ := enAt_mem q
  rw [← q2]
  exact (h.nm e' q1).lay⟩⟩
theorem sil_while {g : List GEn} (hg : GLay g) (muz : List MO) (s3 s4 : SV) (o3 : isOwn s3 = false) (o4 : isOwn s4 = false) : ∀ (n : Nat) (l : List Str) (s2 : SV), l.length ≤ n → Lay l → (∀ x ∈ l, isPl g x = true) → l.length ≤ 1000 →
    Ok (whS silC silB ⟨[.d (plsD g), .d (.lst (txs l)), s2, s3, s4], muz⟩) fun fl s => s.muz = muz ∧ fl = if silN g n l = true then .rt (.bl true) else .nx
  | n, l, s2, hn, hl, hp, few => by
    have ec : silC ⟨[.d (plsD g), .d (.lst (txs l)), s2, s3, s4], muz⟩ = .ok (!decide (l = [])) ⟨[.d (plsD g), .d (.lst (txs l)), s2, s3, s4], muz⟩ := by
      have := eqB_lsts (s := ⟨[.d (plsD g), .d (.lst (txs l)), s2, s3, s4], muz⟩) (x := .lst (txs l)) (y := .lst []) (a := l) (b := []) rfl rfl hl (by simp [Lay])
      simp [silC, this]
    rw [whS_unf, ec]
    by_cases h0 : l = []
    · subst h0
      have : silN g n [] = false := by cases n <;> simp [silN]
      simp [this]
    · cases n with
      | zero =>
        have : l = [] := List.eq_nil_of_length_eq_zero (by omega)
        exact absurd this h0
      | succ n =>
        have st := sil_step (muz := muz) (s2 := s2) hl hp hg.mv few o3 o4
        have e0 : (!decide (l = [])) = true := by simp [h0]
        rw [e0]
        simp only [O.bind_ok, if_true]
        obtain ⟨fl, s, e, q⟩ := st.ex
        rw [e, O.bind_ok]
        have es : silN g (n + 1) l = if (keptL g l).length = l.length then true else silN g n (keptL g l) := by
          rw [silN, if_neg h0]
        by_cases k : (keptL g l).length = l.length
        · rw [if_pos k] at q es
          obtain ⟨rfl, q2⟩ := q
          rw [es]
          exact ⟨q2, rfl⟩
        · rw [if_neg k] at q es
          obtain ⟨rfl, rfl⟩ := q
          rw [es]
          have sub : (keptL g l).length ≤ l.length := List.length_filter_le _ _
          have ms : ∀ x ∈ keptL g l, x ∈ l := fun x hx => (List.mem_filter.mp hx).1
          exact sil_while hg muz s3 s4 o3 o4 n (keptL g l) _ (by omega) (fun x hx => hl x (ms x hx)) (fun x hx => hp x (ms x hx)) (by omega)
def IsSil (c : List D → List MO → R) : Prop := ∀ (g : List GEn) (muz : List MO), GLay g → c [plsD g] muz = .ok (.bl (silR g)) muz
theorem silent_ok : IsSil (runD 5 1 silentS) := by
  intro g muz h
  refine w_runE rfl ?_
  show Ok (silentS ⟨[.d (plsD g), .un, .un, .un, .un], muz⟩) _
  have le : ∀ s, listE s [plsD g] = some (.ml (txs (g.map (·.1)))) := fun s => by
    unfold plsD
    rw [listE_dct, keys_pls]
  have few := h.few
  have w := sil_while h muz .un .un rfl rfl g.length (g.map (·.1)) .un (by simp) (fun x hx => by
    obtain ⟨e, he, rfl⟩ := List.mem_map.mp hx
    exact h.nm e he) (fun x hx => by
    obtain ⟨e, he, rfl⟩ := List.mem_map.mp hx
    unfold isPl
    obtain ⟨e', q⟩ := enAt_some he
    rw [q]
    rfl) (by simpa using few)
  obtain ⟨fl, s, e, q1, q2⟩ := w.ex
  have e' : whS (tstS (binS neD (varS 1) (frzS (lstF nilS)))) silB ⟨[.d (plsD g), .d (.lst (txs (g.map (·.1)))), .un, .un, .un], muz⟩ = .ok fl s := e
  simp only [silentS, seqS_ap, setS_ap, retS_ap, ifS_ap, iteS_ap, tstS_ap, tNotS_ap, tAndS_ap, tOrS_ap, andS_ap, orS_ap, notS_ap, binS_ap, unS_ap, callF_ap, callV_ap, callN_ap, consS_ap, nilS_ap, tupS_ap, lstF_ap, frzS_ap, ownS_ap, exS_ap, cS_ap, varS_ap, parA_ap, parS_inl, parS_inr, parS_nil, forS_ap, itRng_ap, itRng2_ap, itS_ap, itStr_ap, lcF_ap, slS_ap, slF_ap, noPartS_ap, partS_ap, isiS_ap, chainS_ap, nxS_ap, bkS_ap, ctS_ap, yesS_ap, orT_ap, appS_ap, popAtS_ap, dputS_ap, lputS_ap, hndS_ap, m1S_ap, asgS_ap, O.bind_ok, kVar_d, kVar_own, kB1_ap, kB2_ap, kU_ap, kAnd_t, kAnd_f, kOr_t, kOr_f, kNot_ap, kTst_ap, kTAnd_t, kTAnd_f, kTOr_t, kTOr_f, kTNot_ap, kIte_t, kIte_f, kC0_ap, kC1_ap, kC1'_t, kC1'_f, kC2_ap, kCons_ap, kCons2_ap, kTup_0, kTup_1, kTup_2, kTupB_t, kLst_0, kLst_1, kLstB_t, kFrz_ap, kCv_ap, kCn_ap, ofO_some, ofN_some, kEx_ap, kSet_ap, kSetB_t, kOwn_ap, kRet_non, kRet_bl, kRet_int, kRet_str, kRet_tup, kRet_lst, kRet_hnd, kRet_dct, kRet_ins, kRet_loc, kRet1_ap, kSeq_nx, kSeq_rt, kSeq_bk, kSeq_ct, kIt_ap, kIts_ap, seqD_lst, seqD_tup, seqD_scr, kFor_ap, tgN_ap, tgT_ap, tgsS_nil, tgsS_cons, kSl_ap, kSl1_ap, kSl2_ap, kSlF_ap, kSlF1_ap, kPart_ap, kPd_ap, kPdB_t, kPm_ap, kPc_ap, kPar_ap, putP_d, putP_m, putP_0, kHnd_ap, frzD, kAsg_ap, kAsgB_t, sto_non, sto_bl, sto_int, sto_str, sto_tup, sto_lst, sto_dct, sto_ins, sto_hnd, sto_scr, Bool.and_self, Bool.not_true, Bool.not_false, List.getElem?_cons_zero, List.getElem?_cons_succ, List.set_cons_succ, List.set_cons_zero, kM1_ap, kM1b_ap, kOrT_ap, kOrT1_t, kOrT1_f, eqD_ap, neD_ap, Option.map_some, addD_int, subD_int, gtD_int, ltD_int, cmpI_int, intD_int, intD_bl, negD_int, kStr_ap, kLput_ap, kLput1_ap, decide_true, decide_false, isCS_ap, isiC_ins, isiC_tup, isiC_non, fld_ins, fputS_ap, kFp1_ap, makeF_ap, blS_ap, kBl_ap, own2_ap, kO2_ap, lenE_lst, lenE_tup, listE_lst, listE_tup, listE_dct, strD_str, isB_ap, isNotB_ap, keySortF_ap, dcF_ap, tupleD_lst, slD_tup, slD_lst, vl_own, inA_loc, notInA_loc, lenD_loc, lenE_loc, ixA_loc, slD_loc, eqB_loc1, eqB_loc2, addD_loc1, addD_loc2, tupleD_loc, listN_loc, listE_loc, reprD_loc, joinD_loc, sortN_loc, bind_assoc, Ok_ok, and_self, true_and, and_true, permS_ap, kPerm_2, kPerm_1, eqB_int, eqB_bls, eqB_str, fzS_ap, kFz_own, lenD_lst, len_tup, txs_length, tts_length, sto_exc, tgU_ap, isiXS_ap, raiseS_ap, O.bind_err, countS_ap, indexS_ap, heardS_ap, revD_tup, revD_lst, le, e']
  show Ok (kSeq _ fl s) _
  unfold silR
  cases q : silN g g.length (g.map (·.1)) with
  | true =>
    rw [q] at q2
    simp only [if_true] at q2
    subst q2
    simp only [seqS_ap, setS_ap, retS_ap, ifS_ap, iteS_ap, tstS_ap, tNotS_ap, tAndS_ap, tOrS_ap, andS_ap, orS_ap, notS_ap, binS_ap, unS_ap, callF_ap, callV_ap, callN_ap, consS_ap, nilS_ap, tupS_ap, lstF_ap, frzS_ap, ownS_ap, exS_ap, cS_ap, varS_ap, parA_ap, parS_inl, parS_inr, parS_nil, forS_ap, itRng_ap, itRng2_ap, itS_ap, itStr_ap, lcF_ap, slS_ap, slF_ap, noPartS_ap, partS_ap, isiS_ap, chainS_ap, nxS_ap, bkS_ap, ctS_ap, yesS_ap, orT_ap, appS_ap, popAtS_ap, dputS_ap, lputS_ap, hndS_ap, m1S_ap, asgS_ap, O.bind_ok, kVar_d, kVar_own, kB1_ap, kB2_ap, kU_ap, kAnd_t, kAnd_f, kOr_t, kOr_f, kNot_ap, kTst_ap, kTAnd_t, kTAnd_f, kTOr_t, kTOr_f, kTNot_ap, kIte_t, kIte_f, kC0_ap, kC1_ap, kC1'_t, kC1'_f, kC2_ap, kCons_ap, kCons2_ap, kTup_0, kTup_1, kTup_2, kTupB_t, kLst_0, kLst_1, kLstB_t, kFrz_ap, kCv_ap, kCn_ap, ofO_some, ofN_some, kEx_ap, kSet_ap, kSetB_t, kOwn_ap, kRet_non, kRet_bl, kRet_int, kRet_str, kRet_tup, kRet_lst, kRet_hnd, kRet_dct, kRet_ins, kRet_loc, kRet1_ap, kSeq_nx, kSeq_rt, kSeq_bk, kSeq_ct, kIt_ap, kIts_ap, seqD_lst, seqD_tup, seqD_scr, kFor_ap, tgN_ap, tgT_ap, tgsS_nil, tgsS_cons, kSl_ap, kSl1_ap, kSl2_ap, kSlF_ap, kSlF1_ap, kPart_ap, kPd_ap, kPdB_t, kPm_ap, kPc_ap, kPar_ap, putP_d, putP_m, putP_0, kHnd_ap, frzD, kAsg_ap, kAsgB_t, sto_non, sto_bl, sto_int, sto_str, sto_tup, sto_lst, sto_dct, sto_ins, sto_hnd, sto_scr, Bool.and_self, Bool.not_true, Bool.not_false, List.getElem?_cons_zero, List.getElem?_cons_succ, List.set_cons_succ, List.set_cons_zero, kM1_ap, kM1b_ap, kOrT_ap, kOrT1_t, kOrT1_f, eqD_ap, neD_ap, Option.map_some, addD_int, subD_int, gtD_int, ltD_int, cmpI_int, intD_int, intD_bl, negD_int, kStr_ap, kLput_ap, kLput1_ap, decide_true, decide_false, isCS_ap, isiC_ins, isiC_tup, isiC_non, fld_ins, fputS_ap, kFp1_ap, makeF_ap, blS_ap, kBl_ap, own2_ap, kO2_ap, lenE_lst, lenE_tup, listE_lst, listE_tup, listE_dct, strD_str, isB_ap, isNotB_ap, keySortF_ap, dcF_ap, tupleD_lst, slD_tup, slD_lst, vl_own, inA_loc, notInA_loc, lenD_loc, lenE_loc, ixA_loc, slD_loc, eqB_loc1, eqB_loc2, addD_loc1, addD_loc2, tupleD_loc, listN_loc, listE_loc, reprD_loc, joinD_loc, sortN_loc, bind_assoc, Ok_ok, and_self, true_and, and_true, permS_ap, kPerm_2, kPerm_1, eqB_int, eqB_bls, eqB_str, fzS_ap, kFz_own, lenD_lst, len_tup, txs_length, tts_length, sto_exc, tgU_ap, isiXS_ap, raiseS_ap, O.bind_err, countS_ap, indexS_ap, heardS_ap, revD_tup, revD_lst]
    exact q1
  | false =>
    rw [q] at q2
    simp only [Bool.false_eq_true, if_false] at q2
    subst q2
    simp only [seqS_ap, setS_ap, retS_ap, ifS_ap, iteS_ap, tstS_ap, tNotS_ap, tAndS_ap, tOrS_ap, andS_ap, orS_ap, notS_ap, binS_ap, unS_ap, callF_ap, callV_ap, callN_ap, consS_ap, nilS_ap, tupS_ap, lstF_ap, frzS_ap, ownS_ap, exS_ap, cS_ap, varS_ap, parA_ap, parS_inl, parS_inr, parS_nil, forS_ap, itRng_ap, itRng2_ap, itS_ap, itStr_ap, lcF_ap, slS_ap, slF_ap, noPartS_ap, partS_ap, isiS_ap, chainS_ap, nxS_ap, bkS_ap, ctS_ap, yesS_ap, orT_ap, appS_ap, popAtS_ap, dputS_ap, lputS_ap, hndS_ap, m1S_ap, asgS_ap, O.bind_ok, kVar_d, kVar_own, kB1_ap, kB2_ap, kU_ap, kAnd_t, kAnd_f, kOr_t, kOr_f, kNot_ap, kTst_ap, kTAnd_t, kTAnd_f, kTOr_t, kTOr_f, kTNot_ap, kIte_t, kIte_f, kC0_ap, kC1_ap, kC1'_t, kC1'_f, kC2_ap, kCons_ap, kCons2_ap, kTup_0, kTup_1, kTup_2, kTupB_t, kLst_0, kLst_1, kLstB_t, kFrz_ap, kCv_ap, kCn_ap, ofO_some, ofN_some, kEx_ap, kSet_ap, kSetB_t, kOwn_ap, kRet_non, kRet_bl, kRet_int, kRet_str, kRet_tup, kRet_lst, kRet_hnd, kRet_dct, kRet_ins, kRet_loc, kRet1_ap, kSeq_nx, kSeq_rt, kSeq_bk, kSeq_ct, kIt_ap, kIts_ap, seqD_lst, seqD_tup, seqD_scr, kFor_ap, tgN_ap, tgT_ap, tgsS_nil, tgsS_cons, kSl_ap, kSl1_ap, kSl2_ap, kSlF_ap, kSlF1_ap, kPart_ap, kPd_ap, kPdB_t, kPm_ap, kPc_ap, kPar_ap, putP_d, putP_m, putP_0, kHnd_ap, frzD, kAsg_ap, kAsgB_t, sto_non, sto_bl, sto_int, sto_str, sto_tup, sto_lst, sto_dct, sto_ins, sto_hnd, sto_scr, Bool.and_self, Bool.not_true, Bool.not_false, List.getElem?_cons_zero, List.getElem?_cons_succ, List.set_cons_succ, List.set_cons_zero, kM1_ap, kM1b_ap, kOrT_ap, kOrT1_t, kOrT1_f, eqD_ap, neD_ap, Option.map_some, addD_int, subD_int, gtD_int, ltD_int, cmpI_int, intD_int, intD_bl, negD_int, kStr_ap, kLput_ap, kLput1_ap, decide_true, decide_false, isCS_ap, isiC_ins, isiC_tup, isiC_non, fld_ins, fputS_ap, kFp1_ap, makeF_ap, blS_ap, kBl_ap, own2_ap, kO2_ap, lenE_lst, lenE_tup, listE_lst, listE_tup, listE_dct, strD_str, isB_ap, isNotB_ap, keySortF_ap, dcF_ap, tupleD_lst, slD_tup, slD_lst, vl_own, inA_loc, notInA_loc, lenD_loc, lenE_loc, ixA_loc, slD_loc, eqB_loc1, eqB_loc2, addD_loc1, addD_loc2, tupleD_loc, listN_loc, listE_loc, reprD_loc, joinD_loc, sortN_loc, bind_assoc, Ok_ok, and_self, true_and, and_true, permS_ap, kPerm_2, kPerm_1, eqB_int, eqB_bls, eqB_str, fzS_ap, kFz_own, lenD_lst, len_tup, txs_length, tts_length, sto_exc, tgU_ap, isiXS_ap, raiseS_ap, O.bind_err, countS_ap, indexS_ap, heardS_ap, revD_tup, revD_lst]
    exact q1
def gfs (sg : List Str) (g : List GEn) : List (Str × D) := [("signals", .tup (txs sg)), ("held", plsD g)]
def gameD (sg : List Str) (g : List GEn) : D := .ins 13 (gfs sg g)
theorem noHL_mvs (n : Nat) : ∀ l : List Mv, noHL n (l.map mvD) = true
  | [] => rfl
  | m :: l => by
    show (noH n (mvD m) && noHL n (l.map mvD)) = true
    rw [noHL_mvs n l]
    obtain ⟨o, x⟩ := m
    cases o <;> rfl
theorem noH2_pls (n : Nat) : ∀ g : List GEn, noH2 n (g.map enP) = true
  | [] => rfl
  | e :: g => by
    show (noH n (.str e.1) && noH n (enV e) && noH2 n (g.map enP)) = true
    rw [noH2_pls n g]
    have : noH n (enV e) = true := by
      show (noH n (.str e.2.1) && (noHL n (e.2.2.map mvD) && true)) = true
      rw [noHL_mvs]
      rfl
    rw [this]
    rfl
theorem noHM_game (n : Nat) (sg : List Str) (g : List GEn) : noHM n (.mi 13 (gfs sg g)) = true := by
  show (noHL n (txs sg) && (noH2 n (g.map enP) && true)) = true
  rw [noHL_txs, noH2_pls]
  rfl
section
variable {cs cl cr : List D → List MO → R}
def IsGInit (c : List D → List MO → R) : Prop := ∀ (sg : List Str) (g : List GEn) (muz : List MO), Sg sg → GOk sg g → silR g = false → c [.hnd muz.length, .tup (txs sg), plsD g] (muz ++ [.mi 13 []]) = .ok .non (muz ++ [.mi 13 (gfs (srtT sg) g)])
def IsGNo (c : List D → List MO → R) : Prop := ∀ (sg : List Str) (g : List GEn) (muz : List MO), Sg sg → ((GOk sg g ∧ silR g = true) ∨ (120 < g.length ∨ ∃ e r, g = e :: r ∧ Nm e.1 ∧ e.2.1 ∈ plyL ∧ 40 < e.2.2.length)) → c [.hnd muz.length, .tup (txs sg), plsD g] (muz ++ [.mi 13 []]) = .err { c := 7 } (muz ++ [.mi 13 []])
theorem gInit_ok (hs : AreSignals cs) (hl : ArePlT cl) (hr : IsSil cr) : IsGInit (runD 3 3 (gInitS cs cl cr)) := by
  intro sg g muz h1 h2 h3
  have k1 : ∀ rhz muz, kCall cs [.tup (txs sg)] ⟨rhz, muz⟩ = .ok (.bl true) ⟨rhz, muz⟩ := fun rhz muz => kCall_eq (hs sg muz h1) rfl
  have k2 : ∀ rhz muz, kCall cl [.tup (txs sg), plsD g] ⟨rhz, muz⟩ = .ok (.bl true) ⟨rhz, muz⟩ := fun rhz muz => kCall_eq (hl sg g muz h1.lay h2) rfl
  have k3 : ∀ rhz muz, kCall cr [plsD g] ⟨rhz, muz⟩ = .ok (.bl false) ⟨rhz, muz⟩ := fun rhz muz => by
    have := hr g muz h2.lay
    rw [h3] at this
    exact kCall_eq this rfl
  have few := h1.few
  have st : ∀ s, sortN s [.tup (txs sg)] = some (.ml (txs (srtT sg))) := fun s => sort_tup s sg (by unfold LIM; omega)
  have dc : ∀ s, dictC s [plsD g] = some (.md false (g.map enP)) := fun s => dictC_ap s _
  have at_ : ∀ m : MO, (muz ++ [m])[muz.length]? = some m := fun m => by simp
  have set_ : ∀ m m' : MO, (muz ++ [m]).set muz.length m' = muz ++ [m'] := fun m m' => by simp
  have f1 : ∀ rhz, kFp2 [13] "signals" (.tup (txs (srtT sg))) (.hnd muz.length) ⟨rhz, muz ++ [.mi 13 []]⟩ = .ok .nx ⟨rhz, muz ++ [.mi 13 [("signals", .tup (txs (srtT sg)))]]⟩ := fun rhz => by
    rw [kFp2_at (at_ _) rfl (by simp), set_]
    rfl
  have f2 : ∀ rhz, kFp2 [13] "held" (.dct false (g.map enP)) (.hnd muz.length) ⟨rhz, muz ++ [.mi 13 [("signals", .tup (txs (srtT sg)))]]⟩ = .ok .nx ⟨rhz, muz ++ [.mi 13 (gfs (srtT sg) g)]⟩ := fun rhz => by
    rw [kFp2_at (at_ _) rfl (by simp), set_]
    rfl
  refine runD_non (s := ⟨[.d (.hnd muz.length), .d (.tup (txs sg)), .d (plsD g)], muz ++ [.mi 13 (gfs (srtT sg) g)]⟩) rfl ?_
  show gInitS cs cl cr ⟨[.d (.hnd muz.length), .d (.tup (txs sg)), .d (plsD g)], muz ++ [.mi 13 []]⟩ = _
  simp only [gInitS, seqS_ap, setS_ap, retS_ap, ifS_ap, iteS_ap, tstS_ap, tNotS_ap, tAndS_ap, tOrS_ap, andS_ap, orS_ap, notS_ap, binS_ap, unS_ap, callF_ap, callV_ap, callN_ap, consS_ap, nilS_ap, tupS_ap, lstF_ap, frzS_ap, ownS_ap, exS_ap, cS_ap, varS_ap, parA_ap, parS_inl, parS_inr, parS_nil, forS_ap, itRng_ap, itRng2_ap, itS_ap, itStr_ap, lcF_ap, slS_ap, slF_ap, noPartS_ap, partS_ap, isiS_ap, chainS_ap, nxS_ap, bkS_ap, ctS_ap, yesS_ap, orT_ap, appS_ap, popAtS_ap, dputS_ap, lputS_ap, hndS_ap, m1S_ap, asgS_ap, O.bind_ok, kVar_d, kVar_own, kB1_ap, kB2_ap, kU_ap, kAnd_t, kAnd_f, kOr_t, kOr_f, kNot_ap, kTst_ap, kTAnd_t, kTAnd_f, kTOr_t, kTOr_f, kTNot_ap, kIte_t, kIte_f, kC0_ap, kC1_ap, kC1'_t, kC1'_f, kC2_ap, kCons_ap, kCons2_ap, kTup_0, kTup_1, kTup_2, kTupB_t, kLst_0, kLst_1, kLstB_t, kFrz_ap, kCv_ap, kCn_ap, ofO_some, ofN_some, kEx_ap, kSet_ap, kSetB_t, kOwn_ap, kRet_non, kRet_bl, kRet_int, kRet_str, kRet_tup, kRet_lst, kRet_hnd, kRet_dct, kRet_ins, kRet_loc, kRet1_ap, kSeq_nx, kSeq_rt, kSeq_bk, kSeq_ct, kIt_ap, kIts_ap, seqD_lst, seqD_tup, seqD_scr, kFor_ap, tgN_ap, tgT_ap, tgsS_nil, tgsS_cons, kSl_ap, kSl1_ap, kSl2_ap, kSlF_ap, kSlF1_ap, kPart_ap, kPd_ap, kPdB_t, kPm_ap, kPc_ap, kPar_ap, putP_d, putP_m, putP_0, kHnd_ap, frzD, kAsg_ap, kAsgB_t, sto_non, sto_bl, sto_int, sto_str, sto_tup, sto_lst, sto_dct, sto_ins, sto_hnd, sto_scr, Bool.and_self, Bool.not_true, Bool.not_false, List.getElem?_cons_zero, List.getElem?_cons_succ, List.set_cons_succ, List.set_cons_zero, kM1_ap, kM1b_ap, kOrT_ap, kOrT1_t, kOrT1_f, eqD_ap, neD_ap, Option.map_some, addD_int, subD_int, gtD_int, ltD_int, cmpI_int, intD_int, intD_bl, negD_int, kStr_ap, kLput_ap, kLput1_ap, decide_true, decide_false, fputS_ap, kFp1_ap, tupleD_lst, k1, k2, k3, st, f1, dc, f2]
theorem gInit_no (hs : AreSignals cs) (hl : ArePlT cl) (hl2 : ArePlF cl) (hr : IsSil cr) : IsGNo (runD 3 3 (gInitS cs cl cr)) := by
  intro sg g muz h1 h
  refine runD_err (s := ⟨[.d (.hnd muz.length), .d (.tup (txs sg)), .d (plsD g)], muz ++ [.mi 13 []]⟩) rfl ?_
  have k1 : ∀ rhz muz, kCall cs [.tup (txs sg)] ⟨rhz, muz⟩ = .ok (.bl true) ⟨rhz, muz⟩ := fun rhz muz => kCall_eq (hs sg muz h1) rfl
  show gInitS cs cl cr ⟨[.d (.hnd muz.length), .d (.tup (txs sg)), .d (plsD g)], muz ++ [.mi 13 []]⟩ = _
  rcases h with ⟨h2, h3⟩ | h
  · have k2 : ∀ rhz muz, kCall cl [.tup (txs sg), plsD g] ⟨rhz, muz⟩ = .ok (.bl true) ⟨rhz, muz⟩ := fun rhz muz => kCall_eq (hl sg g muz h1.lay h2) rfl
    have k3 : ∀ rhz muz, kCall cr [plsD g] ⟨rhz, muz⟩ = .ok (.bl true) ⟨rhz, muz⟩ := fun rhz muz => by
      have := hr g muz h2.lay
      rw [h3] at this
      exact kCall_eq this rfl
    simp only [gInitS, seqS_ap, setS_ap, retS_ap, ifS_ap, iteS_ap, tstS_ap, tNotS_ap, tAndS_ap, tOrS_ap, andS_ap, orS_ap, notS_ap, binS_ap, unS_ap, callF_ap, callV_ap, callN_ap, consS_ap, nilS_ap, tupS_ap, lstF_ap, frzS_ap, ownS_ap, exS_ap, cS_ap, varS_ap, parA_ap, parS_inl, parS_inr, parS_nil, forS_ap, itRng_ap, itRng2_ap, itS_ap, itStr_ap, lcF_ap, slS_ap, slF_ap, noPartS_ap, partS_ap, isiS_ap, chainS_ap, nxS_ap, bkS_ap, ctS_ap, yesS_ap, orT_ap, appS_ap, popAtS_ap, dputS_ap, lputS_ap, hndS_ap, m1S_ap, asgS_ap, O.bind_ok, kVar_d, kVar_own, kB1_ap, kB2_ap, kU_ap, kAnd_t, kAnd_f, kOr_t, kOr_f, kNot_ap, kTst_ap, kTAnd_t, kTAnd_f, kTOr_t, kTOr_f, kTNot_ap, kIte_t, kIte_f, kC0_ap, kC1_ap, kC1'_t, kC1'_f, kC2_ap, kCons_ap, kCons2_ap, kTup_0, kTup_1, kTup_2, kTupB_t, kLst_0, kLst_1, kLstB_t, kFrz_ap, kCv_ap, kCn_ap, ofO_some, ofN_some, kEx_ap, kSet_ap, kSetB_t, kOwn_ap, kRet_non, kRet_bl, kRet_int, kRet_str, kRet_tup, kRet_lst, kRet_hnd, kRet_dct, kRet_ins, kRet_loc, kRet1_ap, kSeq_nx, kSeq_rt, kSeq_bk, kSeq_ct, kIt_ap, kIts_ap, seqD_lst, seqD_tup, seqD_scr, kFor_ap, tgN_ap, tgT_ap, tgsS_nil, tgsS_cons, kSl_ap, kSl1_ap, kSl2_ap, kSlF_ap, kSlF1_ap, kPart_ap, kPd_ap, kPdB_t, kPm_ap, kPc_ap, kPar_ap, putP_d, putP_m, putP_0, kHnd_ap, frzD, kAsg_ap, kAsgB_t, sto_non, sto_bl, sto_int, sto_str, sto_tup, sto_lst, sto_dct, sto_ins, sto_hnd, sto_scr, Bool.and_self, Bool.not_true, Bool.not_false, List.getElem?_cons_zero, List.getElem?_cons_succ, List.set_cons_succ, List.set_cons_zero, kM1_ap, kM1b_ap, kOrT_ap, kOrT1_t, kOrT1_f, eqD_ap, neD_ap, Option.map_some, addD_int, subD_int, gtD_int, ltD_int, cmpI_int, intD_int, intD_bl, negD_int, kStr_ap, kLput_ap, kLput1_ap, decide_true, decide_false, isCS_ap, isiC_ins, isiC_tup, isiC_non, fld_ins, fputS_ap, kFp1_ap, makeF_ap, blS_ap, kBl_ap, own2_ap, kO2_ap, lenE_lst, lenE_tup, listE_lst, listE_tup, listE_dct, strD_str, isB_ap, isNotB_ap, keySortF_ap, dcF_ap, tupleD_lst, slD_tup, slD_lst, vl_own, inA_loc, notInA_loc, lenD_loc, lenE_loc, ixA_loc, slD_loc, eqB_loc1, eqB_loc2, addD_loc1, addD_loc2, tupleD_loc, listN_loc, listE_loc, reprD_loc, joinD_loc, sortN_loc, bind_assoc, Ok_ok, and_self, true_and, and_true, permS_ap, kPerm_2, kPerm_1, eqB_int, eqB_bls, eqB_str, fzS_ap, kFz_own, lenD_lst, len_tup, txs_length, tts_length, sto_exc, tgU_ap, isiXS_ap, raiseS_ap, O.bind_err, countS_ap, indexS_ap, heardS_ap, revD_tup, revD_lst, k1, k2, k3]
  · have k2 : ∀ rhz muz, kCall cl [.tup (txs sg), plsD g] ⟨rhz, muz⟩ = .ok (.bl false) ⟨rhz, muz⟩ := fun rhz muz => kCall_eq (hl2 sg g muz h) rfl
    simp only [gInitS, seqS_ap, setS_ap, retS_ap, ifS_ap, iteS_ap, tstS_ap, tNotS_ap, tAndS_ap, tOrS_ap, andS_ap, orS_ap, notS_ap, binS_ap, unS_ap, callF_ap, callV_ap, callN_ap, consS_ap, nilS_ap, tupS_ap, lstF_ap, frzS_ap, ownS_ap, exS_ap, cS_ap, varS_ap, parA_ap, parS_inl, parS_inr, parS_nil, forS_ap, itRng_ap, itRng2_ap, itS_ap, itStr_ap, lcF_ap, slS_ap, slF_ap, noPartS_ap, partS_ap, isiS_ap, chainS_ap, nxS_ap, bkS_ap, ctS_ap, yesS_ap, orT_ap, appS_ap, popAtS_ap, dputS_ap, lputS_ap, hndS_ap, m1S_ap, asgS_ap, O.bind_ok, kVar_d, kVar_own, kB1_ap, kB2_ap, kU_ap, kAnd_t, kAnd_f, kOr_t, kOr_f, kNot_ap, kTst_ap, kTAnd_t, kTAnd_f, kTOr_t, kTOr_f, kTNot_ap, kIte_t, kIte_f, kC0_ap, kC1_ap, kC1'_t, kC1'_f, kC2_ap, kCons_ap, kCons2_ap, kTup_0, kTup_1, kTup_2, kTupB_t, kLst_0, kLst_1, kLstB_t, kFrz_ap, kCv_ap, kCn_ap, ofO_some, ofN_some, kEx_ap, kSet_ap, kSetB_t, kOwn_ap, kRet_non, kRet_bl, kRet_int, kRet_str, kRet_tup, kRet_lst, kRet_hnd, kRet_dct, kRet_ins, kRet_loc, kRet1_ap, kSeq_nx, kSeq_rt, kSeq_bk, kSeq_ct, kIt_ap, kIts_ap, seqD_lst, seqD_tup, seqD_scr, kFor_ap, tgN_ap, tgT_ap, tgsS_nil, tgsS_cons, kSl_ap, kSl1_ap, kSl2_ap, kSlF_ap, kSlF1_ap, kPart_ap, kPd_ap, kPdB_t, kPm_ap, kPc_ap, kPar_ap, putP_d, putP_m, putP_0, kHnd_ap, frzD, kAsg_ap, kAsgB_t, sto_non, sto_bl, sto_int, sto_str, sto_tup, sto_lst, sto_dct, sto_ins, sto_hnd, sto_scr, Bool.and_self, Bool.not_true, Bool.not_false, List.getElem?_cons_zero, List.getElem?_cons_succ, List.set_cons_succ, List.set_cons_zero, kM1_ap, kM1b_ap, kOrT_ap, kOrT1_t, kOrT1_f, eqD_ap, neD_ap, Option.map_some, addD_int, subD_int, gtD_int, ltD_int, cmpI_int, intD_int, intD_bl, negD_int, kStr_ap, kLput_ap, kLput1_ap, decide_true, decide_false, isCS_ap, isiC_ins, isiC_tup, isiC_non, fld_ins, fputS_ap, kFp1_ap, makeF_ap, blS_ap, kBl_ap, own2_ap, kO2_ap, lenE_lst, lenE_tup, listE_lst, listE_tup, listE_dct, strD_str, isB_ap, isNotB_ap, keySortF_ap, dcF_ap, tupleD_lst, slD_tup, slD_lst, vl_own, inA_loc, notInA_loc, lenD_loc, lenE_loc, ixA_loc, slD_loc, eqB_loc1, eqB_loc2, addD_loc1, addD_loc2, tupleD_loc, listN_loc, listE_loc, reprD_loc, joinD_loc, sortN_loc, bind_assoc, Ok_ok, and_self, true_and, and_true, permS_ap, kPerm_2, kPerm_1, eqB_int, eqB_bls, eqB_str, fzS_ap, kFz_own, lenD_lst, len_tup, txs_length, tts_length, sto_exc, tgU_ap, isiXS_ap, raiseS_ap, O.bind_err, countS_ap, indexS_ap, heardS_ap, revD_tup, revD_lst, k1, k2]
end
theorem game_ok {c : List D → List MO → R} (h : IsGInit c) {sg : List Str} {g : List GEn} (hs : Sg sg) (hg : GOk sg g) (hr : silR g = false) {muz : List MO} (hf : Fine muz) (rhz : List SV) : kMk 13 c [.tup (txs sg), plsD g] ⟨rhz, muz⟩ = .ok (.mi 13 (gfs (srtT sg) g)) ⟨rhz, muz⟩ :=
  kMk_ok rfl (h sg g muz hs hg hr) hf (noHM_game _ _ _)
theorem game_no {c : List D → List MO → R} (h : IsGNo c) {sg : List Str} {g : List GEn} (hs : Sg sg) (hg : (GOk sg g ∧ silR g = true) ∨ (120 < g.length ∨ ∃ e r, g = e :: r ∧ Nm e.1 ∧ e.2.1 ∈ plyL ∧ 40 < e.2.2.length)) {muz : List MO} (hf : Fine muz) (rhz : List SV) : kMk 13 c [.tup (txs sg), plsD g] ⟨rhz, muz⟩ = .err { c := 7 } ⟨rhz, muz⟩ :=
  kMk_err rfl (h sg g muz hs hg) hf
theorem fld_held (s : S) (sg : List Str) (g : List GEn) : fldD [13] "held" s (gameD sg g) = some (plsD g) := by
  unfold gameD
  rw [fld_ins]
  rfl
def IsGLen (c : List D → List MO → R) : Prop := ∀ (sg : List Str) (g : List GEn) (muz : List MO), c [gameD sg g] muz = .ok (.int (g.length : Nat)) muz
theorem gLen_ok : IsGLen (runD 1 1 gLenS) := by
  intro sg g muz
  refine w_runE rfl ?_
  show Ok (gLenS ⟨[.d (gameD sg g)], muz⟩) _
  simp only [seqS_ap, setS_ap, retS_ap, ifS_ap, iteS_ap, tstS_ap, tNotS_ap, tAndS_ap, tOrS_ap, andS_ap, orS_ap, notS_ap, binS_ap, unS_ap, callF_ap, callV_ap, callN_ap, consS_ap, nilS_ap, tupS_ap, lstF_ap, frzS_ap, ownS_ap, exS_ap, cS_ap, varS_ap, parA_ap, parS_inl, parS_inr, parS_nil, forS_ap, itRng_ap, itRng2_ap, itS_ap, itStr_ap, lcF_ap, slS_ap, slF_ap, noPartS_ap, partS_ap, isiS_ap, chainS_ap, nxS_ap, bkS_ap, ctS_ap, yesS_ap, orT_ap, appS_ap, popAtS_ap, dputS_ap, lputS_ap, hndS_ap, m1S_ap, asgS_ap, O.bind_ok, kVar_d, kVar_own, kB1_ap, kB2_ap, kU_ap, kAnd_t, kAnd_f, kOr_t, kOr_f, kNot_ap, kTst_ap, kTAnd_t, kTAnd_f, kTOr_t, kTOr_f, kTNot_ap, kIte_t, kIte_f, kC0_ap, kC1_ap, kC1'_t, kC1'_f, kC2_ap, kCons_ap, kCons2_ap, kTup_0, kTup_1, kTup_2, kTupB_t, kLst_0, kLst_1, kLstB_t, kFrz_ap, kCv_ap, kCn_ap, ofO_some, ofN_some, kEx_ap, kSet_ap, kSetB_t, kOwn_ap, kRet_non, kRet_bl, kRet_int, kRet_str, kRet_tup, kRet_lst, kRet_hnd, kRet_dct, kRet_ins, kRet_loc, kRet1_ap, kSeq_nx, kSeq_rt, kSeq_bk, kSeq_ct, kIt_ap, kIts_ap, seqD_lst, seqD_tup, seqD_scr, kFor_ap, tgN_ap, tgT_ap, tgsS_nil, tgsS_cons, kSl_ap, kSl1_ap, kSl2_ap, kSlF_ap, kSlF1_ap, kPart_ap, kPd_ap, kPdB_t, kPm_ap, kPc_ap, kPar_ap, putP_d, putP_m, putP_0, kHnd_ap, frzD, kAsg_ap, kAsgB_t, sto_non, sto_bl, sto_int, sto_str, sto_tup, sto_lst, sto_dct, sto_ins, sto_hnd, sto_scr, Bool.and_self, Bool.not_true, Bool.not_false, List.getElem?_cons_zero, List.getElem?_cons_succ, List.set_cons_succ, List.set_cons_zero, kM1_ap, kM1b_ap, kOrT_ap, kOrT1_t, kOrT1_f, eqD_ap, neD_ap, Option.map_some, addD_int, subD_int, gtD_int, ltD_int, cmpI_int, intD_int, intD_bl, negD_int, kStr_ap, kLput_ap, kLput1_ap, decide_true, decide_false, isCS_ap, isiC_ins, isiC_tup, isiC_non, fld_ins, fputS_ap, kFp1_ap, makeF_ap, blS_ap, kBl_ap, own2_ap, kO2_ap, lenE_lst, lenE_tup, listE_lst, listE_tup, listE_dct, strD_str, isB_ap, isNotB_ap, keySortF_ap, dcF_ap, tupleD_lst, slD_tup, slD_lst, vl_own, inA_loc, notInA_loc, lenD_loc, lenE_loc, ixA_loc, slD_loc, eqB_loc1, eqB_loc2, addD_loc1, addD_loc2, tupleD_loc, listN_loc, listE_loc, reprD_loc, joinD_loc, sortN_loc, bind_assoc, Ok_ok, and_self, true_and, and_true, permS_ap, kPerm_2, kPerm_1, eqB_int, eqB_bls, eqB_str, fzS_ap, kFz_own, lenD_lst, len_tup, txs_length, tts_length, sto_exc, tgU_ap, isiXS_ap, raiseS_ap, O.bind_err, countS_ap, indexS_ap, heardS_ap, revD_tup, revD_lst, fld_held, len_pls]
def IsNeedPl (c : List D → List MO → R) : Prop := ∀ (sg : List Str) (g : List GEn) (x : Str) (muz : List MO), isPl g x = true → c [gameD sg g, .str x] muz = .ok .non muz
theorem needPl_ok : IsNeedPl (runD 2 2 needPlaceS) := by
  intro sg g x muz h
  refine w_runN rfl ?_
  show Ok (needPlaceS ⟨[.d (gameD sg g), .d (.str x)], muz⟩) _
  simp only [seqS_ap, setS_ap, retS_ap, ifS_ap, iteS_ap, tstS_ap, tNotS_ap, tAndS_ap, tOrS_ap, andS_ap, orS_ap, notS_ap, binS_ap, unS_ap, callF_ap, callV_ap, callN_ap, consS_ap, nilS_ap, tupS_ap, lstF_ap, frzS_ap, ownS_ap, exS_ap, cS_ap, varS_ap, parA_ap, parS_inl, parS_inr, parS_nil, forS_ap, itRng_ap, itRng2_ap, itS_ap, itStr_ap, lcF_ap, slS_ap, slF_ap, noPartS_ap, partS_ap, isiS_ap, chainS_ap, nxS_ap, bkS_ap, ctS_ap, yesS_ap, orT_ap, appS_ap, popAtS_ap, dputS_ap, lputS_ap, hndS_ap, m1S_ap, asgS_ap, O.bind_ok, kVar_d, kVar_own, kB1_ap, kB2_ap, kU_ap, kAnd_t, kAnd_f, kOr_t, kOr_f, kNot_ap, kTst_ap, kTAnd_t, kTAnd_f, kTOr_t, kTOr_f, kTNot_ap, kIte_t, kIte_f, kC0_ap, kC1_ap, kC1'_t, kC1'_f, kC2_ap, kCons_ap, kCons2_ap, kTup_0, kTup_1, kTup_2, kTupB_t, kLst_0, kLst_1, kLstB_t, kFrz_ap, kCv_ap, kCn_ap, ofO_some, ofN_some, kEx_ap, kSet_ap, kSetB_t, kOwn_ap, kRet_non, kRet_bl, kRet_int, kRet_str, kRet_tup, kRet_lst, kRet_hnd, kRet_dct, kRet_ins, kRet_loc, kRet1_ap, kSeq_nx, kSeq_rt, kSeq_bk, kSeq_ct, kIt_ap, kIts_ap, seqD_lst, seqD_tup, seqD_scr, kFor_ap, tgN_ap, tgT_ap, tgsS_nil, tgsS_cons, kSl_ap, kSl1_ap, kSl2_ap, kSlF_ap, kSlF1_ap, kPart_ap, kPd_ap, kPdB_t, kPm_ap, kPc_ap, kPar_ap, putP_d, putP_m, putP_0, kHnd_ap, frzD, kAsg_ap, kAsgB_t, sto_non, sto_bl, sto_int, sto_str, sto_tup, sto_lst, sto_dct, sto_ins, sto_hnd, sto_scr, Bool.and_self, Bool.not_true, Bool.not_false, List.getElem?_cons_zero, List.getElem?_cons_succ, List.set_cons_succ, List.set_cons_zero, kM1_ap, kM1b_ap, kOrT_ap, kOrT1_t, kOrT1_f, eqD_ap, neD_ap, Option.map_some, addD_int, subD_int, gtD_int, ltD_int, cmpI_int, intD_int, intD_bl, negD_int, kStr_ap, kLput_ap, kLput1_ap, decide_true, decide_false, isCS_ap, isiC_ins, isiC_tup, isiC_non, fld_ins, fputS_ap, kFp1_ap, makeF_ap, blS_ap, kBl_ap, own2_ap, kO2_ap, lenE_lst, lenE_tup, listE_lst, listE_tup, listE_dct, strD_str, isB_ap, isNotB_ap, keySortF_ap, dcF_ap, tupleD_lst, slD_tup, slD_lst, vl_own, inA_loc, notInA_loc, lenD_loc, lenE_loc, ixA_loc, slD_loc, eqB_loc1, eqB_loc2, addD_loc1, addD_loc2, tupleD_loc, listN_loc, listE_loc, reprD_loc, joinD_loc, sortN_loc, bind_assoc, Ok_ok, and_self, true_and, and_true, permS_ap, kPerm_2, kPerm_1, eqB_int, eqB_bls, eqB_str, fzS_ap, kFz_own, lenD_lst, len_tup, txs_length, tts_length, sto_exc, tgU_ap, isiXS_ap, raiseS_ap, O.bind_err, countS_ap, indexS_ap, heardS_ap, revD_tup, revD_lst, fld_held, isi_str, notIn_pls, h]
end AG
set_option Elab.async false
set_option linter.all false
set_option maxRecDepth 100000
set_option exponentiation.threshold 4000
namespace AG
open PySem L2
def goP (g : List GEn) : Str → List Nat → List Str × Str
  | p, [] => ([], p)
  | p, n :: ns => match (mvsAt g p)[n]? with
    | some m => let r := goP g m.2 ns; (m.1.toList ++ r.1, r.2)
    | none => ([], p)
def goOk (g : List GEn) : Str → List Nat → Prop
  | _, [] => True
  | p, n :: ns => ∃ e m, enAt g p = some e ∧ e.2.2[n]? = some m ∧ goOk g m.2 ns
def IsNumT (c : List D → List MO → R) : Prop := ∀ (i k : Nat) (muz : List MO), i ≤ k → c [.int (i : Nat), .int 0, .int (k : Nat)] muz = .ok (.bl true) muz
theorem isNum_ok : IsNumT (runD 3 3 isNumberS) := by
  intro i k muz h
  refine w_runE rfl ?_
  show Ok (isNumberS ⟨[.d (.int (i : Nat)), .d (.int 0), .d (.int (k : Nat))], muz⟩) _
  have e1 : ∀ s (i : Int), isiD "int" s (.int i) = some (.bl true) := fun s i => Eq.trans rfl rfl
  have e2 : ∀ s (i : Int), isiD "bool" s (.int i) = some (.bl false) := fun s i => Eq.trans rfl rfl
  have h1 : decide ((0 : Int) ≤ (i : Nat)) = true := decide_eq_true (by omega)
  have h2 : decide (((i : Nat) : Int) ≤ (k : Nat)) = true := decide_eq_true (by omega)
  simp only [seqS_ap, setS_ap, retS_ap, ifS_ap, iteS_ap, tstS_ap, tNotS_ap, tAndS_ap, tOrS_ap, andS_ap, orS_ap, notS_ap, binS_ap, unS_ap, callF_ap, callV_ap, callN_ap, consS_ap, nilS_ap, tupS_ap, lstF_ap, frzS_ap, ownS_ap, exS_ap, cS_ap, varS_ap, parA_ap, parS_inl, parS_inr, parS_nil, forS_ap, itRng_ap, itRng2_ap, itS_ap, itStr_ap, lcF_ap, slS_ap, slF_ap, noPartS_ap, partS_ap, isiS_ap, chainS_ap, nxS_ap, bkS_ap, ctS_ap, yesS_ap, orT_ap, appS_ap, popAtS_ap, dputS_ap, lputS_ap, hndS_ap, m1S_ap, asgS_ap, O.bind_ok, kVar_d, kVar_own, kB1_ap, kB2_ap, kU_ap, kAnd_t, kAnd_f, kOr_t, kOr_f, kNot_ap, kTst_ap, kTAnd_t, kTAnd_f, kTOr_t, kTOr_f, kTNot_ap, kIte_t, kIte_f, kC0_ap, kC1_ap, kC1'_t, kC1'_f, kC2_ap, kCons_ap, kCons2_ap, kTup_0, kTup_1, kTup_2, kTupB_t, kLst_0, kLst_1, kLstB_t, kFrz_ap, kCv_ap, kCn_ap, ofO_some, ofN_some, kEx_ap, kSet_ap, kSetB_t, kOwn_ap, kRet_non, kRet_bl, kRet_int, kRet_str, kRet_tup, kRet_lst, kRet_hnd, kRet_dct, kRet_ins, kRet_loc, kRet1_ap, kSeq_nx, kSeq_rt, kSeq_bk, kSeq_ct, kIt_ap, kIts_ap, seqD_lst, seqD_tup, seqD_scr, kFor_ap, tgN_ap, tgT_ap, tgsS_nil, tgsS_cons, kSl_ap, kSl1_ap, kSl2_ap, kSlF_ap, kSlF1_ap, kPart_ap, kPd_ap, kPdB_t, kPm_ap, kPc_ap, kPar_ap, putP_d, putP_m, putP_0, kHnd_ap, frzD, kAsg_ap, kAsgB_t, sto_non, sto_bl, sto_int, sto_str, sto_tup, sto_lst, sto_dct, sto_ins, sto_hnd, sto_scr, Bool.and_self, Bool.not_true, Bool.not_false, List.getElem?_cons_zero, List.getElem?_cons_succ, List.set_cons_succ, List.set_cons_zero, kM1_ap, kM1b_ap, kOrT_ap, kOrT1_t, kOrT1_f, eqD_ap, neD_ap, Option.map_some, addD_int, subD_int, gtD_int, ltD_int, cmpI_int, intD_int, intD_bl, negD_int, kStr_ap, kLput_ap, kLput1_ap, decide_true, decide_false, isCS_ap, isiC_ins, isiC_tup, isiC_non, fld_ins, fputS_ap, kFp1_ap, makeF_ap, blS_ap, kBl_ap, own2_ap, kO2_ap, lenE_lst, lenE_tup, listE_lst, listE_tup, listE_dct, strD_str, isB_ap, isNotB_ap, keySortF_ap, dcF_ap, tupleD_lst, slD_tup, slD_lst, vl_own, inA_loc, notInA_loc, lenD_loc, lenE_loc, ixA_loc, slD_loc, eqB_loc1, eqB_loc2, addD_loc1, addD_loc2, tupleD_loc, listN_loc, listE_loc, reprD_loc, joinD_loc, sortN_loc, bind_assoc, Ok_ok, and_self, true_and, and_true, permS_ap, kPerm_2, kPerm_1, eqB_int, eqB_bls, eqB_str, fzS_ap, kFz_own, lenD_lst, len_tup, txs_length, tts_length, sto_exc, tgU_ap, isiXS_ap, raiseS_ap, O.bind_err, countS_ap, indexS_ap, heardS_ap, revD_tup, revD_lst, e1, e2, h1, h2]
def IsGone (c : List D → List MO → R) : Prop := ∀ (sg : List Str) (g : List GEn) (p : Str) (ns : List Nat) (muz : List MO), GLay g → goOk g p ns → ns.length ≤ 1000 → c [gameD sg g, .str p, .tup (ns.map fun n => D.int (n : Nat))] muz = .ok (.tup [.tup (txs (goP g p ns).1), .str (goP g p ns).2]) muz
noncomputable abbrev goneB (cu : List D → List MO → R) : M Fl := (seqS (setS 5 (binS ixA (binS ixA (unS (fldD [13] "held") (varS 0)) (varS 1)) (cS (.int 1))))
    (seqS (ifS (tNotS (tstS (callF cu (consS (varS 4) (consS (cS (.int 0)) (consS (binS subD (callV lenE (consS (varS 5) nilS)) (cS (.int 1))) nilS)))))) (raiseS 8) nxS)
    (seqS (asgS (binS ixA (varS 5) (varS 4)) (tgT [(tgN 6), (tgN 1)]))
    (setS 3 (binS addD (varS 3) (binS mulE (frzS (lstF (consS (varS 6) nilS))) (callV intD (consS (binS isNotNonD (varS 6) (cS .non)) nilS))))))))
theorem gone_loop {cu : List D → List MO → R} (hu : IsNumT cu) {sg : List Str} {g : List GEn} (hg : GLay g) (a2 : SV) (muz : List MO) : ∀ (ns : List Nat) (p : Str) (acc : List Str) (s4 s5 s6 : SV), goOk g p ns → acc.length + ns.length ≤ 1000 →
    Ok (forL (tgN 4) (goneB cu) (ns.map fun n => D.int (n : Nat)) ⟨[.d (gameD sg g), .d (.str p), a2, .d (.lst (txs acc)), s4, s5, s6], muz⟩) fun fl s => fl = .nx ∧ ∃ s4 s5 s6, s = ⟨[.d (gameD sg g), .d (.str (goP g p ns).2), a2, .d (.lst (txs (acc ++ (goP g p ns).1))), s4, s5, s6], muz⟩
  | [], p, acc, s4, s5, s6, _, _ => by
    rw [List.map_nil, forL]
    exact ⟨rfl, s4, s5, s6, by simp [goP]⟩
  | n :: ns, p, acc, s4, s5, s6, h, hl => by
    obtain ⟨e, m, h1, h2, h3⟩ := h
    have hn : n < e.2.2.length := (List.getElem?_eq_some_iff.mp h2).1
    have hm : mvsAt g p = e.2.2 := by unfold mvsAt; rw [h1]
    rw [List.length_cons] at hl
    have eg : goP g p (n :: ns) = (m.1.toList ++ (goP g m.2 ns).1, (goP g m.2 ns).2) := by
      rw [goP, hm, h2]
    have e1 : ∀ s, ixA s (plsD g) (.str p) = some (enV e) := fun s => ix_pls s h1
    have e2 : ∀ s, subD s (.int (e.2.2.length : Nat)) (.int 1) = some (.int ((e.2.2.length - 1 : Nat) : Int)) := fun s => by
      show some (D.int ((e.2.2.length : Int) - 1)) = _
      rw [Int.natCast_sub (by omega)]
      rfl
    have k : ∀ rhz, kCall cu [.int (n : Nat), .int 0, .int ((e.2.2.length - 1 : Nat) : Int)] ⟨rhz, muz⟩ = .ok (.bl true) ⟨rhz, muz⟩ := fun rhz => kCall_eq (hu n _ muz (by omega)) rfl
    have e3 : ∀ s, ixA s (mvsD e.2.2) (.int (n : Nat)) = some (.tup [sgD m.1, .str m.2]) := fun s => ix_map s mvD e.2.2 n m h2
    have ss : sto (sgD m.1) = true := by cases m.1 <;> rfl
    rw [List.map_cons, forL]
    have ih := gone_loop hu (sg := sg) hg a2 muz ns m.2 (acc ++ m.1.toList) (.d (.int (n : Nat))) (.d (mvsD e.2.2)) (.d (sgD m.1)) h3 (by
      rw [List.length_append]
      have : m.1.toList.length ≤ 1 := by cases m.1 <;> simp
      omega)
    rw [eg]
    rw [List.append_assoc] at ih
    cases q : m.1 with
    | none =>
      rw [q] at ih e3
      have ad : ∀ s, addD s (.lst (txs acc)) (.lst []) = some (.lst (txs acc)) := fun s => by
        have := addD_lst s (a := txs acc) (b := []) (by rw [txs_length]; simp; omega)
        simpa using this
      have i1 : ∀ s, isNotNonD s .non .non = some (.bl false) := fun s => Eq.trans rfl rfl
      have m1 := fun s => mul_one_0 s .non
      simp only [seqS_ap, setS_ap, retS_ap, ifS_ap, iteS_ap, tstS_ap, tNotS_ap, tAndS_ap, tOrS_ap, andS_ap, orS_ap, notS_ap, binS_ap, unS_ap, callF_ap, callV_ap, callN_ap, consS_ap, nilS_ap, tupS_ap, lstF_ap, frzS_ap, ownS_ap, exS_ap, cS_ap, varS_ap, parA_ap, parS_inl, parS_inr, parS_nil, forS_ap, itRng_ap, itRng2_ap, itS_ap, itStr_ap, lcF_ap, slS_ap, slF_ap, noPartS_ap, partS_ap, isiS_ap, chainS_ap, nxS_ap, bkS_ap, ctS_ap, yesS_ap, orT_ap, appS_ap, popAtS_ap, dputS_ap, lputS_ap, hndS_ap, m1S_ap, asgS_ap, O.bind_ok, kVar_d, kVar_own, kB1_ap, kB2_ap, kU_ap, kAnd_t, kAnd_f, kOr_t, kOr_f, kNot_ap, kTst_ap, kTAnd_t, kTAnd_f, kTOr_t, kTOr_f, kTNot_ap, kIte_t, kIte_f, kC0_ap, kC1_ap, kC1'_t, kC1'_f, kC2_ap, kCons_ap, kCons2_ap, kTup_0, kTup_1, kTup_2, kTupB_t, kLst_0, kLst_1, kLstB_t, kFrz_ap, kCv_ap, kCn_ap, ofO_some, ofN_some, kEx_ap, kSet_ap, kSetB_t, kOwn_ap, kRet_non, kRet_bl, kRet_int, kRet_str, kRet_tup, kRet_lst, kRet_hnd, kRet_dct, kRet_ins, kRet_loc, kRet1_ap, kSeq_nx, kSeq_rt, kSeq_bk, kSeq_ct, kIt_ap, kIts_ap, seqD_lst, seqD_tup, seqD_scr, kFor_ap, tgN_ap, tgT_ap, tgsS_nil, tgsS_cons, kSl_ap, kSl1_ap, kSl2_ap, kSlF_ap, kSlF1_ap, kPart_ap, kPd_ap, kPdB_t, kPm_ap, kPc_ap, kPar_ap, putP_d, putP_m, putP_0, kHnd_ap, frzD, kAsg_ap, kAsgB_t, sto_non, sto_bl, sto_int, sto_str, sto_tup, sto_lst, sto_dct, sto_ins, sto_hnd, sto_scr, Bool.and_self, Bool.not_true, Bool.not_false, List.getElem?_cons_zero, List.getElem?_cons_succ, List.set_cons_succ, List.set_cons_zero, kM1_ap, kM1b_ap, kOrT_ap, kOrT1_t, kOrT1_f, eqD_ap, neD_ap, Option.map_some, addD_int, subD_int, gtD_int, ltD_int, cmpI_int, intD_int, intD_bl, negD_int, kStr_ap, kLput_ap, kLput1_ap, decide_true, decide_false, isCS_ap, isiC_ins, isiC_tup, isiC_non, fld_ins, fputS_ap, kFp1_ap, makeF_ap, blS_ap, kBl_ap, own2_ap, kO2_ap, lenE_lst, lenE_tup, listE_lst, listE_tup, listE_dct, strD_str, isB_ap, isNotB_ap, keySortF_ap, dcF_ap, tupleD_lst, slD_tup, slD_lst, vl_own, inA_loc, notInA_loc, lenD_loc, lenE_loc, ixA_loc, slD_loc, eqB_loc1, eqB_loc2, addD_loc1, addD_loc2, tupleD_loc, listN_loc, listE_loc, reprD_loc, joinD_loc, sortN_loc, bind_assoc, Ok_ok, and_self, true_and, and_true, permS_ap, kPerm_2, kPerm_1, eqB_int, eqB_bls, eqB_str, fzS_ap, kFz_own, lenD_lst, len_tup, txs_length, tts_length, sto_exc, tgU_ap, isiXS_ap, raiseS_ap, O.bind_err, countS_ap, indexS_ap, heardS_ap, revD_tup, revD_lst, fld_held, e1, ix_en1, len_mvs, e2, k, e3, sto_mvs, sgD, i1, m1, ad, if_true, Bool.false_eq_true, if_false]
      simpa [sgD] using ih
    | some x =>
      rw [q] at ih e3
      have ad : ∀ s, addD s (.lst (txs acc)) (.lst [.str x]) = some (.lst (txs (acc ++ [x]))) := fun s => by
        have := addD_lst s (a := txs acc) (b := [.str x]) (by rw [txs_length]; simp; omega)
        rw [this]
        simp [txs]
      have i1 : ∀ s, isNotNonD s (.str x) .non = some (.bl true) := fun s => Eq.trans rfl rfl
      have m1 := fun s => mul_one_1 s (.str x)
      simp only [seqS_ap, setS_ap, retS_ap, ifS_ap, iteS_ap, tstS_ap, tNotS_ap, tAndS_ap, tOrS_ap, andS_ap, orS_ap, notS_ap, binS_ap, unS_ap, callF_ap, callV_ap, callN_ap, consS_ap, nilS_ap, tupS_ap, lstF_ap, frzS_ap, ownS_ap, exS_ap, cS_ap, varS_ap, parA_ap, parS_inl, parS_inr, parS_nil, forS_ap, itRng_ap, itRng2_ap, itS_ap, itStr_ap, lcF_ap, slS_ap, slF_ap, noPartS_ap, partS_ap, isiS_ap, chainS_ap, nxS_ap, bkS_ap, ctS_ap, yesS_ap, orT_ap, appS_ap, popAtS_ap, dputS_ap, lputS_ap, hndS_ap, m1S_ap, asgS_ap, O.bind_ok, kVar_d, kVar_own, kB1_ap, kB2_ap, kU_ap, kAnd_t, kAnd_f, kOr_t, kOr_f, kNot_ap, kTst_ap, kTAnd_t, kTAnd_f, kTOr_t, kTOr_f, kTNot_ap, kIte_t, kIte_f, kC0_ap, kC1_ap, kC1'_t, kC1'_f, kC2_ap, kCons_ap, kCons2_ap, kTup_0, kTup_1, kTup_2, kTupB_t, kLst_0, kLst_1, kLstB_t, kFrz_ap, kCv_ap, kCn_ap, ofO_some, ofN_some, kEx_ap, kSet_ap, kSetB_t, kOwn_ap, kRet_non, kRet_bl, kRet_int, kRet_str, kRet_tup, kRet_lst, kRet_hnd, kRet_dct, kRet_ins, kRet_loc, kRet1_ap, kSeq_nx, kSeq_rt, kSeq_bk, kSeq_ct, kIt_ap, kIts_ap, seqD_lst, seqD_tup, seqD_scr, kFor_ap, tgN_ap, tgT_ap, tgsS_nil, tgsS_cons, kSl_ap, kSl1_ap, kSl2_ap, kSlF_ap, kSlF1_ap, kPart_ap, kPd_ap, kPdB_t, kPm_ap, kPc_ap, kPar_ap, putP_d, putP_m, putP_0, kHnd_ap, frzD, kAsg_ap, kAsgB_t, sto_non, sto_bl, sto_int, sto_str, sto_tup, sto_lst, sto_dct, sto_ins, sto_hnd, sto_scr, Bool.and_self, Bool.not_true, Bool.not_false, List.getElem?_cons_zero, List.getElem?_cons_succ, List.set_cons_succ, List.set_cons_zero, kM1_ap, kM1b_ap, kOrT_ap, kOrT1_t, kOrT1_f, eqD_ap, neD_ap, Option.map_some, addD_int, subD_int, gtD_int, ltD_int, cmpI_int, intD_int, intD_bl, negD_int, kStr_ap, kLput_ap, kLput1_ap, decide_true, decide_false, isCS_ap, isiC_ins, isiC_tup, isiC_non, fld_ins, fputS_ap, kFp1_ap, makeF_ap, blS_ap, kBl_ap, own2_ap, kO2_ap, lenE_lst, lenE_tup, listE_lst, listE_tup, listE_dct, strD_str, isB_ap, isNotB_ap, keySortF_ap, dcF_ap, tupleD_lst, slD_tup, slD_lst, vl_own, inA_loc, notInA_loc, lenD_loc, lenE_loc, ixA_loc, slD_loc, eqB_loc1, eqB_loc2, addD_loc1, addD_loc2, tupleD_loc, listN_loc, listE_loc, reprD_loc, joinD_loc, sortN_loc, bind_assoc, Ok_ok, and_self, true_and, and_true, permS_ap, kPerm_2, kPerm_1, eqB_int, eqB_bls, eqB_str, fzS_ap, kFz_own, lenD_lst, len_tup, txs_length, tts_length, sto_exc, tgU_ap, isiXS_ap, raiseS_ap, O.bind_err, countS_ap, indexS_ap, heardS_ap, revD_tup, revD_lst, fld_held, e1, ix_en1, len_mvs, e2, k, e3, sto_mvs, sgD, i1, m1, ad, if_true]
      simpa [sgD] using ih
theorem gone_ok {cu : List D → List MO → R} (hu : IsNumT cu) : IsGone (runD 7 3 (goneS cu)) := by
  intro sg g p ns muz hg h hl
  refine w_runE rfl ?_
  show Ok (goneS cu ⟨[.d (gameD sg g), .d (.str p), .d (.tup (ns.map fun n => D.int (n : Nat))), .un, .un, .un, .un], muz⟩) _
  have w := gone_loop hu (sg := sg) hg (.d (.tup (ns.map fun n => D.int (n : Nat)))) muz ns p [] .un .un .un h (by simpa using hl)
  obtain ⟨fl, s, e, rfl, s4, s5, s6, rfl⟩ := w.ex
  simp only [seqS_ap, setS_ap, retS_ap, ifS_ap, iteS_ap, tstS_ap, tNotS_ap, tAndS_ap, tOrS_ap, andS_ap, orS_ap, notS_ap, binS_ap, unS_ap, callF_ap, callV_ap, callN_ap, consS_ap, nilS_ap, tupS_ap, lstF_ap, frzS_ap, ownS_ap, exS_ap, cS_ap, varS_ap, parA_ap, parS_inl, parS_inr, parS_nil, forS_ap, itRng_ap, itRng2_ap, itS_ap, itStr_ap, lcF_ap, slS_ap, slF_ap, noPartS_ap, partS_ap, isiS_ap, chainS_ap, nxS_ap, bkS_ap, ctS_ap, yesS_ap, orT_ap, appS_ap, popAtS_ap, dputS_ap, lputS_ap, hndS_ap, m1S_ap, asgS_ap, O.bind_ok, kVar_d, kVar_own, kB1_ap, kB2_ap, kU_ap, kAnd_t, kAnd_f, kOr_t, kOr_f, kNot_ap, kTst_ap, kTAnd_t, kTAnd_f, kTOr_t, kTOr_f, kTNot_ap, kIte_t, kIte_f, kC0_ap, kC1_ap, kC1'_t, kC1'_f, kC2_ap, kCons_ap, kCons2_ap, kTup_0, kTup_1, kTup_2, kTupB_t, kLst_0, kLst_1, kLstB_t, kFrz_ap, kCv_ap, kCn_ap, ofO_some, ofN_some, kEx_ap, kSet_ap, kSetB_t, kOwn_ap, kRet_non, kRet_bl, kRet_int, kRet_str, kRet_tup, kRet_lst, kRet_hnd, kRet_dct, kRet_ins, kRet_loc, kRet1_ap, kSeq_nx, kSeq_rt, kSeq_bk, kSeq_ct, kIt_ap, kIts_ap, seqD_lst, seqD_tup, seqD_scr, kFor_ap, tgN_ap, tgT_ap, tgsS_nil, tgsS_cons, kSl_ap, kSl1_ap, kSl2_ap, kSlF_ap, kSlF1_ap, kPart_ap, kPd_ap, kPdB_t, kPm_ap, kPc_ap, kPar_ap, putP_d, putP_m, putP_0, kHnd_ap, frzD, kAsg_ap, kAsgB_t, sto_non, sto_bl, sto_int, sto_str, sto_tup, sto_lst, sto_dct, sto_ins, sto_hnd, sto_scr, Bool.and_self, Bool.not_true, Bool.not_false, List.getElem?_cons_zero, List.getElem?_cons_succ, List.set_cons_succ, List.set_cons_zero, kM1_ap, kM1b_ap, kOrT_ap, kOrT1_t, kOrT1_f, eqD_ap, neD_ap, Option.map_some, addD_int, subD_int, gtD_int, ltD_int, cmpI_int, intD_int, intD_bl, negD_int, kStr_ap, kLput_ap, kLput1_ap, decide_true, decide_false, isCS_ap, isiC_ins, isiC_tup, isiC_non, fld_ins, fputS_ap, kFp1_ap, makeF_ap, blS_ap, kBl_ap, own2_ap, kO2_ap, lenE_lst, lenE_tup, listE_lst, listE_tup, listE_dct, strD_str, isB_ap, isNotB_ap, keySortF_ap, dcF_ap, tupleD_lst, slD_tup, slD_lst, vl_own, inA_loc, notInA_loc, lenD_loc, lenE_loc, ixA_loc, slD_loc, eqB_loc1, eqB_loc2, addD_loc1, addD_loc2, tupleD_loc, listN_loc, listE_loc, reprD_loc, joinD_loc, sortN_loc, bind_assoc, Ok_ok, and_self, true_and, and_true, permS_ap, kPerm_2, kPerm_1, eqB_int, eqB_bls, eqB_str, fzS_ap, kFz_own, lenD_lst, len_tup, txs_length, tts_length, sto_exc, tgU_ap, isiXS_ap, raiseS_ap, O.bind_err, countS_ap, indexS_ap, heardS_ap, revD_tup, revD_lst, isi_tup]
  refine w_eq e ?_
  simp only [seqS_ap, setS_ap, retS_ap, ifS_ap, iteS_ap, tstS_ap, tNotS_ap, tAndS_ap, tOrS_ap, andS_ap, orS_ap, notS_ap, binS_ap, unS_ap, callF_ap, callV_ap, callN_ap, consS_ap, nilS_ap, tupS_ap, lstF_ap, frzS_ap, ownS_ap, exS_ap, cS_ap, varS_ap, parA_ap, parS_inl, parS_inr, parS_nil, forS_ap, itRng_ap, itRng2_ap, itS_ap, itStr_ap, lcF_ap, slS_ap, slF_ap, noPartS_ap, partS_ap, isiS_ap, chainS_ap, nxS_ap, bkS_ap, ctS_ap, yesS_ap, orT_ap, appS_ap, popAtS_ap, dputS_ap, lputS_ap, hndS_ap, m1S_ap, asgS_ap, O.bind_ok, kVar_d, kVar_own, kB1_ap, kB2_ap, kU_ap, kAnd_t, kAnd_f, kOr_t, kOr_f, kNot_ap, kTst_ap, kTAnd_t, kTAnd_f, kTOr_t, kTOr_f, kTNot_ap, kIte_t, kIte_f, kC0_ap, kC1_ap, kC1'_t, kC1'_f, kC2_ap, kCons_ap, kCons2_ap, kTup_0, kTup_1, kTup_2, kTupB_t, kLst_0, kLst_1, kLstB_t, kFrz_ap, kCv_ap, kCn_ap, ofO_some, ofN_some, kEx_ap, kSet_ap, kSetB_t, kOwn_ap, kRet_non, kRet_bl, kRet_int, kRet_str, kRet_tup, kRet_lst, kRet_hnd, kRet_dct, kRet_ins, kRet_loc, kRet1_ap, kSeq_nx, kSeq_rt, kSeq_bk, kSeq_ct, kIt_ap, kIts_ap, seqD_lst, seqD_tup, seqD_scr, kFor_ap, tgN_ap, tgT_ap, tgsS_nil, tgsS_cons, kSl_ap, kSl1_ap, kSl2_ap, kSlF_ap, kSlF1_ap, kPart_ap, kPd_ap, kPdB_t, kPm_ap, kPc_ap, kPar_ap, putP_d, putP_m, putP_0, kHnd_ap, frzD, kAsg_ap, kAsgB_t, sto_non, sto_bl, sto_int, sto_str, sto_tup, sto_lst, sto_dct, sto_ins, sto_hnd, sto_scr, Bool.and_self, Bool.not_true, Bool.not_false, List.getElem?_cons_zero, List.getElem?_cons_succ, List.set_cons_succ, List.set_cons_zero, kM1_ap, kM1b_ap, kOrT_ap, kOrT1_t, kOrT1_f, eqD_ap, neD_ap, Option.map_some, addD_int, subD_int, gtD_int, ltD_int, cmpI_int, intD_int, intD_bl, negD_int, kStr_ap, kLput_ap, kLput1_ap, decide_true, decide_false, isCS_ap, isiC_ins, isiC_tup, isiC_non, fld_ins, fputS_ap, kFp1_ap, makeF_ap, blS_ap, kBl_ap, own2_ap, kO2_ap, lenE_lst, lenE_tup, listE_lst, listE_tup, listE_dct, strD_str, isB_ap, isNotB_ap, keySortF_ap, dcF_ap, tupleD_lst, slD_tup, slD_lst, vl_own, inA_loc, notInA_loc, lenD_loc, lenE_loc, ixA_loc, slD_loc, eqB_loc1, eqB_loc2, addD_loc1, addD_loc2, tupleD_loc, listN_loc, listE_loc, reprD_loc, joinD_loc, sortN_loc, bind_assoc, Ok_ok, and_self, true_and, and_true, permS_ap, kPerm_2, kPerm_1, eqB_int, eqB_bls, eqB_str, fzS_ap, kFz_own, lenD_lst, len_tup, txs_length, tts_length, sto_exc, tgU_ap, isiXS_ap, raiseS_ap, O.bind_err, countS_ap, indexS_ap, heardS_ap, revD_tup, revD_lst, List.nil_append]
def IsFollow (c : List D → List MO → R) : Prop := ∀ (sg : List Str) (g : List GEn) (p : Str) (ns : List Nat) (muz : List MO), GLay g → isPl g p = true → goOk g p ns → ns.length ≤ 1000 → c [gameD sg g, .str p, .tup (ns.map fun n => D.int (n : Nat))] muz = .ok (.tup [.tup (txs (goP g p ns).1), .str (goP g p ns).2]) muz
theorem follow_ok {cn cg : List D → List MO → R} (hn : IsNeedPl cn) (hg : IsGone cg) : IsFollow (runD 3 3 (followS cn cg)) := by
  intro sg g p ns muz h1 h2 h3 h4
  refine w_runE rfl ?_
  show Ok (followS cn cg ⟨[.d (gameD sg g), .d (.str p), .d (.tup (ns.map fun n => D.int (n : Nat)))], muz⟩) _
  have sg0 : sto (gameD sg g) = true := rfl
  have k1 : ∀ rhz, kCall cn [gameD sg g, .str p] ⟨rhz, muz⟩ = .ok .non ⟨rhz, muz⟩ := fun rhz => kCall_eq (hn sg g p muz h2) rfl
  have k2 : ∀ rhz, kCall cg [gameD sg g, .str p, .tup (ns.map fun n => D.int (n : Nat))] ⟨rhz, muz⟩ = .ok (.tup [.tup (txs (goP g p ns).1), .str (goP g p ns).2]) ⟨rhz, muz⟩ := fun rhz => kCall_eq (hg sg g p ns muz h1 h3 h4) rfl
  simp only [seqS_ap, setS_ap, retS_ap, ifS_ap, iteS_ap, tstS_ap, tNotS_ap, tAndS_ap, tOrS_ap, andS_ap, orS_ap, notS_ap, binS_ap, unS_ap, callF_ap, callV_ap, callN_ap, consS_ap, nilS_ap, tupS_ap, lstF_ap, frzS_ap, ownS_ap, exS_ap, cS_ap, varS_ap, parA_ap, parS_inl, parS_inr, parS_nil, forS_ap, itRng_ap, itRng2_ap, itS_ap, itStr_ap, lcF_ap, slS_ap, slF_ap, noPartS_ap, partS_ap, isiS_ap, chainS_ap, nxS_ap, bkS_ap, ctS_ap, yesS_ap, orT_ap, appS_ap, popAtS_ap, dputS_ap, lputS_ap, hndS_ap, m1S_ap, asgS_ap, O.bind_ok, kVar_d, kVar_own, kB1_ap, kB2_ap, kU_ap, kAnd_t, kAnd_f, kOr_t, kOr_f, kNot_ap, kTst_ap, kTAnd_t, kTAnd_f, kTOr_t, kTOr_f, kTNot_ap, kIte_t, kIte_f, kC0_ap, kC1_ap, kC1'_t, kC1'_f, kC2_ap, kCons_ap, kCons2_ap, kTup_0, kTup_1, kTup_2, kTupB_t, kLst_0, kLst_1, kLstB_t, kFrz_ap, kCv_ap, kCn_ap, ofO_some, ofN_some, kEx_ap, kSet_ap, kSetB_t, kOwn_ap, kRet_non, kRet_bl, kRet_int, kRet_str, kRet_tup, kRet_lst, kRet_hnd, kRet_dct, kRet_ins, kRet_loc, kRet1_ap, kSeq_nx, kSeq_rt, kSeq_bk, kSeq_ct, kIt_ap, kIts_ap, seqD_lst, seqD_tup, seqD_scr, kFor_ap, tgN_ap, tgT_ap, tgsS_nil, tgsS_cons, kSl_ap, kSl1_ap, kSl2_ap, kSlF_ap, kSlF1_ap, kPart_ap, kPd_ap, kPdB_t, kPm_ap, kPc_ap, kPar_ap, putP_d, putP_m, putP_0, kHnd_ap, frzD, kAsg_ap, kAsgB_t, sto_non, sto_bl, sto_int, sto_str, sto_tup, sto_lst, sto_dct, sto_ins, sto_hnd, sto_scr, Bool.and_self, Bool.not_true, Bool.not_false, List.getElem?_cons_zero, List.getElem?_cons_succ, List.set_cons_succ, List.set_cons_zero, kM1_ap, kM1b_ap, kOrT_ap, kOrT1_t, kOrT1_f, eqD_ap, neD_ap, Option.map_some, addD_int, subD_int, gtD_int, ltD_int, cmpI_int, intD_int, intD_bl, negD_int, kStr_ap, kLput_ap, kLput1_ap, decide_true, decide_false, isCS_ap, isiC_ins, isiC_tup, isiC_non, fld_ins, fputS_ap, kFp1_ap, makeF_ap, blS_ap, kBl_ap, own2_ap, kO2_ap, lenE_lst, lenE_tup, listE_lst, listE_tup, listE_dct, strD_str, isB_ap, isNotB_ap, keySortF_ap, dcF_ap, tupleD_lst, slD_tup, slD_lst, vl_own, inA_loc, notInA_loc, lenD_loc, lenE_loc, ixA_loc, slD_loc, eqB_loc1, eqB_loc2, addD_loc1, addD_loc2, tupleD_loc, listN_loc, listE_loc, reprD_loc, joinD_loc, sortN_loc, bind_assoc, Ok_ok, and_self, true_and, and_true, permS_ap, kPerm_2, kPerm_1, eqB_int, eqB_bls, eqB_str, fzS_ap, kFz_own, lenD_lst, len_tup, txs_length, tts_length, sto_exc, tgU_ap, isiXS_ap, raiseS_ap, O.bind_err, countS_ap, indexS_ap, heardS_ap, revD_tup, revD_lst, k1, k2]
end AG
set_option Elab.async false
set_option linter.all false
set_option maxRecDepth 100000
set_option exponentiation.threshold 4000
namespace AG
open PySem L2
def LyD (d : D) : Prop := ∃ q, pyOf d = some q ∧ PyData.canLay0 q = true ∧ PyData.depth q ≤ 50
theorem pyL_ly : ∀ l : List D, (∀ d ∈ l, LyD d) → ∃ Q, pyL l = some Q ∧ PyData.canLayAll0 Q = true ∧ PyData.depthAll Q ≤ 50 ∧ Q.length = l.length
  | [], _ => ⟨[], rfl, by simp [PyData.canLayAll0], by simp [PyData.depthAll], rfl⟩
  | d :: l, h => by
    obtain ⟨q, h1, h2, h3⟩ := h d List.mem_cons_self
    obtain ⟨Q, k1, k2, k3, k4⟩ := pyL_ly l fun x hx => h x (List.mem_cons_of_mem _ hx)
    refine ⟨q :: Q, by simp only [pyL, h1, k1], by simp [PyData.canLayAll0, h2, k2], by simp only [PyData.depthAll]; omega, by simp [k4]⟩
theorem LyD.tup {l : List D} (h : ∀ d ∈ l, ∃ q, pyOf d = some q ∧ PyData.canLay0 q = true ∧ PyData.depth q ≤ 20) : ∃ q, pyOf (.tup l) = some q ∧ PyData.canLay0 q = true ∧ PyData.depth q ≤ 21 := by
  have : ∃ Q, pyL l = some Q ∧ PyData.canLayAll0 Q = true ∧ PyData.depthAll Q ≤ 20 := by
    induction l with
    | nil => exact ⟨[], rfl, by simp [PyData.canLayAll0], by simp [PyData.depthAll]⟩
    | cons d l ih =>
      obtain ⟨q, h1, h2, h3⟩ := h d List.mem_cons_self
      obtain ⟨Q, k1, k2, k3⟩ := ih fun x hx => h x (List.mem_cons_of_mem _ hx)
      exact ⟨q :: Q, by simp only [pyL, h1, k1], by simp [PyData.canLayAll0, h2, k2], by simp only [PyData.depthAll]; omega⟩
  obtain ⟨Q, h1, h2, h3⟩ := this
  exact ⟨.tuple Q, pyOf_tup h1, by simp only [PyData.canLay0]; exact h2, by simp only [PyData.depth]; omega⟩
theorem eqB_nil {s : S} {x : D} {l : List D} (hx : vw s x = .lst l) (h : ∀ d ∈ l, LyD d) : eqB s x (.lst []) = some (decide (l = [])) := by
  obtain ⟨Q, h1, h2, h3, h4⟩ := pyL_ly l h
  have sq : SeqAt.shaped (.list Q) = true := by
    have e1 : (PyData.list Q).canLay0 = true := by simp only [PyData.canLay0]; exact h2
    have e2 : (PyData.list Q).depth ≤ 64 := by simp only [PyData.depth]; omega
    unfold SeqAt.shaped
    rw [e1, decide_eq_true e2]
    rfl
  have s0 : SeqAt.shaped (.list []) = true := by decide +kernel
  have e0 : pyOf (.lst []) = some (.list []) := rfl
  have v0 : vw s (.lst []) = .lst [] := rfl
  unfold eqB
  rw [hx, v0]
  simp only [pyOf_lst h1, e0, sq, s0, Bool.and_self, if_true, PyData.eqv]
  cases Q with
  | nil =>
    have : l = [] := List.eq_nil_of_length_eq_zero (by simpa using h4.symm)
    simp [PyData.eqvAll, this]
  | cons q Q =>
    have : l ≠ [] := fun e => by rw [e] at h4; simp at h4
    simp [PyData.eqvAll, this]
section
variable {cd : List D → List MO → R} {P : Pot}
theorem mxG_while {γ : Type} (mk : γ → D) (hm : ∀ a, sto (mk a) = true) (hd : IsDrw P cd) (a1 : SV) : ∀ (k : Nat) (left acc : List γ) (n : Nat) (muz : List MO), left.length = k → (∀ a ∈ left, LyD (mk a)) → k + acc.length ≤ 1000 → P (n + k) muz →
    ∃ out muz', whS mxC (mxB cd) ⟨[.d (.hnd 1), a1, .own (.ml (left.map mk)), .own (.ml (acc.map mk))], muz⟩ = .ok .nx ⟨[.d (.hnd 1), a1, .own (.ml []), .own (.ml ((acc ++ out).map mk))], muz'⟩ ∧ out.Perm left ∧ P n muz'
  | 0, left, acc, n, muz, hk, hl, hx, hB => by
    have e0 : left = [] := List.eq_nil_of_length_eq_zero hk
    subst e0
    refine ⟨[], muz, ?_, List.Perm.refl _, hB⟩
    have ec : mxC ⟨[.d (.hnd 1), a1, .own (.ml []), .own (.ml (acc.map mk))], muz⟩ = .ok false ⟨[.d (.hnd 1), a1, .own (.ml []), .own (.ml (acc.map mk))], muz⟩ := by
      have := eqB_nil (s := ⟨[.d (.hnd 1), a1, .own (.ml []), .own (.ml (acc.map mk))], muz⟩) (x := .loc 2) (l := []) rfl (by simp)
      simp [mxC, this]
    rw [List.map_nil, whS_unf, ec]
    simp
  | k + 1, left, acc, n, muz, hk, hl, hx, hB => by
    obtain ⟨v, muz1, e1, v1, hB1⟩ := hd (n + k) muz left.length hB (by omega) (by omega)
    have vl : v < left.length := by omega
    have ec : mxC ⟨[.d (.hnd 1), a1, .own (.ml (left.map mk)), .own (.ml (acc.map mk))], muz⟩ = .ok true ⟨[.d (.hnd 1), a1, .own (.ml (left.map mk)), .own (.ml (acc.map mk))], muz⟩ := by
      have := eqB_nil (s := ⟨[.d (.hnd 1), a1, .own (.ml (left.map mk)), .own (.ml (acc.map mk))], muz⟩) (x := .loc 2) (l := left.map mk) rfl (by
        intro d h
        obtain ⟨a, ha, rfl⟩ := List.mem_map.mp h
        exact hl a ha)
      have hne : left ≠ [] := fun q => by rw [q] at hk; cases hk
      simp [mxC, this, hne]
    have lenE : ∀ s : S, s.rhz[2]? = some (.own (.ml (left.map mk))) → lenD s [.loc 2] = some (.int left.length) := fun s hs => by
      unfold lenD vw
      simp only [hs, frzD, List.length_map]
    have kd : ∀ rhz, kCall cd [.hnd 1, .int left.length] ⟨rhz, muz⟩ = .ok (.int (v : Nat)) ⟨rhz, muz1⟩ := fun rhz => kCall_eq e1 rfl
    have p1 := kPopAt1_own (i := 2) (rhz := [.d (.hnd 1), a1, .own (.ml (left.map mk)), .own (.ml (acc.map mk))]) (muz := muz1) (l := left.map mk) (k := v) (z := mk left[v]) rfl (by rw [List.getElem?_map, List.getElem?_eq_getElem vl]; rfl) (by omega)
    rw [map_erase] at p1
    have q1 := kPopAt_own (g := callF cd (consS (varS 0) (consS (callV lenD (consS (varS 2) nilS)) nilS))) (i := 2) (rhz := [.d (.hnd 1), a1, .own (.ml (left.map mk)), .own (.ml (acc.map mk))]) (muz := muz) (l := left.map mk) rfl
    have a2 := kApp1_own (i := 3) (rhz := [.d (.hnd 1), a1, .own (.ml ((left.eraseIdx v).map mk)), .own (.ml (acc.map mk))]) (muz := muz1) (l := acc.map mk) (y := mk left[v]) rfl (hm _) (by rw [List.length_map]; exact Nat.lt_of_le_of_lt (show acc.length ≤ 1000 by omega) (by decide))
    have a1' := kApp_own (g := popAtS (varS 2) (callF cd (consS (varS 0) (consS (callV lenD (consS (varS 2) nilS)) nilS)))) (i := 3) (rhz := [.d (.hnd 1), a1, .own (.ml (left.map mk)), .own (.ml (acc.map mk))]) (muz := muz) (l := acc.map mk) rfl
    have at1 : acc.map mk ++ [mk left[v]] = (acc ++ [left[v]]).map mk := by simp
    rw [at1] at a2
    have eb : mxB cd ⟨[.d (.hnd 1), a1, .own (.ml (left.map mk)), .own (.ml (acc.map mk))], muz⟩ = .ok .nx ⟨[.d (.hnd 1), a1, .own (.ml ((left.eraseIdx v).map mk)), .own (.ml ((acc ++ [left[v]]).map mk))], muz1⟩ := by
      simp only [mxB, appS_ap, varS_ap, List.getElem?_cons_zero, List.getElem?_cons_succ, kVar_own, kVar_d, O.bind_ok, a1', popAtS_ap, q1, callF_ap, consS_ap, kCons_ap, callV_ap, nilS_ap, kCons2_ap, kCv_ap, lenE, ofO_some, kd, p1, List.set_cons_succ, List.set_cons_zero, a2]
    have len1 : (left.eraseIdx v).length = k := by rw [List.length_eraseIdx_of_lt vl]; omega
    obtain ⟨out, muz2, e2, pm, hB2⟩ := mxG_while mk hm hd a1 k (left.eraseIdx v) (acc ++ [left[v]]) n muz1 len1 (fun x hx => hl x (List.mem_of_mem_eraseIdx hx)) (by simp; omega) hB1
    refine ⟨left[v] :: out, muz2, ?_, ?_, hB2⟩
    · rw [whS_unf, ec]
      simp only [O.bind_ok, if_true, eb]
      rw [e2]
      simp
    · have := erase_perm left v vl
      exact (List.Perm.cons _ pm).trans this
def IsMixG (P : Pot) (cm : List D → List MO → R) : Prop := ∀ (γ : Type) (mk : γ → D) (n : Nat) (muz : List MO) (l : List γ), (∀ a, sto (mk a) = true) → (∀ a ∈ l, LyD (mk a)) → l.length ≤ 1000 → P (n + l.length) muz → ∃ (out : List γ) (muz' : List MO), cm [.hnd 1, .lst (l.map mk)] muz = .ok (.lst (out.map mk)) muz' ∧ out.Perm l ∧ P n muz'
theorem mixedG_ok (hd : IsDrw P cd) : IsMixG P (runD 4 2 (mixedS cd)) := by
  intro γ mk n muz l hm hl hx hB
  obtain ⟨out, muz', e, pm, hB'⟩ := mxG_while mk hm hd (.d (.lst (l.map mk))) l.length l [] n muz rfl hl (by simpa using hx) hB
  refine ⟨out, muz', ?_, pm, hB'⟩
  refine runD_eq (s := ⟨[.d (.hnd 1), .d (.lst (l.map mk)), .own (.ml []), .un], muz'⟩) rfl ?_
  have el : listN ⟨[.d (.hnd 1), .d (.lst (l.map mk)), .un, .un], muz⟩ [.lst (l.map mk)] = some (.ml (l.map mk)) := rfl
  have e' : whS mxC (mxB cd) ⟨[.d (.hnd 1), .d (.lst (l.map mk)), .own (.ml (l.map mk)), .own (.ml [])], muz⟩ = .ok .nx ⟨[.d (.hnd 1), .d (.lst (l.map mk)), .own (.ml []), .own (.ml (out.map mk))], muz'⟩ := e
  show mixedS cd ⟨[.d (.hnd 1), .d (.lst (l.map mk)), .un, .un], muz⟩ = _
  simp only [mixedS, seqS_ap, parA_ap, parS_inr, parS_nil, callN_ap, consS_ap, varS_ap, List.getElem?_cons_zero, List.getElem?_cons_succ, kVar_d, O.bind_ok, kCons_ap, nilS_ap, kCons2_ap, kCn_ap, el, ofN_some, kPm_ap, lstF_ap, kLst_0, kPc_ap, kPar_ap, putP_m, putP_0, List.set_cons_succ, List.set_cons_zero, kSeq_nx, e', retS_ap, kVar_own, kRet_loc, kRet1_ap, frzD]
end
theorem any_key (x : Str) : ∀ g : List GEn, ((g.map enP).any fun p => keyQ false p.1 (.str x)) = decide (x ∈ g.map (·.1))
  | [] => rfl
  | e :: g => by
    rw [List.map_cons, List.any_cons, any_key x g]
    show (keyQ false (.str e.1) (.str x) || _) = _
    rw [keyQ_str]
    by_cases h : e.1 = x
    · simp [h]
    · have h' : ¬ x = e.1 := fun q => h q.symm
      simp [h, h']
theorem put_newG {g : List GEn} {x : Str} {v : D} (h : x ∉ g.map (·.1)) : putD false (g.map enP) (.str x) v = g.map enP ++ [(.str x, v)] := by
  unfold putD
  rw [any_key, decide_eq_false h]
  rfl
theorem fold_new : ∀ (g acc : List GEn), ((acc ++ g).map (·.1)).Nodup → foldP (acc.map enP) (g.map enP) = (acc ++ g).map enP
  | [], acc, _ => by simp [foldP]
  | e :: g, acc, h => by
    have hx : e.1 ∉ acc.map (·.1) := fun m => by
      rw [List.map_append, List.nodup_append] at h
      exact h.2.2 e.1 m e.1 (by simp) rfl
    have p : putD false (acc.map enP) (.str e.1) (enV e) = _ := put_newG hx
    have ih := fold_new g (acc ++ [e]) (by simpa using h)
    unfold foldP at ih ⊢
    rw [List.map_cons, List.foldl_cons]
    show List.foldl _ (putD false (acc.map enP) (.str e.1) (enV e)) (g.map enP) = _
    rw [p]
    have : acc.map enP ++ [(D.str e.1, enV e)] = (acc ++ [e]).map enP := by simp [enP]
    rw [this, ih]
    simp
theorem pairsD_en : ∀ g : List GEn, pairsD (g.map fun e => pairT (enP e)) = some (g.map enP)
  | [] => rfl
  | e :: g => by
    have ih := pairsD_en g
    show (match pairsD (g.map fun e => pairT (enP e)) with
      | some ps => if isKey false (D.str e.1) = true then some ((D.str e.1, enV e) :: ps) else none
      | none => none) = _
    rw [ih]
    rfl
theorem dictN_en (s : S) (g : List GEn) (h : (g.map (·.1)).Nodup) : dictN s [.lst (g.map fun e => pairT (enP e))] = some (.md false (g.map enP)) := by
  have f := fold_new g [] (by simpa using h)
  simp only [List.map_nil, List.nil_append] at f
  show (match pairsD (g.map fun e => pairT (enP e)) with
      | some ps => some (MO.md false (foldP [] ps))
      | none => none) = _
  rw [pairsD_en]
  show some (MO.md false (foldP [] (g.map enP))) = _
  rw [f]
end AG
set_option Elab.async false
set_option linter.all false
set_option maxRecDepth 100000
namespace AG.K42
open PySem L2 AG
def esl : List (Nat × Str) := [(7, "NoGame"), (8, "NoPlan"), (6, "NotPlain"), (21, "TooMany"), (1, "NoCondition")]
noncomputable def f_NotPlain___init___S (C : Calls) : M Fl := stS
noncomputable def f_is_name_S (C : Calls) : M Fl := (seqS (ifS (tOrS (tNotS (tstS (isiS "str" (varS 0)))) (tNotS (tstS (chainS (cmpI fun i j => decide (i ≤ j)) (cmpI fun i j => decide (i ≤ j)) (cS (.int 1)) (callV lenD (consS (varS 0) nilS)) (cS (.int 6)))))) (retS (cS (.bl false))) nxS)
    (retS (callV allD (consS (frzS (lcF (itStr (varS 0)) (tgN 1) yesS (binS inA (varS 1) (cS (.str "abcdefghijklmnopqrstuvwxyz"))) [1])) nilS))))
noncomputable def f_are_signals_S (C : Calls) : M Fl := (seqS (ifS (tOrS (tNotS (tstS (isiS "tuple" (varS 0)))) (tNotS (tstS (chainS (cmpI fun i j => decide (i ≤ j)) (cmpI fun i j => decide (i ≤ j)) (cS (.int 1)) (callV lenE (consS (varS 0) nilS)) (cS (.int 5)))))) (retS (cS (.bl false))) nxS)
    (retS (andS (callV allD (consS (frzS (lcF (itS (varS 0)) (tgN 1) yesS (callF (C 1) (consS (varS 1) nilS)) [1])) nilS)) (binS eqD (callV lenE (consS (callV setD (consS (varS 0) nilS)) nilS)) (callV lenE (consS (varS 0) nilS))))))
noncomputable def f_is_number_S (C : Calls) : M Fl := (retS (andS (isiS "int" (varS 0)) (andS (notS (isiS "bool" (varS 0))) (chainS (cmpI fun i j => decide (i ≤ j)) (cmpI fun i j => decide (i ≤ j)) (varS 1) (varS 0) (varS 2)))))
noncomputable def f_is_player_S (C : Calls) : M Fl := (retS (andS (isiS "str" (varS 0)) (binS inA (varS 0) (tupS (consS (cS (.str "keeper")) (consS (cS (.str "breaker")) nilS))))))
noncomputable def f_are_moves_S (C : Calls) : M Fl := (seqS (ifS (tOrS (tNotS (tstS (isiS "tuple" (varS 2)))) (tNotS (tstS (chainS (cmpI fun i j => decide (i ≤ j)) (cmpI fun i j => decide (i ≤ j)) (cS (.int 1)) (callV lenE (consS (varS 2) nilS)) (cS (.int 40)))))) (retS (cS (.bl false))) nxS)
    (seqS (forS (itS (varS 2)) (tgN 3) (seqS (ifS (tOrS (tNotS (tstS (isiS "tuple" (varS 3)))) (tOrS (tstS (binS neD (callV lenE (consS (varS 3) nilS)) (cS (.int 2)))) (tOrS (tNotS (tstS (isiS "str" (binS ixA (varS 3) (cS (.int 1)))))) (tstS (binS notInA (binS ixA (varS 3) (cS (.int 1))) (varS 1)))))) (retS (cS (.bl false))) nxS)
    (ifS (tAndS (tstS (binS isNotNonD (binS ixA (varS 3) (cS (.int 0))) (cS .non))) (tNotS (tAndS (tstS (isiS "str" (binS ixA (varS 3) (cS (.int 0))))) (tstS (binS inA (binS ixA (varS 3) (cS (.int 0))) (varS 0)))))) (retS (cS (.bl false))) nxS)))
    (retS (cS (.bl true)))))
noncomputable def f_are_places_S (C : Calls) : M Fl := (seqS (ifS (tOrS (tNotS (tstS (isiS "dict" (varS 1)))) (tNotS (tstS (chainS (cmpI fun i j => decide (i ≤ j)) (cmpI fun i j => decide (i ≤ j)) (cS (.int 1)) (callV lenE (consS (varS 1) nilS)) (cS (.int 120)))))) (retS (cS (.bl false))) nxS)
    (seqS (forI (itI 1) (tgT [(tgN 2), (tgN 3)]) (seqS (ifS (tOrS (tNotS (tstS (callF (C 1) (consS (varS 2) nilS)))) (tOrS (tNotS (tstS (isiS "tuple" (varS 3)))) (tstS (binS neD (callV lenE (consS (varS 3) nilS)) (cS (.int 2)))))) (retS (cS (.bl false))) nxS)
    (ifS (tOrS (tNotS (tstS (callF (C 4) (consS (binS ixA (varS 3) (cS (.int 0))) nilS)))) (tNotS (tstS (callF (C 5) (consS (varS 0) (consS (varS 1) (consS (binS ixA (varS 3) (cS (.int 1))) nilS))))))) (retS (cS (.bl false))) nxS)))
    (retS (cS (.bl true)))))
noncomputable def f_has_silent_ring_S (C : Calls) : M Fl := (seqS (setS 1 (frzS (callN listE (consS (varS 0) nilS))))
    (seqS (whS (tstS (binS neD (varS 1) (frzS (lstF nilS)))) (seqS (setS 2 (frzS (lcF (itS (varS 1)) (tgN 3) (tstS (callV anyD (consS (frzS (lcF (itS (binS ixA (binS ixA (varS 0) (varS 3)) (cS (.int 1)))) (tgN 4) yesS (andS (binS isNonD (binS ixA (varS 4) (cS (.int 0))) (cS .non)) (binS inA (binS ixA (varS 4) (cS (.int 1))) (varS 1))) [4])) nilS))) (varS 3) [3])))
    (seqS (ifS (tstS (binS eqD (callV lenE (consS (varS 2) nilS)) (callV lenE (consS (varS 1) nilS)))) (retS (cS (.bl true))) nxS)
    (setS 1 (varS 2)))))
    (retS (cS (.bl false)))))
noncomputable def f_Game___init___S (C : Calls) : M Fl := (seqS (ifS (tOrS (tNotS (tstS (callF (C 2) (consS (varS 1) nilS)))) (tOrS (tNotS (tstS (callF (C 6) (consS (varS 1) (consS (varS 2) nilS))))) (tstS (callF (C 7) (consS (varS 2) nilS))))) (raiseS 7) nxS)
    (seqS (fputS [13] "signals" (callV tupleD (consS (frzS (callN sortN (consS (varS 1) nilS))) nilS)) (varS 0))
    (fputS [13] "held" (frzS (callN dictC (consS (varS 2) nilS))) (varS 0))))
noncomputable def f_Game_places_S (C : Calls) : M Fl := stS
noncomputable def f_Game___len___S (C : Calls) : M Fl := (retS (callV lenE (consS (unS (fldD [13] "held") (varS 0)) nilS)))
noncomputable def f_Game___getitem___S (C : Calls) : M Fl := stS
noncomputable def f_Game___iter___S (C : Calls) : M Fl := stS
noncomputable def f_Game___eq___S (C : Calls) : M Fl := stS
noncomputable def f_need_place_S (C : Calls) : M Fl := (ifS (tOrS (tNotS (tstS (isiS "str" (varS 1)))) (tstS (binS notInA (varS 1) (unS (fldD [13] "held") (varS 0))))) (raiseS 7) nxS)
noncomputable def f_gone_S (C : Calls) : M Fl := (seqS (ifS (tNotS (tstS (isiS "tuple" (varS 2)))) (raiseS 8) nxS)
    (seqS (setS 3 (frzS (lstF nilS)))
    (seqS (forS (itS (varS 2)) (tgN 4) (seqS (setS 5 (binS ixA (binS ixA (unS (fldD [13] "held") (varS 0)) (varS 1)) (cS (.int 1))))
    (seqS (ifS (tNotS (tstS (callF (C 3) (consS (varS 4) (consS (cS (.int 0)) (consS (binS subD (callV lenE (consS (varS 5) nilS)) (cS (.int 1))) nilS)))))) (raiseS 8) nxS)
    (seqS (asgS (binS ixA (varS 5) (varS 4)) (tgT [(tgN 6), (tgN 1)]))
    (setS 3 (binS addD (varS 3) (binS mulE (frzS (lstF (consS (varS 6) nilS))) (callV intD (consS (binS isNotNonD (varS 6) (cS .non)) nilS)))))))))
    (retS (tupS (consS (callV tupleD (consS (varS 3) nilS)) (consS (varS 1) nilS)))))))
noncomputable def f_follow_S (C : Calls) : M Fl := (seqS (exS (callF (C 14) (consS (varS 0) (consS (varS 1) nilS))))
    (retS (callF (C 15) (consS (varS 0) (consS (varS 1) (consS (varS 2) nilS))))))
noncomputable def f__law_begin_S (C : Calls) : M Fl := (seqS (setS 1 (frzS (lcF (itS (varS 0)) (tgN 2) yesS (callV absD (consS (varS 2) nilS)) [2])))
    (retS (hndS (dispF (pconsS (cS (.str "large")) (hndS (lcF (itS (varS 1)) (tgN 2) (tstS (binS (cmpI fun i j => decide (j ≤ i)) (varS 2) (binS powD (cS (.int 10)) (cS (.int 18))))) (binS subD (varS 2) (binS powD (cS (.int 10)) (cS (.int 18)))) [2])) (pconsS (cS (.str "cells")) (varS 1) (pconsS (cS (.str "rest")) (cS (.int 0)) (pconsS (cS (.str "turn")) (cS (.int 0)) pnilS))))))))
noncomputable def f__law_draw_S (C : Calls) : M Fl := (seqS (whS (tAndS (tstS (binS eqD (binS ixA (varS 0) (cS (.str "rest"))) (cS (.int 0)))) (tstS (binS neD (binS ixA (varS 0) (cS (.str "large"))) (frzS (lstF nilS))))) (dputS (popAtS (binS ixA (varS 0) (cS (.str "large"))) (cS (.int 0))) (varS 0) (cS (.str "rest"))))
    (seqS (ifS (tstS (binS gtD (binS ixA (varS 0) (cS (.str "rest"))) (cS (.int 0)))) (seqS (setS 5 (binS modD (callV intD (consS (binS ixA (varS 0) (cS (.str "rest"))) nilS)) (varS 1)))
    (seqS (dputS (binS fdivD (binS ixA (varS 0) (cS (.str "rest"))) (varS 1)) (varS 0) (cS (.str "rest")))
    (retS (varS 5)))) nxS)
    (seqS (setS 2 (binS addD (binS ixA (varS 0) (cS (.str "turn"))) (cS (.int 1))))
    (seqS (dputS (varS 2) (varS 0) (cS (.str "turn")))
    (seqS (setS 3 (iteS (tstS (binS neD (binS ixA (varS 0) (cS (.str "cells"))) (frzS (lstF nilS)))) (binS ixA (binS ixA (varS 0) (cS (.str "cells"))) (binS modD (callV intD (consS (varS 2) nilS)) (callV lenD (consS (binS ixA (varS 0) (cS (.str "cells"))) nilS)))) (cS (.int 0))))
    (seqS (setS 4 (binS modD (callV intD (consS (binS powD (binS addD (binS addD (binS modD (callV intD (consS (varS 3) nilS)) (cS (.int 2147483629))) (binS mulE (cS (.int 48271)) (varS 2))) (cS (.int 24680))) (cS (.int 3))) nilS)) (cS (.int 2147483647))))
    (retS (binS modD (callV intD (consS (binS fdivD (binS modD (callV intD (consS (binS powD (binS addD (varS 4) (binS mulE (cS (.int 99991)) (varS 2))) (cS (.int 5))) nilS)) (cS (.int 2147483587))) (cS (.int 19))) nilS)) (varS 1)))))))))
noncomputable def f__law_pick_S (C : Calls) : M Fl := (retS (binS ixA (varS 1) (callF (C 18) (consS (varS 0) (consS (callV lenD (consS (varS 1) nilS)) nilS)))))
noncomputable def f__law_mixed_S (C : Calls) : M Fl := (seqS (parA [2, 3] [.inr (callN listN (consS (varS 1) nilS)), .inr (lstF nilS)])
    (seqS (whS (tstS (binS neD (varS 2) (frzS (lstF nilS)))) (appS (varS 3) (popAtS (varS 2) (callF (C 18) (consS (varS 0) (consS (callV lenD (consS (varS 2) nilS)) nilS))))))
    (retS (varS 3))))
noncomputable def f__law_kind_S (C : Calls) : M Fl := (seqS (setS 1 (frzS (lstF (consS (isES esl 7 (varS 0)) (consS (isES esl 8 (varS 0)) (consS (isES esl 6 (varS 0)) nilS))))))
    (seqS (setS 1 (binS addD (varS 1) (frzS (lstF (consS (isES esl 21 (varS 0)) (consS (isES esl 1 (varS 0)) nilS))))))
    (seqS (setS 2 (frzS (lstF (consS (cS (.str "game")) (consS (cS (.str "plan")) (consS (cS (.str "plain")) (consS (cS (.str "many")) (consS (cS (.str "condition")) nilS))))))))
    (retS (iteS (tstS (binS eqD (countS (varS 1) (cS (.bl true))) (cS (.int 1)))) (binS ixA (varS 2) (indexS (varS 1) (cS (.bl true)))) (cS (.str "other")))))))
noncomputable def f__law_heard_S (C : Calls) : M Fl := stS
noncomputable def f__law_heard_3S (C : Calls) : M Fl := (retS (iteS (tstS (binS isNonD (varS 2) (cS .non))) (frzS (lstF (consS (varS 1) nilS))) (callF (C 21) (consS (varS 2) nilS))))
noncomputable def f__law_ring_S (C : Calls) : M Fl := (seqS (setS 3 (cS (.str "abcdefghijklmnopqrstuvwxyz")))
    (seqS (setS 4 (frzS (lcF (itRng (varS 1)) (tgN 6) yesS (binS addD (binS addD (cS (.str "p")) (binS ixA (varS 3) (binS fdivD (varS 6) (cS (.int 26))))) (binS ixA (varS 3) (binS modD (callV intD (consS (varS 6) nilS)) (cS (.int 26))))) [6])))
    (seqS (ownS 5 (newDF false))
    (seqS (forS (itEnum (consS (varS 4) nilS)) (tgT [(tgN 6), (tgN 7)]) (seqS (setS 8 (binS ixA (varS 4) (binS modD (callV intD (consS (binS addD (varS 6) (cS (.int 1))) nilS)) (varS 1))))
    (dputS (tupS (consS (callF (C 19) (consS (varS 0) (consS (frzS (lstF (consS (cS (.str "keeper")) (consS (cS (.str "breaker")) nilS)))) nilS))) (consS (binS mulE (tupS (consS (tupS (consS (cS (.str "a")) (consS (varS 8) nilS))) nilS)) (iteS (tstS (binS eqD (varS 6) (cS (.int 0)))) (varS 2) (cS (.int 1)))) nilS))) (varS 5) (varS 7))))
    (retS (varS 5))))))
noncomputable def f__law_row_S (C : Calls) : M Fl := (seqS (setS 3 (cS (.str "abcdefghijklmnopqrstuvwxyz")))
    (seqS (setS 4 (frzS (lcF (itRng (varS 1)) (tgN 6) yesS (binS addD (binS addD (cS (.str "q")) (binS ixA (varS 3) (binS fdivD (varS 6) (cS (.int 26))))) (binS ixA (varS 3) (binS modD (callV intD (consS (varS 6) nilS)) (cS (.int 26))))) [6])))
    (seqS (ownS 5 (newDF false))
    (seqS (forS (itEnum (consS (slS (varS 4) noPartS (partS (unS negD (cS (.int 1))))) nilS)) (tgT [(tgN 6), (tgN 7)]) (dputS (tupS (consS (cS (.str "keeper")) (consS (tupS (consS (tupS (consS (cS .non) (consS (binS ixA (varS 4) (binS addD (varS 6) (cS (.int 1)))) nilS))) nilS)) nilS))) (varS 5) (varS 7)))
    (seqS (dputS (tupS (consS (cS (.str "breaker")) (consS (tupS (consS (tupS (consS (binS ixA (varS 2) (cS (.int 0))) (consS (binS ixA (varS 4) (binS ixA (varS 2) (cS (.int 1)))) nilS))) nilS)) nilS))) (varS 5) (binS ixA (varS 4) (unS negD (cS (.int 1)))))
    (retS (frzS (callN dictN (consS (callF (C 20) (consS (varS 0) (consS (frzS (itmF 5)) nilS))) nilS)))))))))
noncomputable def f_law_S (C : Calls) : M Fl := (seqS (setS 1 (callF (C 17) (consS (varS 0) nilS)))
    (seqS (parA [3, 4] [.inl (binS addD (cS (.int 118)) (callF (C 18) (consS (varS 1) (consS (cS (.int 5)) nilS)))), .inl (binS addD (cS (.int 38)) (callF (C 18) (consS (varS 1) (consS (cS (.int 5)) nilS))))])
    (seqS (forS (itS (frzS (lstF (consS (tupS (consS (varS 3) (consS (cS (.int 1)) nilS))) (consS (tupS (consS (binS addD (cS (.int 1)) (callF (C 18) (consS (varS 1) (consS (cS (.int 20)) nilS)))) (consS (varS 4) nilS))) (consS (tupS (consS (cS (.int 120)) (consS (cS (.int 40)) nilS))) (consS (tupS (consS (varS 3) (consS (varS 4) nilS))) nilS))))))) (tgT [(tgN 5), (tgN 6)]) (seqS (setS 7 (callF (C 23) (consS (varS 1) (consS (varS 5) (consS (varS 6) nilS)))))
    (seqS (setS 8 (heardS (fun e => (esl.map (·.1)).contains e) (frzS (makeF 13 (C 8) (consS (tupS (consS (cS (.str "a")) (consS (cS (.str "b")) nilS))) (consS (varS 7) nilS)))) (f__law_heard_3S C)))
    (ifS (tOrS (tstS (binS gtD (varS 5) (cS (.int 120)))) (tstS (binS gtD (varS 6) (cS (.int 40))))) (ifS (tstS (binS neD (varS 8) (cS (.str "game")))) (retS (cS (.bl false))) nxS) (ifS (tOrS (tNotS (tstS (isiS "list" (varS 8)))) (tstS (binS neD (lnS (C 10) 13 (binS ixA (varS 8) (cS (.int 0)))) (varS 5)))) (retS (cS (.bl false))) (ifS (tstS (binS neD (callF (C 16) (consS (binS ixA (varS 8) (cS (.int 0))) (consS (binS ixA (frzS (callN listE (consS (varS 7) nilS))) (cS (.int 0))) (consS (binS addD (tupS (consS (binS subD (varS 6) (cS (.int 1))) nilS)) (binS mulZ (tupS (consS (cS (.int 0)) nilS)) (binS subD (varS 5) (cS (.int 1))))) nilS)))) (tupS (consS (binS mulE (tupS (consS (cS (.str "a")) nilS)) (varS 5)) (consS (binS ixA (frzS (callN listE (consS (varS 7) nilS))) (cS (.int 0))) nilS))))) (retS (cS (.bl false))) nxS))))))
    (seqS (forS (itRng (cS (.int 3))) (tgN 2) (seqS (setS 5 (binS addD (cS (.int 1)) (callF (C 18) (consS (varS 1) (consS (cS (.int 120)) nilS)))))
    (seqS (setS 9 (callF (C 18) (consS (varS 1) (consS (varS 5) nilS))))
    (seqS (ifS (tstS (binS neD (heardS (fun e => (esl.map (·.1)).contains e) (frzS (makeF 13 (C 8) (consS (tupS (consS (cS (.str "a")) nilS)) (consS (callF (C 24) (consS (varS 1) (consS (varS 5) (consS (tupS (consS (cS .non) (consS (varS 9) nilS))) nilS)))) nilS)))) (f__law_heard_3S C)) (cS (.str "game")))) (retS (cS (.bl false))) nxS)
    (ifS (tNotS (tstS (isiS "list" (heardS (fun e => (esl.map (·.1)).contains e) (frzS (makeF 13 (C 8) (consS (tupS (consS (cS (.str "a")) nilS)) (consS (callF (C 24) (consS (varS 1) (consS (varS 5) (consS (tupS (consS (cS (.str "a")) (consS (varS 9) nilS))) nilS)))) nilS)))) (f__law_heard_3S C))))) (retS (cS (.bl false))) nxS)))))
    (retS (cS (.bl true)))))))
noncomputable def body (C : Calls) : Calls := fun j => match j with
  | 0 => runD 2 2 (f_NotPlain___init___S C)
  | 1 => runD 2 1 (f_is_name_S C)
  | 2 => runD 2 1 (f_are_signals_S C)
  | 3 => runD 3 3 (f_is_number_S C)
  | 4 => runD 1 1 (f_is_player_S C)
  | 5 => runD 4 3 (f_are_moves_S C)
  | 6 => runD 4 2 (f_are_places_S C)
  | 7 => runD 5 1 (f_has_silent_ring_S C)
  | 8 => runD 3 3 (f_Game___init___S C)
  | 9 => runD 1 1 (f_Game_places_S C)
  | 10 => runD 1 1 (f_Game___len___S C)
  | 11 => runD 2 2 (f_Game___getitem___S C)
  | 12 => runD 1 1 (f_Game___iter___S C)
  | 13 => runD 2 2 (f_Game___eq___S C)
  | 14 => runD 2 2 (f_need_place_S C)
  | 15 => runD 7 3 (f_gone_S C)
  | 16 => runD 3 3 (f_follow_S C)
  | 17 => runD 3 1 (f__law_begin_S C)
  | 18 => runD 6 2 (f__law_draw_S C)
  | 19 => runD 2 2 (f__law_pick_S C)
  | 20 => runD 4 2 (f__law_mixed_S C)
  | 21 => runD 3 1 (f__law_kind_S C)
  | 22 => runD 4 1 (f__law_heard_S C)
  | 23 => runD 9 3 (f__law_ring_S C)
  | 24 => runD 8 3 (f__law_row_S C)
  | 25 => runD 10 1 (f_law_S C)
  | _ => fun _ _ => .st
end AG.K42
set_option Elab.async false
set_option linter.all false
set_option maxRecDepth 100000
set_option exponentiation.threshold 4000
namespace AG.K42
open PySem L2 AG
def nmS (c i : Nat) : Str := ⟨#[c, 97 + i / 26, 97 + i % 26]⟩
theorem nm_app (c a b : Nat) : ((⟨#[c]⟩ : Str) ++ sgn a) ++ sgn b = ⟨#[c, a, b]⟩ := rfl
theorem nm_len (c i : Nat) : (nmS c i).length = 3 := rfl
theorem nm_nm {c i : Nat} (h1 : 97 ≤ c) (h2 : c ≤ 122) (h : i < 676) : Nm (nmS c i) := by
  refine ⟨by rw [nm_len]; omega, by rw [nm_len]; omega, fun x hx => ?_⟩
  have e : (nmS c i).cps.toList = [c, 97 + i / 26, 97 + i % 26] := rfl
  rw [e] at hx
  simp only [List.mem_cons, List.not_mem_nil, or_false] at hx
  rcases hx with rfl | rfl | rfl <;> omega
theorem nm_inj {c i j : Nat} (h : nmS c i = nmS c j) : i = j := by
  have e : (nmS c i).cps.toList = (nmS c j).cps.toList := by rw [h]
  have e1 : ∀ k, (nmS c k).cps.toList = [c, 97 + k / 26, 97 + k % 26] := fun _ => rfl
  rw [e1, e1] at e
  simp only [List.cons.injEq, and_true, true_and] at e
  omega
def nms (c k : Nat) : List Str := (List.range k).map (nmS c)
theorem nms_len (c k : Nat) : (nms c k).length = k := by simp [nms]
theorem nms_get {c k i : Nat} (h : i < k) : (nms c k)[i]? = some (nmS c i) := by simp [nms, h]
theorem ix_nms (s : S) {c k i : Nat} (h : i < k) : ixA s (.lst (txs (nms c k))) (.int (i : Nat)) = some (.str (nmS c i)) := ix_map s D.str (nms c k) i _ (nms_get h)
theorem ix_let (s : S) {v : Nat} (h : v < 26) : ixA s (.str "abcdefghijklmnopqrstuvwxyz") (.int (v : Nat)) = some (.str (sgn (97 + v))) := by
  show (if LET.length ≤ LIM then (atI LET.cps.toList (v : Nat)).map fun c => D.str ⟨#[c]⟩ else none) = _
  rw [let_len, if_pos (by decide), atI_ok _ _ (by omega) (by rw [let_len2]; omega), Int.toNat_natCast, let_get _ h]
  rfl
theorem nm_f1 (s : S) (i : Nat) : fdivD s (.int (i : Nat)) (.int 26) = some (.int ((i / 26 : Nat) : Int)) := by
  rw [fdivD_int s _ (by omega) (by omega)]
  simp
theorem nm_f2 (s : S) (i : Nat) : modD s (.int (i : Nat)) (.int 26) = some (.int ((i % 26 : Nat) : Int)) := by
  rw [modD_pos s _ (by omega)]
  simp
theorem nm_a1 {c : Nat} {c0 : Str} (hc : c0 = ⟨#[c]⟩) (s : S) (a : Nat) : addD s (.str c0) (.str (sgn a)) = some (.str (⟨#[c]⟩ ++ sgn a)) := by
  subst hc
  exact addD_nm s (by decide : 1 + 1 ≤ 20)
theorem nm_a2 (c : Nat) (s : S) (a b : Nat) : addD s (.str (⟨#[c]⟩ ++ sgn a)) (.str (sgn b)) = some (.str ⟨#[c, a, b]⟩) := by
  rw [← nm_app]
  exact addD_nm s (by decide : 2 + 1 ≤ 20)
theorem nms_map (c k : Nat) : ((List.range k).map fun i => D.str (nmS c i)) = txs (nms c k) := by
  unfold nms txs
  rw [List.map_map]
  rfl
def ringE (f : Nat → Str) (k m i : Nat) : GEn := (nmS 112 i, f i, List.replicate (if i = 0 then m else 1) (some "a", nmS 112 ((i + 1) % k)))
def ringG (f : Nat → Str) (k m j : Nat) : List GEn := (List.range j).map (ringE f k m)
theorem ring_keys (f : Nat → Str) (k m j : Nat) : (ringG f k m j).map (·.1) = nms 112 j := by
  unfold ringG nms
  rw [List.map_map]
  rfl
theorem nms_nd (c k : Nat) : (nms c k).Nodup := by
  unfold nms
  exact List.pairwise_map.mpr (List.nodup_range.imp fun h e => h (nm_inj e))
theorem nms_not (c k : Nat) : nmS c k ∉ nms c k := by
  unfold nms
  intro h
  obtain ⟨a, ha, e⟩ := List.mem_map.mp h
  have := nm_inj e
  rw [List.mem_range] at ha
  omega
theorem ring_succ (f : Nat → Str) (k m j : Nat) : ringG f k m (j + 1) = ringG f k m j ++ [ringE f k m j] := by
  unfold ringG
  rw [List.range_succ, List.map_append]
  rfl
theorem ring_congr {f f' : Nat → Str} (k m : Nat) {j : Nat} (h : ∀ i, i < j → f i = f' i) : ringG f k m j = ringG f' k m j := by
  unfold ringG
  refine List.map_congr_left fun i hi => ?_
  unfold ringE
  rw [h i (List.mem_range.mp hi)]
def IsRing (P : Pot) (c : List D → List MO → R) : Prop := ∀ (n : Nat) (muz : List MO) (k m : Nat), 1 ≤ k → k ≤ 122 → 1 ≤ m → m ≤ 42 → P (n + k) muz → ∃ (f : Nat → Str) (muz' : List MO), c [.hnd 1, .int (k : Nat), .int (m : Nat)] muz = .ok (plsD (ringG f k m k)) muz' ∧ (∀ i, f i ∈ plyL) ∧ P n muz'
theorem enum_txs (l : List Str) : numD (txs l) = (List.range l.length).map fun i => D.tup [.int (i : Nat), .str (l.getD i "")] := by
  unfold numD txs
  refine List.ext_getElem? fun i => ?_
  rw [List.getElem?_mapIdx, List.getElem?_map, List.getElem?_map]
  by_cases h : i < l.length
  · simp [h]
  · rw [List.getElem?_eq_none (by omega), List.getElem?_eq_none (by simpa using h)]
    rfl
theorem ring_ok {P : Pot} (SP : Src P) {C : Calls} (hp : IsPck P (C 19)) : IsRing P (runD 9 3 (f__law_ring_S C)) := by
  intro n muz k m k1 k2 m1 m2 hP
  have lpos : (1 : Nat) ≤ k := k1
  suffices w : ∃ d muz', runD 9 3 (f__law_ring_S C) [.hnd 1, .int (k : Nat), .int (m : Nat)] muz = .ok d muz' ∧ ∃ f : Nat → Str, d = plsD (ringG f k m k) ∧ (∀ i, f i ∈ plyL) ∧ P n muz' by
    obtain ⟨d, muz', e, f, rfl, h1, h2⟩ := w
    exact ⟨f, muz', e, h1, h2⟩
  refine w_run rfl ?_
  show Ok (f__law_ring_S C ⟨[.d (.hnd 1), .d (.int (k : Nat)), .d (.int (m : Nat)), .un, .un, .un, .un, .un, .un], muz⟩) _
  have nd0 : ∀ s, newDF false s = .ok (.md false []) s := fun s => Eq.trans rfl rfl
  have c0 : ("p" : Str) = ⟨#[112]⟩ := by decide +kernel
  have rg : ∀ s, kRng (.int (k : Nat)) s = .ok ((List.range k).map fun i => .int (i : Nat)) s := fun s => kRng_ap k s (by omega)
  unfold f__law_ring_S
  simp only [seqS_ap, setS_ap, retS_ap, ifS_ap, iteS_ap, tstS_ap, tNotS_ap, tAndS_ap, tOrS_ap, andS_ap, orS_ap, notS_ap, binS_ap, unS_ap, callF_ap, callV_ap, callN_ap, consS_ap, nilS_ap, tupS_ap, lstF_ap, frzS_ap, ownS_ap, exS_ap, cS_ap, varS_ap, parA_ap, parS_inl, parS_inr, parS_nil, forS_ap, itRng_ap, itRng2_ap, itS_ap, itStr_ap, lcF_ap, slS_ap, slF_ap, noPartS_ap, partS_ap, isiS_ap, chainS_ap, nxS_ap, bkS_ap, ctS_ap, yesS_ap, orT_ap, appS_ap, popAtS_ap, dputS_ap, lputS_ap, hndS_ap, m1S_ap, asgS_ap, O.bind_ok, kVar_d, kVar_own, kB1_ap, kB2_ap, kU_ap, kAnd_t, kAnd_f, kOr_t, kOr_f, kNot_ap, kTst_ap, kTAnd_t, kTAnd_f, kTOr_t, kTOr_f, kTNot_ap, kIte_t, kIte_f, kC0_ap, kC1_ap, kC1'_t, kC1'_f, kC2_ap, kCons_ap, kCons2_ap, kTup_0, kTup_1, kTup_2, kTupB_t, kLst_0, kLst_1, kLstB_t, kFrz_ap, kCv_ap, kCn_ap, ofO_some, ofN_some, kEx_ap, kSet_ap, kSetB_t, kOwn_ap, kRet_non, kRet_bl, kRet_int, kRet_str, kRet_tup, kRet_lst, kRet_hnd, kRet_dct, kRet_ins, kRet_loc, kRet1_ap, kSeq_nx, kSeq_rt, kSeq_bk, kSeq_ct, kIt_ap, kIts_ap, seqD_lst, seqD_tup, seqD_scr, kFor_ap, tgN_ap, tgT_ap, tgsS_nil, tgsS_cons, kSl_ap, kSl1_ap, kSl2_ap, kSlF_ap, kSlF1_ap, kPart_ap, kPd_ap, kPdB_t, kPm_ap, kPc_ap, kPar_ap, putP_d, putP_m, putP_0, kHnd_ap, frzD, kAsg_ap, kAsgB_t, sto_non, sto_bl, sto_int, sto_str, sto_tup, sto_lst, sto_dct, sto_ins, sto_hnd, sto_scr, Bool.and_self, Bool.not_true, Bool.not_false, List.getElem?_cons_zero, List.getElem?_cons_succ, List.set_cons_succ, List.set_cons_zero, kM1_ap, kM1b_ap, kOrT_ap, kOrT1_t, kOrT1_f, eqD_ap, neD_ap, Option.map_some, addD_int, subD_int, gtD_int, ltD_int, cmpI_int, intD_int, intD_bl, negD_int, kStr_ap, kLput_ap, kLput1_ap, decide_true, decide_false, isCS_ap, isiC_ins, isiC_tup, isiC_non, fld_ins, fputS_ap, kFp1_ap, makeF_ap, blS_ap, kBl_ap, own2_ap, kO2_ap, lenE_lst, lenE_tup, listE_lst, listE_tup, listE_dct, strD_str, isB_ap, isNotB_ap, keySortF_ap, dcF_ap, tupleD_lst, slD_tup, slD_lst, vl_own, inA_loc, notInA_loc, lenD_loc, lenE_loc, ixA_loc, slD_loc, eqB_loc1, eqB_loc2, addD_loc1, addD_loc2, tupleD_loc, listN_loc, listE_loc, reprD_loc, joinD_loc, sortN_loc, bind_assoc, Ok_ok, and_self, true_and, and_true, permS_ap, kPerm_2, kPerm_1, eqB_int, eqB_bls, eqB_str, fzS_ap, kFz_own, lenD_lst, len_tup, txs_length, tts_length, sto_exc, tgU_ap, isiXS_ap, raiseS_ap, O.bind_err, countS_ap, indexS_ap, heardS_ap, revD_tup, revD_lst, rg]
  refine w_map (fun i : Nat => D.int (i : Nat)) (fun i => .str (nmS 112 i)) (List.range k) rfl (by rw [List.length_range]; unfold LIM; omega) (fun i hi => ?_) ?_
  · have hi' := List.mem_range.mp hi
    have i1 := fun s => ix_let s (v := i / 26) (by omega)
    have i2 := fun s => ix_let s (v := i % 26) (by omega)
    have a1 := fun s => nm_a1 c0 s (97 + i / 26)
    have a2 := fun s => nm_a2 112 s (97 + i / 26) (97 + i % 26)
    simp only [seqS_ap, setS_ap, retS_ap, ifS_ap, iteS_ap, tstS_ap, tNotS_ap, tAndS_ap, tOrS_ap, andS_ap, orS_ap, notS_ap, binS_ap, unS_ap, callF_ap, callV_ap, callN_ap, consS_ap, nilS_ap, tupS_ap, lstF_ap, frzS_ap, ownS_ap, exS_ap, cS_ap, varS_ap, parA_ap, parS_inl, parS_inr, parS_nil, forS_ap, itRng_ap, itRng2_ap, itS_ap, itStr_ap, lcF_ap, slS_ap, slF_ap, noPartS_ap, partS_ap, isiS_ap, chainS_ap, nxS_ap, bkS_ap, ctS_ap, yesS_ap, orT_ap, appS_ap, popAtS_ap, dputS_ap, lputS_ap, hndS_ap, m1S_ap, asgS_ap, O.bind_ok, kVar_d, kVar_own, kB1_ap, kB2_ap, kU_ap, kAnd_t, kAnd_f, kOr_t, kOr_f, kNot_ap, kTst_ap, kTAnd_t, kTAnd_f, kTOr_t, kTOr_f, kTNot_ap, kIte_t, kIte_f, kC0_ap, kC1_ap, kC1'_t, kC1'_f, kC2_ap, kCons_ap, kCons2_ap, kTup_0, kTup_1, kTup_2, kTupB_t, kLst_0, kLst_1, kLstB_t, kFrz_ap, kCv_ap, kCn_ap, ofO_some, ofN_some, kEx_ap, kSet_ap, kSetB_t, kOwn_ap, kRet_non, kRet_bl, kRet_int, kRet_str, kRet_tup, kRet_lst, kRet_hnd, kRet_dct, kRet_ins, kRet_loc, kRet1_ap, kSeq_nx, kSeq_rt, kSeq_bk, kSeq_ct, kIt_ap, kIts_ap, seqD_lst, seqD_tup, seqD_scr, kFor_ap, tgN_ap, tgT_ap, tgsS_nil, tgsS_cons, kSl_ap, kSl1_ap, kSl2_ap, kSlF_ap, kSlF1_ap, kPart_ap, kPd_ap, kPdB_t, kPm_ap, kPc_ap, kPar_ap, putP_d, putP_m, putP_0, kHnd_ap, frzD, kAsg_ap, kAsgB_t, sto_non, sto_bl, sto_int, sto_str, sto_tup, sto_lst, sto_dct, sto_ins, sto_hnd, sto_scr, Bool.and_self, Bool.not_true, Bool.not_false, List.getElem?_cons_zero, List.getElem?_cons_succ, List.set_cons_succ, List.set_cons_zero, kM1_ap, kM1b_ap, kOrT_ap, kOrT1_t, kOrT1_f, eqD_ap, neD_ap, Option.map_some, addD_int, subD_int, gtD_int, ltD_int, cmpI_int, intD_int, intD_bl, negD_int, kStr_ap, kLput_ap, kLput1_ap, decide_true, decide_false, isCS_ap, isiC_ins, isiC_tup, isiC_non, fld_ins, fputS_ap, kFp1_ap, makeF_ap, blS_ap, kBl_ap, own2_ap, kO2_ap, lenE_lst, lenE_tup, listE_lst, listE_tup, listE_dct, strD_str, isB_ap, isNotB_ap, keySortF_ap, dcF_ap, tupleD_lst, slD_tup, slD_lst, vl_own, inA_loc, notInA_loc, lenD_loc, lenE_loc, ixA_loc, slD_loc, eqB_loc1, eqB_loc2, addD_loc1, addD_loc2, tupleD_loc, listN_loc, listE_loc, reprD_loc, joinD_loc, sortN_loc, bind_assoc, Ok_ok, and_self, true_and, and_true, permS_ap, kPerm_2, kPerm_1, eqB_int, eqB_bls, eqB_str, fzS_ap, kFz_own, lenD_lst, len_tup, txs_length, tts_length, sto_exc, tgU_ap, isiXS_ap, raiseS_ap, O.bind_err, countS_ap, indexS_ap, heardS_ap, revD_tup, revD_lst, nm_f1, nm_f2, i1, i2, a1, a2]
    exact rfl
  rw [nms_map]
  simp only [seqS_ap, setS_ap, retS_ap, ifS_ap, iteS_ap, tstS_ap, tNotS_ap, tAndS_ap, tOrS_ap, andS_ap, orS_ap, notS_ap, binS_ap, unS_ap, callF_ap, callV_ap, callN_ap, consS_ap, nilS_ap, tupS_ap, lstF_ap, frzS_ap, ownS_ap, exS_ap, cS_ap, varS_ap, parA_ap, parS_inl, parS_inr, parS_nil, forS_ap, itRng_ap, itRng2_ap, itS_ap, itStr_ap, lcF_ap, slS_ap, slF_ap, noPartS_ap, partS_ap, isiS_ap, chainS_ap, nxS_ap, bkS_ap, ctS_ap, yesS_ap, orT_ap, appS_ap, popAtS_ap, dputS_ap, lputS_ap, hndS_ap, m1S_ap, asgS_ap, O.bind_ok, kVar_d, kVar_own, kB1_ap, kB2_ap, kU_ap, kAnd_t, kAnd_f, kOr_t, kOr_f, kNot_ap, kTst_ap, kTAnd_t, kTAnd_f, kTOr_t, kTOr_f, kTNot_ap, kIte_t, kIte_f, kC0_ap, kC1_ap, kC1'_t, kC1'_f, kC2_ap, kCons_ap, kCons2_ap, kTup_0, kTup_1, kTup_2, kTupB_t, kLst_0, kLst_1, kLstB_t, kFrz_ap, kCv_ap, kCn_ap, ofO_some, ofN_some, kEx_ap, kSet_ap, kSetB_t, kOwn_ap, kRet_non, kRet_bl, kRet_int, kRet_str, kRet_tup, kRet_lst, kRet_hnd, kRet_dct, kRet_ins, kRet_loc, kRet1_ap, kSeq_nx, kSeq_rt, kSeq_bk, kSeq_ct, kIt_ap, kIts_ap, seqD_lst, seqD_tup, seqD_scr, kFor_ap, tgN_ap, tgT_ap, tgsS_nil, tgsS_cons, kSl_ap, kSl1_ap, kSl2_ap, kSlF_ap, kSlF1_ap, kPart_ap, kPd_ap, kPdB_t, kPm_ap, kPc_ap, kPar_ap, putP_d, putP_m, putP_0, kHnd_ap, frzD, kAsg_ap, kAsgB_t, sto_non, sto_bl, sto_int, sto_str, sto_tup, sto_lst, sto_dct, sto_ins, sto_hnd, sto_scr, Bool.and_self, Bool.not_true, Bool.not_false, List.getElem?_cons_zero, List.getElem?_cons_succ, List.set_cons_succ, List.set_cons_zero, kM1_ap, kM1b_ap, kOrT_ap, kOrT1_t, kOrT1_f, eqD_ap, neD_ap, Option.map_some, addD_int, subD_int, gtD_int, ltD_int, cmpI_int, intD_int, intD_bl, negD_int, kStr_ap, kLput_ap, kLput1_ap, decide_true, decide_false, isCS_ap, isiC_ins, isiC_tup, isiC_non, fld_ins, fputS_ap, kFp1_ap, makeF_ap, blS_ap, kBl_ap, own2_ap, kO2_ap, lenE_lst, lenE_tup, listE_lst, listE_tup, listE_dct, strD_str, isB_ap, isNotB_ap, keySortF_ap, dcF_ap, tupleD_lst, slD_tup, slD_lst, vl_own, inA_loc, notInA_loc, lenD_loc, lenE_loc, ixA_loc, slD_loc, eqB_loc1, eqB_loc2, addD_loc1, addD_loc2, tupleD_loc, listN_loc, listE_loc, reprD_loc, joinD_loc, sortN_loc, bind_assoc, Ok_ok, and_self, true_and, and_true, permS_ap, kPerm_2, kPerm_1, eqB_int, eqB_bls, eqB_str, fzS_ap, kFz_own, lenD_lst, len_tup, txs_length, tts_length, sto_exc, tgU_ap, isiXS_ap, raiseS_ap, O.bind_err, countS_ap, indexS_ap, heardS_ap, revD_tup, revD_lst, nd0, itEnum_ap, kEnum_ap, enum_txs, nms_len]
  refine w_for (fun i s => ∃ (f : Nat → Str) (s6 s7 s8 : SV) (muz' : List MO), (∀ j, f j ∈ plyL) ∧ s = ⟨[.d (.hnd 1), .d (.int (k : Nat)), .d (.int (m : Nat)), .d (.str "abcdefghijklmnopqrstuvwxyz"), .d (.lst (txs (nms 112 k))), .own (.md false ((ringG f k m i).map enP)), s6, s7, s8], muz'⟩ ∧ i ≤ k ∧ P (n + (k - i)) muz') ⟨fun _ => "keeper", _, _, _, _, fun _ => by simp [plyL], rfl, by omega, by simpa using hP⟩ (fun i d s hd hI => ?_) (fun s hI => ?_)
  · obtain ⟨f, s6, s7, s8, muz', hf, rfl, hi, hP'⟩ := hI
    rw [List.getElem?_map, Option.map_eq_some_iff] at hd
    obtain ⟨i', hi', rfl⟩ := hd
    have ik : i < k := by
      have := (List.getElem?_eq_some_iff.mp hi').1
      simpa using this
    have ei : i' = i := by
      rw [List.getElem?_range ik] at hi'
      exact (Option.some.inj hi').symm
    rw [ei]
    have nk : (nms 112 k).getD i "" = nmS 112 i := by rw [List.getD_eq_getElem?_getD, nms_get ik]; rfl
    rw [nk]
    have P1 : P ((n + (k - (i + 1))) + 1) muz' := by
      have : n + (k - (i + 1)) + 1 = n + (k - i) := by omega
      rw [this]
      exact hP'
    obtain ⟨x, hx, muz2, e1, P2⟩ := hp (n + (k - (i + 1))) muz' [.str "keeper", .str "breaker"] P1 (by simp) (by simp) rfl
    obtain ⟨y, rfl, hy⟩ : ∃ y : Str, x = .str y ∧ y ∈ plyL := by
      simp only [List.mem_cons, List.not_mem_nil, or_false] at hx
      rcases hx with rfl | rfl
      · exact ⟨"keeper", rfl, by simp [plyL]⟩
      · exact ⟨"breaker", rfl, by simp [plyL]⟩
    have k1' : ∀ rhz, kCall (C 19) [.hnd 1, .lst [.str "keeper", .str "breaker"]] ⟨rhz, muz'⟩ = .ok (.str y) ⟨rhz, muz2⟩ := fun rhz => kCall_eq e1 rfl
    have md : ∀ s, modD s (.int ((i : Nat) + 1)) (.int (k : Nat)) = some (.int (((i + 1) % k : Nat) : Int)) := fun s => by
      rw [modD_pos s _ (by omega)]
      simp
    have lt : (i + 1) % k < k := Nat.mod_lt _ (by omega)
    have ix := fun s => ix_nms s (c := 112) lt
    have mul : ∀ s (r : Nat), 1 ≤ r → r ≤ 42 → mulE s (.tup [.tup [.str "a", .str (nmS 112 ((i + 1) % k))]]) (.int (r : Nat)) = some (mvsD (List.replicate r (some "a", nmS 112 ((i + 1) % k)))) := fun s r r1 r2 => by
      rw [mulE_tup s r1 (by omega) (by simp) (by simp)]
      unfold mvsD
      rw [List.flatten_replicate_singleton, List.map_replicate]
      rfl
    have z0 : ∀ s, eqB s (.int (i : Nat)) (.int 0) = some (decide (i = 0)) := fun s => by
      rw [eqB_int]
      congr 1
      by_cases h : i = 0
      · simp [h]
      · rw [decide_eq_false h, decide_eq_false (by omega)]
    have kd := kDput2_own (i := 5) (rhz := [.d (.hnd 1), .d (.int (k : Nat)), .d (.int (m : Nat)), .d (.str "abcdefghijklmnopqrstuvwxyz"), .d (.lst (txs (nms 112 k))), .own (.md false ((ringG f k m i).map enP)), .d (.int (i : Nat)), .d (.str (nmS 112 i)), .d (.str (nmS 112 ((i + 1) % k)))]) (muz := muz2) (t := false) (l := (ringG f k m i).map enP) (z := .tup [.str y, mvsD (List.replicate (if i = 0 then m else 1) (some "a", nmS 112 ((i + 1) % k)))]) (y := .str (nmS 112 i)) rfl rfl rfl (by
      have : ((ringG f k m i).map enP).length = i := by simp [ringG]
      rw [this]
      unfold LIM
      omega)
    rw [put_newG (by rw [ring_keys]; exact nms_not 112 i)] at kd
    have fin : ∃ (f' : Nat → Str), (∀ j, f' j ∈ plyL) ∧ (ringG f k m i).map enP ++ [(D.str (nmS 112 i), .tup [.str y, mvsD (List.replicate (if i = 0 then m else 1) (some "a", nmS 112 ((i + 1) % k)))])] = (ringG f' k m (i + 1)).map enP := by
      refine ⟨fun j => if j = i then y else f j, fun j => by
        show (if j = i then y else f j) ∈ plyL
        split
        · exact hy
        · exact hf j, ?_⟩
      rw [ring_succ, List.map_append]
      congr 1
      · congr 1
        refine ring_congr k m fun j hj => ?_
        show f j = if j = i then y else f j
        rw [if_neg (by omega)]
      · simp [ringE, enP, enV]
    obtain ⟨f', hf', ef⟩ := fin
    rw [ef] at kd
    simp only [seqS_ap, setS_ap, retS_ap, ifS_ap, iteS_ap, tstS_ap, tNotS_ap, tAndS_ap, tOrS_ap, andS_ap, orS_ap, notS_ap, binS_ap, unS_ap, callF_ap, callV_ap, callN_ap, consS_ap, nilS_ap, tupS_ap, lstF_ap, frzS_ap, ownS_ap, exS_ap, cS_ap, varS_ap, parA_ap, parS_inl, parS_inr, parS_nil, forS_ap, itRng_ap, itRng2_ap, itS_ap, itStr_ap, lcF_ap, slS_ap, slF_ap, noPartS_ap, partS_ap, isiS_ap, chainS_ap, nxS_ap, bkS_ap, ctS_ap, yesS_ap, orT_ap, appS_ap, popAtS_ap, dputS_ap, lputS_ap, hndS_ap, m1S_ap, asgS_ap, O.bind_ok, kVar_d, kVar_own, kB1_ap, kB2_ap, kU_ap, kAnd_t, kAnd_f, kOr_t, kOr_f, kNot_ap, kTst_ap, kTAnd_t, kTAnd_f, kTOr_t, kTOr_f, kTNot_ap, kIte_t, kIte_f, kC0_ap, kC1_ap, kC1'_t, kC1'_f, kC2_ap, kCons_ap, kCons2_ap, kTup_0, kTup_1, kTup_2, kTupB_t, kLst_0, kLst_1, kLstB_t, kFrz_ap, kCv_ap, kCn_ap, ofO_some, ofN_some, kEx_ap, kSet_ap, kSetB_t, kOwn_ap, kRet_non, kRet_bl, kRet_int, kRet_str, kRet_tup, kRet_lst, kRet_hnd, kRet_dct, kRet_ins, kRet_loc, kRet1_ap, kSeq_nx, kSeq_rt, kSeq_bk, kSeq_ct, kIt_ap, kIts_ap, seqD_lst, seqD_tup, seqD_scr, kFor_ap, tgN_ap, tgT_ap, tgsS_nil, tgsS_cons, kSl_ap, kSl1_ap, kSl2_ap, kSlF_ap, kSlF1_ap, kPart_ap, kPd_ap, kPdB_t, kPm_ap, kPc_ap, kPar_ap, putP_d, putP_m, putP_0, kHnd_ap, frzD, kAsg_ap, kAsgB_t, sto_non, sto_bl, sto_int, sto_str, sto_tup, sto_lst, sto_dct, sto_ins, sto_hnd, sto_scr, Bool.and_self, Bool.not_true, Bool.not_false, List.getElem?_cons_zero, List.getElem?_cons_succ, List.set_cons_succ, List.set_cons_zero, kM1_ap, kM1b_ap, kOrT_ap, kOrT1_t, kOrT1_f, eqD_ap, neD_ap, Option.map_some, addD_int, subD_int, gtD_int, ltD_int, cmpI_int, intD_int, intD_bl, negD_int, kStr_ap, kLput_ap, kLput1_ap, decide_true, decide_false, isCS_ap, isiC_ins, isiC_tup, isiC_non, fld_ins, fputS_ap, kFp1_ap, makeF_ap, blS_ap, kBl_ap, own2_ap, kO2_ap, lenE_lst, lenE_tup, listE_lst, listE_tup, listE_dct, strD_str, isB_ap, isNotB_ap, keySortF_ap, dcF_ap, tupleD_lst, slD_tup, slD_lst, vl_own, inA_loc, notInA_loc, lenD_loc, lenE_loc, ixA_loc, slD_loc, eqB_loc1, eqB_loc2, addD_loc1, addD_loc2, tupleD_loc, listN_loc, listE_loc, reprD_loc, joinD_loc, sortN_loc, bind_assoc, Ok_ok, and_self, true_and, and_true, permS_ap, kPerm_2, kPerm_1, eqB_int, eqB_bls, eqB_str, fzS_ap, kFz_own, lenD_lst, len_tup, txs_length, tts_length, sto_exc, tgU_ap, isiXS_ap, raiseS_ap, O.bind_err, countS_ap, indexS_ap, heardS_ap, revD_tup, revD_lst, addD_int, md, ix]
    refine w_lst ?_
    simp only [seqS_ap, setS_ap, retS_ap, ifS_ap, iteS_ap, tstS_ap, tNotS_ap, tAndS_ap, tOrS_ap, andS_ap, orS_ap, notS_ap, binS_ap, unS_ap, callF_ap, callV_ap, callN_ap, consS_ap, nilS_ap, tupS_ap, lstF_ap, frzS_ap, ownS_ap, exS_ap, cS_ap, varS_ap, parA_ap, parS_inl, parS_inr, parS_nil, forS_ap, itRng_ap, itRng2_ap, itS_ap, itStr_ap, lcF_ap, slS_ap, slF_ap, noPartS_ap, partS_ap, isiS_ap, chainS_ap, nxS_ap, bkS_ap, ctS_ap, yesS_ap, orT_ap, appS_ap, popAtS_ap, dputS_ap, lputS_ap, hndS_ap, m1S_ap, asgS_ap, O.bind_ok, kVar_d, kVar_own, kB1_ap, kB2_ap, kU_ap, kAnd_t, kAnd_f, kOr_t, kOr_f, kNot_ap, kTst_ap, kTAnd_t, kTAnd_f, kTOr_t, kTOr_f, kTNot_ap, kIte_t, kIte_f, kC0_ap, kC1_ap, kC1'_t, kC1'_f, kC2_ap, kCons_ap, kCons2_ap, kTup_0, kTup_1, kTup_2, kTupB_t, kLst_0, kLst_1, kLstB_t, kFrz_ap, kCv_ap, kCn_ap, ofO_some, ofN_some, kEx_ap, kSet_ap, kSetB_t, kOwn_ap, kRet_non, kRet_bl, kRet_int, kRet_str, kRet_tup, kRet_lst, kRet_hnd, kRet_dct, kRet_ins, kRet_loc, kRet1_ap, kSeq_nx, kSeq_rt, kSeq_bk, kSeq_ct, kIt_ap, kIts_ap, seqD_lst, seqD_tup, seqD_scr, kFor_ap, tgN_ap, tgT_ap, tgsS_nil, tgsS_cons, kSl_ap, kSl1_ap, kSl2_ap, kSlF_ap, kSlF1_ap, kPart_ap, kPd_ap, kPdB_t, kPm_ap, kPc_ap, kPar_ap, putP_d, putP_m, putP_0, kHnd_ap, frzD, kAsg_ap, kAsgB_t, sto_non, sto_bl, sto_int, sto_str, sto_tup, sto_lst, sto_dct, sto_ins, sto_hnd, sto_scr, Bool.and_self, Bool.not_true, Bool.not_false, List.getElem?_cons_zero, List.getElem?_cons_succ, List.set_cons_succ, List.set_cons_zero, kM1_ap, kM1b_ap, kOrT_ap, kOrT1_t, kOrT1_f, eqD_ap, neD_ap, Option.map_some, addD_int, subD_int, gtD_int, ltD_int, cmpI_int, intD_int, intD_bl, negD_int, kStr_ap, kLput_ap, kLput1_ap, decide_true, decide_false, isCS_ap, isiC_ins, isiC_tup, isiC_non, fld_ins, fputS_ap, kFp1_ap, makeF_ap, blS_ap, kBl_ap, own2_ap, kO2_ap, lenE_lst, lenE_tup, listE_lst, listE_tup, listE_dct, strD_str, isB_ap, isNotB_ap, keySortF_ap, dcF_ap, tupleD_lst, slD_tup, slD_lst, vl_own, inA_loc, notInA_loc, lenD_loc, lenE_loc, ixA_loc, slD_loc, eqB_loc1, eqB_loc2, addD_loc1, addD_loc2, tupleD_loc, listN_loc, listE_loc, reprD_loc, joinD_loc, sortN_loc, bind_assoc, Ok_ok, and_self, true_and, and_true, permS_ap, kPerm_2, kPerm_1, eqB_int, eqB_bls, eqB_str, fzS_ap, kFz_own, lenD_lst, len_tup, txs_length, tts_length, sto_exc, tgU_ap, isiXS_ap, raiseS_ap, O.bind_err, countS_ap, indexS_ap, heardS_ap, revD_tup, revD_lst, k1', z0]
    by_cases h0 : i = 0
    · have mu := fun s => mul s m m1 m2
      rw [if_pos h0] at kd
      simp only [seqS_ap, setS_ap, retS_ap, ifS_ap, iteS_ap, tstS_ap, tNotS_ap, tAndS_ap, tOrS_ap, andS_ap, orS_ap, notS_ap, binS_ap, unS_ap, callF_ap, callV_ap, callN_ap, consS_ap, nilS_ap, tupS_ap, lstF_ap, frzS_ap, ownS_ap, exS_ap, cS_ap, varS_ap, parA_ap, parS_inl, parS_inr, parS_nil, forS_ap, itRng_ap, itRng2_ap, itS_ap, itStr_ap, lcF_ap, slS_ap, slF_ap, noPartS_ap, partS_ap, isiS_ap, chainS_ap, nxS_ap, bkS_ap, ctS_ap, yesS_ap, orT_ap, appS_ap, popAtS_ap, dputS_ap, lputS_ap, hndS_ap, m1S_ap, asgS_ap, O.bind_ok, kVar_d, kVar_own, kB1_ap, kB2_ap, kU_ap, kAnd_t, kAnd_f, kOr_t, kOr_f, kNot_ap, kTst_ap, kTAnd_t, kTAnd_f, kTOr_t, kTOr_f, kTNot_ap, kIte_t, kIte_f, kC0_ap, kC1_ap, kC1'_t, kC1'_f, kC2_ap, kCons_ap, kCons2_ap, kTup_0, kTup_1, kTup_2, kTupB_t, kLst_0, kLst_1, kLstB_t, kFrz_ap, kCv_ap, kCn_ap, ofO_some, ofN_some, kEx_ap, kSet_ap, kSetB_t, kOwn_ap, kRet_non, kRet_bl, kRet_int, kRet_str, kRet_tup, kRet_lst, kRet_hnd, kRet_dct, kRet_ins, kRet_loc, kRet1_ap, kSeq_nx, kSeq_rt, kSeq_bk, kSeq_ct, kIt_ap, kIts_ap, seqD_lst, seqD_tup, seqD_scr, kFor_ap, tgN_ap, tgT_ap, tgsS_nil, tgsS_cons, kSl_ap, kSl1_ap, kSl2_ap, kSlF_ap, kSlF1_ap, kPart_ap, kPd_ap, kPdB_t, kPm_ap, kPc_ap, kPar_ap, putP_d, putP_m, putP_0, kHnd_ap, frzD, kAsg_ap, kAsgB_t, sto_non, sto_bl, sto_int, sto_str, sto_tup, sto_lst, sto_dct, sto_ins, sto_hnd, sto_scr, Bool.and_self, Bool.not_true, Bool.not_false, List.getElem?_cons_zero, List.getElem?_cons_succ, List.set_cons_succ, List.set_cons_zero, kM1_ap, kM1b_ap, kOrT_ap, kOrT1_t, kOrT1_f, eqD_ap, neD_ap, Option.map_some, addD_int, subD_int, gtD_int, ltD_int, cmpI_int, intD_int, intD_bl, negD_int, kStr_ap, kLput_ap, kLput1_ap, decide_true, decide_false, isCS_ap, isiC_ins, isiC_tup, isiC_non, fld_ins, fputS_ap, kFp1_ap, makeF_ap, blS_ap, kBl_ap, own2_ap, kO2_ap, lenE_lst, lenE_tup, listE_lst, listE_tup, listE_dct, strD_str, isB_ap, isNotB_ap, keySortF_ap, dcF_ap, tupleD_lst, slD_tup, slD_lst, vl_own, inA_loc, notInA_loc, lenD_loc, lenE_loc, ixA_loc, slD_loc, eqB_loc1, eqB_loc2, addD_loc1, addD_loc2, tupleD_loc, listN_loc, listE_loc, reprD_loc, joinD_loc, sortN_loc, bind_assoc, Ok_ok, and_self, true_and, and_true, permS_ap, kPerm_2, kPerm_1, eqB_int, eqB_bls, eqB_str, fzS_ap, kFz_own, lenD_lst, len_tup, txs_length, tts_length, sto_exc, tgU_ap, isiXS_ap, raiseS_ap, O.bind_err, countS_ap, indexS_ap, heardS_ap, revD_tup, revD_lst, decide_eq_true h0, mu, sto_mvs, kDput_ap, kDput1_ap, kd]
      exact ⟨f', _, _, _, _, hf', rfl, by omega, P2⟩
    · have mu : ∀ s, mulE s (.tup [.tup [.str "a", .str (nmS 112 ((i + 1) % k))]]) (.int 1) = some (mvsD (List.replicate 1 (some "a", nmS 112 ((i + 1) % k)))) := fun s => mul s 1 (by omega) (by omega)
      rw [if_neg h0] at kd
      simp only [seqS_ap, setS_ap, retS_ap, ifS_ap, iteS_ap, tstS_ap, tNotS_ap, tAndS_ap, tOrS_ap, andS_ap, orS_ap, notS_ap, binS_ap, unS_ap, callF_ap, callV_ap, callN_ap, consS_ap, nilS_ap, tupS_ap, lstF_ap, frzS_ap, ownS_ap, exS_ap, cS_ap, varS_ap, parA_ap, parS_inl, parS_inr, parS_nil, forS_ap, itRng_ap, itRng2_ap, itS_ap, itStr_ap, lcF_ap, slS_ap, slF_ap, noPartS_ap, partS_ap, isiS_ap, chainS_ap, nxS_ap, bkS_ap, ctS_ap, yesS_ap, orT_ap, appS_ap, popAtS_ap, dputS_ap, lputS_ap, hndS_ap, m1S_ap, asgS_ap, O.bind_ok, kVar_d, kVar_own, kB1_ap, kB2_ap, kU_ap, kAnd_t, kAnd_f, kOr_t, kOr_f, kNot_ap, kTst_ap, kTAnd_t, kTAnd_f, kTOr_t, kTOr_f, kTNot_ap, kIte_t, kIte_f, kC0_ap, kC1_ap, kC1'_t, kC1'_f, kC2_ap, kCons_ap, kCons2_ap, kTup_0, kTup_1, kTup_2, kTupB_t, kLst_0, kLst_1, kLstB_t, kFrz_ap, kCv_ap, kCn_ap, ofO_some, ofN_some, kEx_ap, kSet_ap, kSetB_t, kOwn_ap, kRet_non, kRet_bl, kRet_int, kRet_str, kRet_tup, kRet_lst, kRet_hnd, kRet_dct, kRet_ins, kRet_loc, kRet1_ap, kSeq_nx, kSeq_rt, kSeq_bk, kSeq_ct, kIt_ap, kIts_ap, seqD_lst, seqD_tup, seqD_scr, kFor_ap, tgN_ap, tgT_ap, tgsS_nil, tgsS_cons, kSl_ap, kSl1_ap, kSl2_ap, kSlF_ap, kSlF1_ap, kPart_ap, kPd_ap, kPdB_t, kPm_ap, kPc_ap, kPar_ap, putP_d, putP_m, putP_0, kHnd_ap, frzD, kAsg_ap, kAsgB_t, sto_non, sto_bl, sto_int, sto_str, sto_tup, sto_lst, sto_dct, sto_ins, sto_hnd, sto_scr, Bool.and_self, Bool.not_true, Bool.not_false, List.getElem?_cons_zero, List.getElem?_cons_succ, List.set_cons_succ, List.set_cons_zero, kM1_ap, kM1b_ap, kOrT_ap, kOrT1_t, kOrT1_f, eqD_ap, neD_ap, Option.map_some, addD_int, subD_int, gtD_int, ltD_int, cmpI_int, intD_int, intD_bl, negD_int, kStr_ap, kLput_ap, kLput1_ap, decide_true, decide_false, isCS_ap, isiC_ins, isiC_tup, isiC_non, fld_ins, fputS_ap, kFp1_ap, makeF_ap, blS_ap, kBl_ap, own2_ap, kO2_ap, lenE_lst, lenE_tup, listE_lst, listE_tup, listE_dct, strD_str, isB_ap, isNotB_ap, keySortF_ap, dcF_ap, tupleD_lst, slD_tup, slD_lst, vl_own, inA_loc, notInA_loc, lenD_loc, lenE_loc, ixA_loc, slD_loc, eqB_loc1, eqB_loc2, addD_loc1, addD_loc2, tupleD_loc, listN_loc, listE_loc, reprD_loc, joinD_loc, sortN_loc, bind_assoc, Ok_ok, and_self, true_and, and_true, permS_ap, kPerm_2, kPerm_1, eqB_int, eqB_bls, eqB_str, fzS_ap, kFz_own, lenD_lst, len_tup, txs_length, tts_length, sto_exc, tgU_ap, isiXS_ap, raiseS_ap, O.bind_err, countS_ap, indexS_ap, heardS_ap, revD_tup, revD_lst, decide_eq_false h0, mu, sto_mvs, kDput_ap, kDput1_ap, kd]
      exact ⟨f', _, _, _, _, hf', rfl, by omega, P2⟩
  · obtain ⟨f, s6, s7, s8, muz', hf, rfl, hi, hP'⟩ := hI
    rw [List.length_map, List.length_range] at *
    simp only [seqS_ap, setS_ap, retS_ap, ifS_ap, iteS_ap, tstS_ap, tNotS_ap, tAndS_ap, tOrS_ap, andS_ap, orS_ap, notS_ap, binS_ap, unS_ap, callF_ap, callV_ap, callN_ap, consS_ap, nilS_ap, tupS_ap, lstF_ap, frzS_ap, ownS_ap, exS_ap, cS_ap, varS_ap, parA_ap, parS_inl, parS_inr, parS_nil, forS_ap, itRng_ap, itRng2_ap, itS_ap, itStr_ap, lcF_ap, slS_ap, slF_ap, noPartS_ap, partS_ap, isiS_ap, chainS_ap, nxS_ap, bkS_ap, ctS_ap, yesS_ap, orT_ap, appS_ap, popAtS_ap, dputS_ap, lputS_ap, hndS_ap, m1S_ap, asgS_ap, O.bind_ok, kVar_d, kVar_own, kB1_ap, kB2_ap, kU_ap, kAnd_t, kAnd_f, kOr_t, kOr_f, kNot_ap, kTst_ap, kTAnd_t, kTAnd_f, kTOr_t, kTOr_f, kTNot_ap, kIte_t, kIte_f, kC0_ap, kC1_ap, kC1'_t, kC1'_f, kC2_ap, kCons_ap, kCons2_ap, kTup_0, kTup_1, kTup_2, kTupB_t, kLst_0, kLst_1, kLstB_t, kFrz_ap, kCv_ap, kCn_ap, ofO_some, ofN_some, kEx_ap, kSet_ap, kSetB_t, kOwn_ap, kRet_non, kRet_bl, kRet_int, kRet_str, kRet_tup, kRet_lst, kRet_hnd, kRet_dct, kRet_ins, kRet_loc, kRet1_ap, kSeq_nx, kSeq_rt, kSeq_bk, kSeq_ct, kIt_ap, kIts_ap, seqD_lst, seqD_tup, seqD_scr, kFor_ap, tgN_ap, tgT_ap, tgsS_nil, tgsS_cons, kSl_ap, kSl1_ap, kSl2_ap, kSlF_ap, kSlF1_ap, kPart_ap, kPd_ap, kPdB_t, kPm_ap, kPc_ap, kPar_ap, putP_d, putP_m, putP_0, kHnd_ap, frzD, kAsg_ap, kAsgB_t, sto_non, sto_bl, sto_int, sto_str, sto_tup, sto_lst, sto_dct, sto_ins, sto_hnd, sto_scr, Bool.and_self, Bool.not_true, Bool.not_false, List.getElem?_cons_zero, List.getElem?_cons_succ, List.set_cons_succ, List.set_cons_zero, kM1_ap, kM1b_ap, kOrT_ap, kOrT1_t, kOrT1_f, eqD_ap, neD_ap, Option.map_some, addD_int, subD_int, gtD_int, ltD_int, cmpI_int, intD_int, intD_bl, negD_int, kStr_ap, kLput_ap, kLput1_ap, decide_true, decide_false, isCS_ap, isiC_ins, isiC_tup, isiC_non, fld_ins, fputS_ap, kFp1_ap, makeF_ap, blS_ap, kBl_ap, own2_ap, kO2_ap, lenE_lst, lenE_tup, listE_lst, listE_tup, listE_dct, strD_str, isB_ap, isNotB_ap, keySortF_ap, dcF_ap, tupleD_lst, slD_tup, slD_lst, vl_own, inA_loc, notInA_loc, lenD_loc, lenE_loc, ixA_loc, slD_loc, eqB_loc1, eqB_loc2, addD_loc1, addD_loc2, tupleD_loc, listN_loc, listE_loc, reprD_loc, joinD_loc, sortN_loc, bind_assoc, Ok_ok, and_self, true_and, and_true, permS_ap, kPerm_2, kPerm_1, eqB_int, eqB_bls, eqB_str, fzS_ap, kFz_own, lenD_lst, len_tup, txs_length, tts_length, sto_exc, tgU_ap, isiXS_ap, raiseS_ap, O.bind_err, countS_ap, indexS_ap, heardS_ap, revD_tup, revD_lst]
    exact ⟨_, rfl, f, rfl, hf, by simpa using hP'⟩
end AG.K42
set_option Elab.async false
set_option linter.all false
set_option maxRecDepth 100000
set_option exponentiation.threshold 4000
namespace AG.K42
open PySem L2 AG
def rowE (o : Option Str) (t k i : Nat) : GEn := if i + 1 < k then (nmS 113 i, "keeper", [(none, nmS 113 (i + 1))]) else (nmS 113 i, "breaker", [(o, nmS 113 t)])
def rowG (o : Option Str) (t k j : Nat) : List GEn := (List.range j).map (rowE o t k)
theorem rowE_nm (o : Option Str) (t k i : Nat) : (rowE o t k i).1 = nmS 113 i := by
  unfold rowE
  split <;> rfl
theorem row_keys (o : Option Str) (t k j : Nat) : (rowG o t k j).map (·.1) = nms 113 j := by
  unfold rowG nms
  rw [List.map_map]
  exact List.map_congr_left fun i _ => rowE_nm o t k i
theorem row_succ (o : Option Str) (t k j : Nat) : rowG o t k (j + 1) = rowG o t k j ++ [rowE o t k j] := by
  unfold rowG
  rw [List.range_succ, List.map_append]
  rfl
theorem nms_init (c k : Nat) (h : 1 ≤ k) : cutL (txs (nms c k)) none (some (-1)) = txs (nms c (k - 1)) := by
  obtain ⟨j, rfl⟩ : ∃ j, k = j + 1 := ⟨k - 1, by omega⟩
  rw [cut_init]
  have : txs (nms c (j + 1)) = txs (nms c j) ++ [.str (nmS c j)] := by
    unfold nms txs
    rw [List.range_succ]
    simp
  rw [this, List.dropLast_concat]
  rfl
theorem nms_last (s : S) (c k : Nat) (h : 1 ≤ k) : ixA s (.lst (txs (nms c k))) (.int (-1)) = some (.str (nmS c (k - 1))) := by
  obtain ⟨j, rfl⟩ : ∃ j, k = j + 1 := ⟨k - 1, by omega⟩
  have : txs (nms c (j + 1)) = ((nms c j) ++ [nmS c j]).map D.str := by
    unfold nms txs
    rw [List.range_succ]
    simp
  rw [this]
  exact ix_lastM (mk := D.str) s (nms c j) (nmS c j)
theorem ly_row (o : Option Str) (ho : ∀ x, o = some x → PyData.canLay0 (.str x) = true) {t k i : Nat} (ht : t < k) (hi : i < k) (hk : k ≤ 120) : LyD (pairT (enP (rowE o t k i))) := by
  have ln : ∀ j, j < 676 → PyData.canLay0 (.str (nmS 113 j)) = true := fun j hj => (nm_nm (c := 113) (by omega) (by omega) hj).lay
  have lk : PyData.canLay0 (.str "keeper") = true := ply_lay _ (by simp [plyL])
  have lb : PyData.canLay0 (.str "breaker") = true := ply_lay _ (by simp [plyL])
  unfold rowE
  split
  · refine ⟨.tuple [.str (nmS 113 i), .tuple [.str "keeper", .tuple [.tuple [.none, .str (nmS 113 (i + 1))]]]], rfl, ?_, by simp [PyData.depth, PyData.depthAll]⟩
    have a1 := ln i (by omega)
    have a2 := ln (i + 1) (by omega)
    simp only [PyData.canLay0, PyData.canLayAll0] at a1 a2 lk ⊢
    simp [a1, a2, lk]
  · have a1 := ln i (by omega)
    have a2 := ln t (by omega)
    cases o with
    | none =>
      refine ⟨.tuple [.str (nmS 113 i), .tuple [.str "breaker", .tuple [.tuple [.none, .str (nmS 113 t)]]]], rfl, ?_, by simp [PyData.depth, PyData.depthAll]⟩
      simp only [PyData.canLay0, PyData.canLayAll0] at a1 a2 lb ⊢
      simp [a1, a2, lb]
    | some x =>
      have a3 := ho x rfl
      refine ⟨.tuple [.str (nmS 113 i), .tuple [.str "breaker", .tuple [.tuple [.str x, .str (nmS 113 t)]]]], rfl, ?_, by simp [PyData.depth, PyData.depthAll]⟩
      simp only [PyData.canLay0, PyData.canLayAll0] at a1 a2 a3 lb ⊢
      simp [a1, a2, a3, lb]
def IsRow (P : Pot) (c : List D → List MO → R) : Prop := ∀ (n : Nat) (muz : List MO) (k t : Nat) (o : Option Str), 1 ≤ k → k ≤ 120 → t < k → (∀ x, o = some x → PyData.canLay0 (.str x) = true) → P (n + k) muz → ∃ (g : List GEn) (muz' : List MO), c [.hnd 1, .int (k : Nat), .tup [sgD o, .int (t : Nat)]] muz = .ok (plsD g) muz' ∧ g.Perm (rowG o t k k) ∧ P n muz'
theorem row_ok {P : Pot} (SP : Src P) {C : Calls} (hm : IsMixG P (C 20)) : IsRow P (runD 8 3 (f__law_row_S C)) := by
  intro n muz k t o k1 k2 tk ho hP
  suffices w : ∃ d muz', runD 8 3 (f__law_row_S C) [.hnd 1, .int (k : Nat), .tup [sgD o, .int (t : Nat)]] muz = .ok d muz' ∧ ∃ g, d = plsD g ∧ g.Perm (rowG o t k k) ∧ P n muz' by
    obtain ⟨d, muz', e, f, rfl, h1, h2⟩ := w
    exact ⟨f, muz', e, h1, h2⟩
  refine w_run rfl ?_
  show Ok (f__law_row_S C ⟨[.d (.hnd 1), .d (.int (k : Nat)), .d (.tup [sgD o, .int (t : Nat)]), .un, .un, .un, .un, .un], muz⟩) _
  have nd0 : ∀ s, newDF false s = .ok (.md false []) s := fun s => Eq.trans rfl rfl
  have c0 : ("q" : Str) = ⟨#[113]⟩ := by decide +kernel
  have rg : ∀ s, kRng (.int (k : Nat)) s = .ok ((List.range k).map fun i => .int (i : Nat)) s := fun s => kRng_ap k s (by omega)
  unfold f__law_row_S
  simp only [seqS_ap, setS_ap, retS_ap, ifS_ap, iteS_ap, tstS_ap, tNotS_ap, tAndS_ap, tOrS_ap, andS_ap, orS_ap, notS_ap, binS_ap, unS_ap, callF_ap, callV_ap, callN_ap, consS_ap, nilS_ap, tupS_ap, lstF_ap, frzS_ap, ownS_ap, exS_ap, cS_ap, varS_ap, parA_ap, parS_inl, parS_inr, parS_nil, forS_ap, itRng_ap, itRng2_ap, itS_ap, itStr_ap, lcF_ap, slS_ap, slF_ap, noPartS_ap, partS_ap, isiS_ap, chainS_ap, nxS_ap, bkS_ap, ctS_ap, yesS_ap, orT_ap, appS_ap, popAtS_ap, dputS_ap, lputS_ap, hndS_ap, m1S_ap, asgS_ap, O.bind_ok, kVar_d, kVar_own, kB1_ap, kB2_ap, kU_ap, kAnd_t, kAnd_f, kOr_t, kOr_f, kNot_ap, kTst_ap, kTAnd_t, kTAnd_f, kTOr_t, kTOr_f, kTNot_ap, kIte_t, kIte_f, kC0_ap, kC1_ap, kC1'_t, kC1'_f, kC2_ap, kCons_ap, kCons2_ap, kTup_0, kTup_1, kTup_2, kTupB_t, kLst_0, kLst_1, kLstB_t, kFrz_ap, kCv_ap, kCn_ap, ofO_some, ofN_some, kEx_ap, kSet_ap, kSetB_t, kOwn_ap, kRet_non, kRet_bl, kRet_int, kRet_str, kRet_tup, kRet_lst, kRet_hnd, kRet_dct, kRet_ins, kRet_loc, kRet1_ap, kSeq_nx, kSeq_rt, kSeq_bk, kSeq_ct, kIt_ap, kIts_ap, seqD_lst, seqD_tup, seqD_scr, kFor_ap, tgN_ap, tgT_ap, tgsS_nil, tgsS_cons, kSl_ap, kSl1_ap, kSl2_ap, kSlF_ap, kSlF1_ap, kPart_ap, kPd_ap, kPdB_t, kPm_ap, kPc_ap, kPar_ap, putP_d, putP_m, putP_0, kHnd_ap, frzD, kAsg_ap, kAsgB_t, sto_non, sto_bl, sto_int, sto_str, sto_tup, sto_lst, sto_dct, sto_ins, sto_hnd, sto_scr, Bool.and_self, Bool.not_true, Bool.not_false, List.getElem?_cons_zero, List.getElem?_cons_succ, List.set_cons_succ, List.set_cons_zero, kM1_ap, kM1b_ap, kOrT_ap, kOrT1_t, kOrT1_f, eqD_ap, neD_ap, Option.map_some, addD_int, subD_int, gtD_int, ltD_int, cmpI_int, intD_int, intD_bl, negD_int, kStr_ap, kLput_ap, kLput1_ap, decide_true, decide_false, isCS_ap, isiC_ins, isiC_tup, isiC_non, fld_ins, fputS_ap, kFp1_ap, makeF_ap, blS_ap, kBl_ap, own2_ap, kO2_ap, lenE_lst, lenE_tup, listE_lst, listE_tup, listE_dct, strD_str, isB_ap, isNotB_ap, keySortF_ap, dcF_ap, tupleD_lst, slD_tup, slD_lst, vl_own, inA_loc, notInA_loc, lenD_loc, lenE_loc, ixA_loc, slD_loc, eqB_loc1, eqB_loc2, addD_loc1, addD_loc2, tupleD_loc, listN_loc, listE_loc, reprD_loc, joinD_loc, sortN_loc, bind_assoc, Ok_ok, and_self, true_and, and_true, permS_ap, kPerm_2, kPerm_1, eqB_int, eqB_bls, eqB_str, fzS_ap, kFz_own, lenD_lst, len_tup, txs_length, tts_length, sto_exc, tgU_ap, isiXS_ap, raiseS_ap, O.bind_err, countS_ap, indexS_ap, heardS_ap, revD_tup, revD_lst, rg]
  refine w_map (fun i : Nat => D.int (i : Nat)) (fun i => .str (nmS 113 i)) (List.range k) rfl (by rw [List.length_range]; unfold LIM; omega) (fun i hi => ?_) ?_
  · have hi' := List.mem_range.mp hi
    have i1 := fun s => ix_let s (v := i / 26) (by omega)
    have i2 := fun s => ix_let s (v := i % 26) (by omega)
    have a1 := fun s => nm_a1 c0 s (97 + i / 26)
    have a2 := fun s => nm_a2 113 s (97 + i / 26) (97 + i % 26)
    simp only [seqS_ap, setS_ap, retS_ap, ifS_ap, iteS_ap, tstS_ap, tNotS_ap, tAndS_ap, tOrS_ap, andS_ap, orS_ap, notS_ap, binS_ap, unS_ap, callF_ap, callV_ap, callN_ap, consS_ap, nilS_ap, tupS_ap, lstF_ap, frzS_ap, ownS_ap, exS_ap, cS_ap, varS_ap, parA_ap, parS_inl, parS_inr, parS_nil, forS_ap, itRng_ap, itRng2_ap, itS_ap, itStr_ap, lcF_ap, slS_ap, slF_ap, noPartS_ap, partS_ap, isiS_ap, chainS_ap, nxS_ap, bkS_ap, ctS_ap, yesS_ap, orT_ap, appS_ap, popAtS_ap, dputS_ap, lputS_ap, hndS_ap, m1S_ap, asgS_ap, O.bind_ok, kVar_d, kVar_own, kB1_ap, kB2_ap, kU_ap, kAnd_t, kAnd_f, kOr_t, kOr_f, kNot_ap, kTst_ap, kTAnd_t, kTAnd_f, kTOr_t, kTOr_f, kTNot_ap, kIte_t, kIte_f, kC0_ap, kC1_ap, kC1'_t, kC1'_f, kC2_ap, kCons_ap, kCons2_ap, kTup_0, kTup_1, kTup_2, kTupB_t, kLst_0, kLst_1, kLstB_t, kFrz_ap, kCv_ap, kCn_ap, ofO_some, ofN_some, kEx_ap, kSet_ap, kSetB_t, kOwn_ap, kRet_non, kRet_bl, kRet_int, kRet_str, kRet_tup, kRet_lst, kRet_hnd, kRet_dct, kRet_ins, kRet_loc, kRet1_ap, kSeq_nx, kSeq_rt, kSeq_bk, kSeq_ct, kIt_ap, kIts_ap, seqD_lst, seqD_tup, seqD_scr, kFor_ap, tgN_ap, tgT_ap, tgsS_nil, tgsS_cons, kSl_ap, kSl1_ap, kSl2_ap, kSlF_ap, kSlF1_ap, kPart_ap, kPd_ap, kPdB_t, kPm_ap, kPc_ap, kPar_ap, putP_d, putP_m, putP_0, kHnd_ap, frzD, kAsg_ap, kAsgB_t, sto_non, sto_bl, sto_int, sto_str, sto_tup, sto_lst, sto_dct, sto_ins, sto_hnd, sto_scr, Bool.and_self, Bool.not_true, Bool.not_false, List.getElem?_cons_zero, List.getElem?_cons_succ, List.set_cons_succ, List.set_cons_zero, kM1_ap, kM1b_ap, kOrT_ap, kOrT1_t, kOrT1_f, eqD_ap, neD_ap, Option.map_some, addD_int, subD_int, gtD_int, ltD_int, cmpI_int, intD_int, intD_bl, negD_int, kStr_ap, kLput_ap, kLput1_ap, decide_true, decide_false, isCS_ap, isiC_ins, isiC_tup, isiC_non, fld_ins, fputS_ap, kFp1_ap, makeF_ap, blS_ap, kBl_ap, own2_ap, kO2_ap, lenE_lst, lenE_tup, listE_lst, listE_tup, listE_dct, strD_str, isB_ap, isNotB_ap, keySortF_ap, dcF_ap, tupleD_lst, slD_tup, slD_lst, vl_own, inA_loc, notInA_loc, lenD_loc, lenE_loc, ixA_loc, slD_loc, eqB_loc1, eqB_loc2, addD_loc1, addD_loc2, tupleD_loc, listN_loc, listE_loc, reprD_loc, joinD_loc, sortN_loc, bind_assoc, Ok_ok, and_self, true_and, and_true, permS_ap, kPerm_2, kPerm_1, eqB_int, eqB_bls, eqB_str, fzS_ap, kFz_own, lenD_lst, len_tup, txs_length, tts_length, sto_exc, tgU_ap, isiXS_ap, raiseS_ap, O.bind_err, countS_ap, indexS_ap, heardS_ap, revD_tup, revD_lst, nm_f1, nm_f2, i1, i2, a1, a2]
    exact rfl
  rw [nms_map]
  simp only [seqS_ap, setS_ap, retS_ap, ifS_ap, iteS_ap, tstS_ap, tNotS_ap, tAndS_ap, tOrS_ap, andS_ap, orS_ap, notS_ap, binS_ap, unS_ap, callF_ap, callV_ap, callN_ap, consS_ap, nilS_ap, tupS_ap, lstF_ap, frzS_ap, ownS_ap, exS_ap, cS_ap, varS_ap, parA_ap, parS_inl, parS_inr, parS_nil, forS_ap, itRng_ap, itRng2_ap, itS_ap, itStr_ap, lcF_ap, slS_ap, slF_ap, noPartS_ap, partS_ap, isiS_ap, chainS_ap, nxS_ap, bkS_ap, ctS_ap, yesS_ap, orT_ap, appS_ap, popAtS_ap, dputS_ap, lputS_ap, hndS_ap, m1S_ap, asgS_ap, O.bind_ok, kVar_d, kVar_own, kB1_ap, kB2_ap, kU_ap, kAnd_t, kAnd_f, kOr_t, kOr_f, kNot_ap, kTst_ap, kTAnd_t, kTAnd_f, kTOr_t, kTOr_f, kTNot_ap, kIte_t, kIte_f, kC0_ap, kC1_ap, kC1'_t, kC1'_f, kC2_ap, kCons_ap, kCons2_ap, kTup_0, kTup_1, kTup_2, kTupB_t, kLst_0, kLst_1, kLstB_t, kFrz_ap, kCv_ap, kCn_ap, ofO_some, ofN_some, kEx_ap, kSet_ap, kSetB_t, kOwn_ap, kRet_non, kRet_bl, kRet_int, kRet_str, kRet_tup, kRet_lst, kRet_hnd, kRet_dct, kRet_ins, kRet_loc, kRet1_ap, kSeq_nx, kSeq_rt, kSeq_bk, kSeq_ct, kIt_ap, kIts_ap, seqD_lst, seqD_tup, seqD_scr, kFor_ap, tgN_ap, tgT_ap, tgsS_nil, tgsS_cons, kSl_ap, kSl1_ap, kSl2_ap, kSlF_ap, kSlF1_ap, kPart_ap, kPd_ap, kPdB_t, kPm_ap, kPc_ap, kPar_ap, putP_d, putP_m, putP_0, kHnd_ap, frzD, kAsg_ap, kAsgB_t, sto_non, sto_bl, sto_int, sto_str, sto_tup, sto_lst, sto_dct, sto_ins, sto_hnd, sto_scr, Bool.and_self, Bool.not_true, Bool.not_false, List.getElem?_cons_zero, List.getElem?_cons_succ, List.set_cons_succ, List.set_cons_zero, kM1_ap, kM1b_ap, kOrT_ap, kOrT1_t, kOrT1_f, eqD_ap, neD_ap, Option.map_some, addD_int, subD_int, gtD_int, ltD_int, cmpI_int, intD_int, intD_bl, negD_int, kStr_ap, kLput_ap, kLput1_ap, decide_true, decide_false, isCS_ap, isiC_ins, isiC_tup, isiC_non, fld_ins, fputS_ap, kFp1_ap, makeF_ap, blS_ap, kBl_ap, own2_ap, kO2_ap, lenE_lst, lenE_tup, listE_lst, listE_tup, listE_dct, strD_str, isB_ap, isNotB_ap, keySortF_ap, dcF_ap, tupleD_lst, slD_tup, slD_lst, vl_own, inA_loc, notInA_loc, lenD_loc, lenE_loc, ixA_loc, slD_loc, eqB_loc1, eqB_loc2, addD_loc1, addD_loc2, tupleD_loc, listN_loc, listE_loc, reprD_loc, joinD_loc, sortN_loc, bind_assoc, Ok_ok, and_self, true_and, and_true, permS_ap, kPerm_2, kPerm_1, eqB_int, eqB_bls, eqB_str, fzS_ap, kFz_own, lenD_lst, len_tup, txs_length, tts_length, sto_exc, tgU_ap, isiXS_ap, raiseS_ap, O.bind_err, countS_ap, indexS_ap, heardS_ap, revD_tup, revD_lst, nd0, itEnum_ap, kEnum_ap, nms_init 113 k k1, enum_txs, nms_len]
  refine w_for (fun i s => ∃ (s6 s7 : SV), s = ⟨[.d (.hnd 1), .d (.int (k : Nat)), .d (.tup [sgD o, .int (t : Nat)]), .d (.str "abcdefghijklmnopqrstuvwxyz"), .d (.lst (txs (nms 113 k))), .own (.md false ((rowG o t k i).map enP)), s6, s7], muz⟩ ∧ i + 1 ≤ k) ⟨_, _, rfl, by omega⟩ (fun i d s hd hI => ?_) (fun s hI => ?_)
  · obtain ⟨s6, s7, rfl, hi⟩ := hI
    rw [List.getElem?_map, Option.map_eq_some_iff] at hd
    obtain ⟨i', hi', rfl⟩ := hd
    have ik : i < k - 1 := by
      have := (List.getElem?_eq_some_iff.mp hi').1
      simpa using this
    have ei : i' = i := by
      rw [List.getElem?_range ik] at hi'
      exact (Option.some.inj hi').symm
    rw [ei]
    have nk : (nms 113 (k - 1)).getD i "" = nmS 113 i := by rw [List.getD_eq_getElem?_getD, nms_get ik]; rfl
    rw [nk]
    have ix : ∀ s, ixA s (.lst (txs (nms 113 k))) (.int ((i : Nat) + 1)) = some (.str (nmS 113 (i + 1))) := fun s => ix_nms s (c := 113) (k := k) (i := i + 1) (by omega)
    have kd := kDput2_own (i := 5) (rhz := [.d (.hnd 1), .d (.int (k : Nat)), .d (.tup [sgD o, .int (t : Nat)]), .d (.str "abcdefghijklmnopqrstuvwxyz"), .d (.lst (txs (nms 113 k))), .own (.md false ((rowG o t k i).map enP)), .d (.int (i : Nat)), .d (.str (nmS 113 i))]) (muz := muz) (t := false) (l := (rowG o t k i).map enP) (z := .tup [.str "keeper", .tup [.tup [.non, .str (nmS 113 (i + 1))]]]) (y := .str (nmS 113 i)) rfl rfl rfl (by
      have : ((rowG o t k i).map enP).length = i := by simp [rowG]
      rw [this]
      unfold LIM
      omega)
    rw [put_newG (by rw [row_keys]; exact nms_not 113 i)] at kd
    have ef : (rowG o t k i).map enP ++ [(D.str (nmS 113 i), .tup [.str "keeper", .tup [.tup [.non, .str (nmS 113 (i + 1))]]])] = (rowG o t k (i + 1)).map enP := by
      rw [row_succ, List.map_append]
      congr 1
      unfold rowE
      rw [if_pos (by omega)]
      rfl
    rw [ef] at kd
    simp only [seqS_ap, setS_ap, retS_ap, ifS_ap, iteS_ap, tstS_ap, tNotS_ap, tAndS_ap, tOrS_ap, andS_ap, orS_ap, notS_ap, binS_ap, unS_ap, callF_ap, callV_ap, callN_ap, consS_ap, nilS_ap, tupS_ap, lstF_ap, frzS_ap, ownS_ap, exS_ap, cS_ap, varS_ap, parA_ap, parS_inl, parS_inr, parS_nil, forS_ap, itRng_ap, itRng2_ap, itS_ap, itStr_ap, lcF_ap, slS_ap, slF_ap, noPartS_ap, partS_ap, isiS_ap, chainS_ap, nxS_ap, bkS_ap, ctS_ap, yesS_ap, orT_ap, appS_ap, popAtS_ap, dputS_ap, lputS_ap, hndS_ap, m1S_ap, asgS_ap, O.bind_ok, kVar_d, kVar_own, kB1_ap, kB2_ap, kU_ap, kAnd_t, kAnd_f, kOr_t, kOr_f, kNot_ap, kTst_ap, kTAnd_t, kTAnd_f, kTOr_t, kTOr_f, kTNot_ap, kIte_t, kIte_f, kC0_ap, kC1_ap, kC1'_t, kC1'_f, kC2_ap, kCons_ap, kCons2_ap, kTup_0, kTup_1, kTup_2, kTupB_t, kLst_0, kLst_1, kLstB_t, kFrz_ap, kCv_ap, kCn_ap, ofO_some, ofN_some, kEx_ap, kSet_ap, kSetB_t, kOwn_ap, kRet_non, kRet_bl, kRet_int, kRet_str, kRet_tup, kRet_lst, kRet_hnd, kRet_dct, kRet_ins, kRet_loc, kRet1_ap, kSeq_nx, kSeq_rt, kSeq_bk, kSeq_ct, kIt_ap, kIts_ap, seqD_lst, seqD_tup, seqD_scr, kFor_ap, tgN_ap, tgT_ap, tgsS_nil, tgsS_cons, kSl_ap, kSl1_ap, kSl2_ap, kSlF_ap, kSlF1_ap, kPart_ap, kPd_ap, kPdB_t, kPm_ap, kPc_ap, kPar_ap, putP_d, putP_m, putP_0, kHnd_ap, frzD, kAsg_ap, kAsgB_t, sto_non, sto_bl, sto_int, sto_str, sto_tup, sto_lst, sto_dct, sto_ins, sto_hnd, sto_scr, Bool.and_self, Bool.not_true, Bool.not_false, List.getElem?_cons_zero, List.getElem?_cons_succ, List.set_cons_succ, List.set_cons_zero, kM1_ap, kM1b_ap, kOrT_ap, kOrT1_t, kOrT1_f, eqD_ap, neD_ap, Option.map_some, addD_int, subD_int, gtD_int, ltD_int, cmpI_int, intD_int, intD_bl, negD_int, kStr_ap, kLput_ap, kLput1_ap, decide_true, decide_false, isCS_ap, isiC_ins, isiC_tup, isiC_non, fld_ins, fputS_ap, kFp1_ap, makeF_ap, blS_ap, kBl_ap, own2_ap, kO2_ap, lenE_lst, lenE_tup, listE_lst, listE_tup, listE_dct, strD_str, isB_ap, isNotB_ap, keySortF_ap, dcF_ap, tupleD_lst, slD_tup, slD_lst, vl_own, inA_loc, notInA_loc, lenD_loc, lenE_loc, ixA_loc, slD_loc, eqB_loc1, eqB_loc2, addD_loc1, addD_loc2, tupleD_loc, listN_loc, listE_loc, reprD_loc, joinD_loc, sortN_loc, bind_assoc, Ok_ok, and_self, true_and, and_true, permS_ap, kPerm_2, kPerm_1, eqB_int, eqB_bls, eqB_str, fzS_ap, kFz_own, lenD_lst, len_tup, txs_length, tts_length, sto_exc, tgU_ap, isiXS_ap, raiseS_ap, O.bind_err, countS_ap, indexS_ap, heardS_ap, revD_tup, revD_lst, addD_int, ix, kDput_ap, kDput1_ap, kd]
    exact ⟨_, _, rfl, by omega⟩
  · obtain ⟨s6, s7, rfl, hi⟩ := hI
    rw [List.length_map, List.length_range] at hi ⊢
    have i0 : ∀ s, ixA s (.tup [sgD o, .int (t : Nat)]) (.int 0) = some (sgD o) := fun s => ix_t0 s _ _
    have i1 : ∀ s, ixA s (.tup [sgD o, .int (t : Nat)]) (.int 1) = some (.int (t : Nat)) := fun s => ix_t1 s _ _ _
    have ix := fun s => ix_nms s (c := 113) tk
    have il := fun s => nms_last s 113 k k1
    have so : sto (sgD o) = true := by cases o <;> rfl
    have kd := kDput2_own (i := 5) (rhz := [.d (.hnd 1), .d (.int (k : Nat)), .d (.tup [sgD o, .int (t : Nat)]), .d (.str "abcdefghijklmnopqrstuvwxyz"), .d (.lst (txs (nms 113 k))), .own (.md false ((rowG o t k (k - 1)).map enP)), s6, s7]) (muz := muz) (t := false) (l := (rowG o t k (k - 1)).map enP) (z := .tup [.str "breaker", .tup [.tup [sgD o, .str (nmS 113 t)]]]) (y := .str (nmS 113 (k - 1))) rfl rfl rfl (by
      have : ((rowG o t k (k - 1)).map enP).length = k - 1 := by simp [rowG]
      rw [this]
      unfold LIM
      omega)
    rw [put_newG (by rw [row_keys]; exact nms_not 113 (k - 1))] at kd
    have ef : (rowG o t k (k - 1)).map enP ++ [(D.str (nmS 113 (k - 1)), .tup [.str "breaker", .tup [.tup [sgD o, .str (nmS 113 t)]]])] = (rowG o t k k).map enP := by
      have : rowG o t k k = rowG o t k (k - 1) ++ [rowE o t k (k - 1)] := by
        have h := row_succ o t k (k - 1)
        rw [show k - 1 + 1 = k by omega] at h
        exact h
      rw [this, List.map_append]
      congr 1
      unfold rowE
      rw [if_neg (by omega)]
      rfl
    rw [ef] at kd
    have len : (rowG o t k k).length = k := by simp [rowG]
    obtain ⟨out, muz', e1, pm, P'⟩ := hm GEn (fun e => pairT (enP e)) n muz (rowG o t k k) (fun _ => rfl) (fun e he => by
      unfold rowG at he
      obtain ⟨i, hi, rfl⟩ := List.mem_map.mp he
      exact ly_row o ho tk (List.mem_range.mp hi) k2) (by omega) (by rw [len]; exact hP)
    have it := itmF_own (i := 5) (rhz := [.d (.hnd 1), .d (.int (k : Nat)), .d (.tup [sgD o, .int (t : Nat)]), .d (.str "abcdefghijklmnopqrstuvwxyz"), .d (.lst (txs (nms 113 k))), .own (.md false ((rowG o t k k).map enP)), s6, s7]) (muz := muz) (l := (rowG o t k k).map enP) rfl
    rw [List.map_map] at it
    have it' : itmF 5 ⟨[.d (.hnd 1), .d (.int (k : Nat)), .d (.tup [sgD o, .int (t : Nat)]), .d (.str "abcdefghijklmnopqrstuvwxyz"), .d (.lst (txs (nms 113 k))), .own (.md false ((rowG o t k k).map enP)), s6, s7], muz⟩ = .ok (.ml ((rowG o t k k).map fun e => pairT (enP e))) ⟨[.d (.hnd 1), .d (.int (k : Nat)), .d (.tup [sgD o, .int (t : Nat)]), .d (.str "abcdefghijklmnopqrstuvwxyz"), .d (.lst (txs (nms 113 k))), .own (.md false ((rowG o t k k).map enP)), s6, s7], muz⟩ := it
    have km : ∀ rhz, kCall (C 20) [.hnd 1, .lst ((rowG o t k k).map fun e => pairT (enP e))] ⟨rhz, muz⟩ = .ok (.lst (out.map fun e => pairT (enP e))) ⟨rhz, muz'⟩ := fun rhz => kCall_eq e1 rfl
    have nd : (out.map (·.1)).Nodup := by
      have := (pm.map (·.1)).nodup_iff.mpr (by rw [row_keys]; exact nms_nd 113 k)
      exact this
    have dn := fun s => dictN_en s out nd
    simp only [seqS_ap, setS_ap, retS_ap, ifS_ap, iteS_ap, tstS_ap, tNotS_ap, tAndS_ap, tOrS_ap, andS_ap, orS_ap, notS_ap, binS_ap, unS_ap, callF_ap, callV_ap, callN_ap, consS_ap, nilS_ap, tupS_ap, lstF_ap, frzS_ap, ownS_ap, exS_ap, cS_ap, varS_ap, parA_ap, parS_inl, parS_inr, parS_nil, forS_ap, itRng_ap, itRng2_ap, itS_ap, itStr_ap, lcF_ap, slS_ap, slF_ap, noPartS_ap, partS_ap, isiS_ap, chainS_ap, nxS_ap, bkS_ap, ctS_ap, yesS_ap, orT_ap, appS_ap, popAtS_ap, dputS_ap, lputS_ap, hndS_ap, m1S_ap, asgS_ap, O.bind_ok, kVar_d, kVar_own, kB1_ap, kB2_ap, kU_ap, kAnd_t, kAnd_f, kOr_t, kOr_f, kNot_ap, kTst_ap, kTAnd_t, kTAnd_f, kTOr_t, kTOr_f, kTNot_ap, kIte_t, kIte_f, kC0_ap, kC1_ap, kC1'_t, kC1'_f, kC2_ap, kCons_ap, kCons2_ap, kTup_0, kTup_1, kTup_2, kTupB_t, kLst_0, kLst_1, kLstB_t, kFrz_ap, kCv_ap, kCn_ap, ofO_some, ofN_some, kEx_ap, kSet_ap, kSetB_t, kOwn_ap, kRet_non, kRet_bl, kRet_int, kRet_str, kRet_tup, kRet_lst, kRet_hnd, kRet_dct, kRet_ins, kRet_loc, kRet1_ap, kSeq_nx, kSeq_rt, kSeq_bk, kSeq_ct, kIt_ap, kIts_ap, seqD_lst, seqD_tup, seqD_scr, kFor_ap, tgN_ap, tgT_ap, tgsS_nil, tgsS_cons, kSl_ap, kSl1_ap, kSl2_ap, kSlF_ap, kSlF1_ap, kPart_ap, kPd_ap, kPdB_t, kPm_ap, kPc_ap, kPar_ap, putP_d, putP_m, putP_0, kHnd_ap, frzD, kAsg_ap, kAsgB_t, sto_non, sto_bl, sto_int, sto_str, sto_tup, sto_lst, sto_dct, sto_ins, sto_hnd, sto_scr, Bool.and_self, Bool.not_true, Bool.not_false, List.getElem?_cons_zero, List.getElem?_cons_succ, List.set_cons_succ, List.set_cons_zero, kM1_ap, kM1b_ap, kOrT_ap, kOrT1_t, kOrT1_f, eqD_ap, neD_ap, Option.map_some, addD_int, subD_int, gtD_int, ltD_int, cmpI_int, intD_int, intD_bl, negD_int, kStr_ap, kLput_ap, kLput1_ap, decide_true, decide_false, isCS_ap, isiC_ins, isiC_tup, isiC_non, fld_ins, fputS_ap, kFp1_ap, makeF_ap, blS_ap, kBl_ap, own2_ap, kO2_ap, lenE_lst, lenE_tup, listE_lst, listE_tup, listE_dct, strD_str, isB_ap, isNotB_ap, keySortF_ap, dcF_ap, tupleD_lst, slD_tup, slD_lst, vl_own, inA_loc, notInA_loc, lenD_loc, lenE_loc, ixA_loc, slD_loc, eqB_loc1, eqB_loc2, addD_loc1, addD_loc2, tupleD_loc, listN_loc, listE_loc, reprD_loc, joinD_loc, sortN_loc, bind_assoc, Ok_ok, and_self, true_and, and_true, permS_ap, kPerm_2, kPerm_1, eqB_int, eqB_bls, eqB_str, fzS_ap, kFz_own, lenD_lst, len_tup, txs_length, tts_length, sto_exc, tgU_ap, isiXS_ap, raiseS_ap, O.bind_err, countS_ap, indexS_ap, heardS_ap, revD_tup, revD_lst, i0, so, i1, ix, il, kDput_ap, kDput1_ap, kd, it', km, dn]
    exact ⟨_, rfl, out, rfl, pm, P'⟩
end AG.K42
set_option Elab.async false
set_option linter.all false
set_option maxRecDepth 100000
set_option exponentiation.threshold 4000
namespace AG.K42
open PySem L2 AG
theorem isPl_of {g : List GEn} {x : Str} (h : x ∈ g.map (·.1)) : isPl g x = true := by
  obtain ⟨e, he, rfl⟩ := List.mem_map.mp h
  obtain ⟨e', q⟩ := enAt_some he
  unfold isPl
  rw [q]
  rfl
theorem nms_mem {c k i : Nat} (h : i < k) : nmS c i ∈ nms c k := List.mem_map_of_mem (List.mem_range.mpr h)
theorem ring_at {f : Nat → Str} {k m i : Nat} (h : i < k) : enAt (ringG f k m k) (nmS 112 i) = some (ringE f k m i) :=
  enAt_nd (e := ringE f k m i) (by rw [ring_keys]; exact nms_nd 112 k) (List.mem_map_of_mem (List.mem_range.mpr h))
theorem ring_gok {f : Nat → Str} {k m : Nat} (hf : ∀ i, f i ∈ plyL) (k1 : 1 ≤ k) (k2 : k ≤ 120) (m1 : 1 ≤ m) (m2 : m ≤ 40) : GOk ["a", "b"] (ringG f k m k) := by
  refine ⟨by simp [ringG]; omega, by simp [ringG]; omega, fun e he => ?_, fun e he => ?_, fun e he => ?_⟩
  · obtain ⟨i, hi, rfl⟩ := List.mem_map.mp he
    have := List.mem_range.mp hi
    exact nm_nm (by omega) (by omega) (by omega)
  · obtain ⟨i, hi, rfl⟩ := List.mem_map.mp he
    exact hf i
  · obtain ⟨i, hi, rfl⟩ := List.mem_map.mp he
    have lt : (i + 1) % k < k := Nat.mod_lt _ (by omega)
    refine ⟨?_, ?_, fun m hm => ?_, fun m hm x hx => ?_⟩
    · show 1 ≤ (List.replicate _ _).length
      rw [List.length_replicate]
      split <;> omega
    · show (List.replicate _ _).length ≤ 40
      rw [List.length_replicate]
      split <;> omega
    · rw [(List.mem_replicate.mp hm).2]
      refine isPl_of ?_
      rw [ring_keys]
      exact nms_mem lt
    · rw [(List.mem_replicate.mp hm).2] at hx
      cases hx
      simp
theorem ring_lay {f : Nat → Str} {k m : Nat} (k1 : 1 ≤ k) (k2 : k ≤ 122) (m2 : m ≤ 42) : GLay (ringG f k m k) := by
  refine ⟨fun e he => ?_, by simp [ringG]; omega, fun e he => ?_⟩
  · obtain ⟨i, hi, rfl⟩ := List.mem_map.mp he
    have := List.mem_range.mp hi
    exact (nm_nm (by omega) (by omega) (by omega)).lay
  · obtain ⟨i, hi, rfl⟩ := List.mem_map.mp he
    have lt : (i + 1) % k < k := Nat.mod_lt _ (by omega)
    refine ⟨?_, fun m hm => ?_⟩
    · show (List.replicate _ _).length ≤ 1000
      rw [List.length_replicate]
      split <;> omega
    · rw [(List.mem_replicate.mp hm).2]
      exact (nm_nm (by omega) (by omega) (by omega)).lay
theorem sil_nil (g : List GEn) : ∀ n, silN g n [] = false
  | 0 => rfl
  | n + 1 => by simp [silN]
theorem ring_sil {f : Nat → Str} {k m : Nat} : silR (ringG f k m k) = false := by
  have no : ∀ x, (mvsAt (ringG f k m k) x).any (fun y => y.1.isNone && decide (y.2 ∈ (ringG f k m k).map (·.1))) = false := fun x => by
    unfold mvsAt
    cases q : enAt (ringG f k m k) x with
    | none => rfl
    | some e =>
      obtain ⟨he, _⟩ := enAt_mem q
      obtain ⟨i, hi, rfl⟩ := List.mem_map.mp he
      refine List.any_eq_false.mpr fun m hm => ?_
      rw [(List.mem_replicate.mp hm).2]
      simp
  unfold silR
  cases hk : (ringG f k m k).length with
  | zero => rfl
  | succ n =>
    have ke : keptL (ringG f k m k) ((ringG f k m k).map (·.1)) = [] := by
      unfold keptL
      refine List.filter_eq_nil_iff.mpr fun x _ => ?_
      rw [no x]
      exact Bool.false_ne_true
    have ne : (ringG f k m k).map (·.1) ≠ [] := fun h => by
      have := congrArg List.length h
      simp at this
      rw [this] at hk
      simp at hk
    rw [silN, if_neg ne, ke, if_neg (by
      intro h
      have := congrArg id h
      simp only [List.length_nil, List.length_map, id] at this
      omega)]
    exact sil_nil _ _
theorem ring_go {f : Nat → Str} {k m : Nat} (m1 : 1 ≤ m) : ∀ d, d < k → goOk (ringG f k m k) (nmS 112 ((k - d) % k)) (List.replicate d 0) ∧ goP (ringG f k m k) (nmS 112 ((k - d) % k)) (List.replicate d 0) = (List.replicate d ("a" : Str), nmS 112 0)
  | 0, h => ⟨trivial, by simp [goP]⟩
  | d + 1, h => by
    obtain ⟨h1, h2⟩ := ring_go (f := f) (k := k) (m := m) m1 d (by omega)
    have e1 : (k - (d + 1)) % k = k - (d + 1) := Nat.mod_eq_of_lt (by omega)
    have e2 : k - (d + 1) + 1 = k - d := by omega
    have at1 := ring_at (f := f) (m := m) (k := k) (i := k - (d + 1)) (by omega)
    have mv : (ringE f k m (k - (d + 1))).2.2[0]? = some (some ("a" : Str), nmS 112 ((k - d) % k)) := by
      unfold ringE
      rw [if_neg (by omega), e2]
      rfl
    rw [e1, List.replicate_succ]
    refine ⟨⟨_, _, at1, mv, h1⟩, ?_⟩
    have ma : mvsAt (ringG f k m k) (nmS 112 (k - (d + 1))) = (ringE f k m (k - (d + 1))).2.2 := by unfold mvsAt; rw [at1]
    rw [goP, ma, mv]
    show ([("a" : Str)] ++ (goP _ _ _).1, (goP _ _ _).2) = _
    rw [h2]
    rfl
theorem ring_round {f : Nat → Str} {k m : Nat} (k1 : 1 ≤ k) (m1 : 1 ≤ m) : goOk (ringG f k m k) (nmS 112 0) ((m - 1) :: List.replicate (k - 1) 0) ∧ goP (ringG f k m k) (nmS 112 0) ((m - 1) :: List.replicate (k - 1) 0) = (List.replicate k ("a" : Str), nmS 112 0) := by
  obtain ⟨h1, h2⟩ := ring_go (f := f) (k := k) (m := m) m1 (k - 1) (by omega)
  have at1 := ring_at (f := f) (m := m) (k := k) (i := 0) (by omega)
  have e1 : (0 + 1) % k = (k - (k - 1)) % k := by congr 1; omega
  have mv : (ringE f k m 0).2.2[m - 1]? = some (some ("a" : Str), nmS 112 ((k - (k - 1)) % k)) := by
    unfold ringE
    rw [if_pos rfl, e1, List.getElem?_replicate, if_pos (by omega)]
  refine ⟨⟨_, _, at1, mv, h1⟩, ?_⟩
  have ma : mvsAt (ringG f k m k) (nmS 112 0) = (ringE f k m 0).2.2 := by unfold mvsAt; rw [at1]
  rw [goP, ma, mv]
  show ([("a" : Str)] ++ (goP _ _ _).1, (goP _ _ _).2) = _
  rw [h2]
  obtain ⟨j, rfl⟩ : ∃ j, k = j + 1 := ⟨k - 1, by omega⟩
  rfl
section
variable {o : Option Str} {t k : Nat} {g : List GEn}
theorem row_pk (hp : g.Perm (rowG o t k k)) : (g.map (·.1)).Perm (nms 113 k) := by
  have := hp.map (·.1)
  rw [row_keys] at this
  exact this
theorem row_at (hp : g.Perm (rowG o t k k)) {i : Nat} (h : i < k) : enAt g (nmS 113 i) = some (rowE o t k i) := by
  have m : rowE o t k i ∈ g := hp.symm.subset (List.mem_map_of_mem (List.mem_range.mpr h))
  have nd : (g.map (·.1)).Nodup := (row_pk hp).nodup_iff.mpr (nms_nd 113 k)
  have := enAt_nd nd m
  rw [rowE_nm] at this
  exact this
theorem row_mv (hp : g.Perm (rowG o t k k)) {i : Nat} (h : i < k) : mvsAt g (nmS 113 i) = if i + 1 < k then [(none, nmS 113 (i + 1))] else [(o, nmS 113 t)] := by
  unfold mvsAt
  rw [row_at hp h]
  show (rowE o t k i).2.2 = _
  unfold rowE
  split <;> rfl
theorem row_gok (hp : g.Perm (rowG o t k k)) (ho : ∀ x, o = some x → x = "a") (k1 : 1 ≤ k) (k2 : k ≤ 120) (tk : t < k) : GOk ["a"] g := by
  have len : g.length = k := by rw [hp.length_eq]; simp [rowG]
  have mem : ∀ e ∈ g, ∃ i, i < k ∧ e = rowE o t k i := fun e he => by
    obtain ⟨i, hi, rfl⟩ := List.mem_map.mp (hp.subset he)
    exact ⟨i, List.mem_range.mp hi, rfl⟩
  have pl : ∀ i, i < k → isPl g (nmS 113 i) = true := fun i h => isPl_of ((row_pk hp).symm.subset (nms_mem h))
  refine ⟨by omega, by omega, fun e he => ?_, fun e he => ?_, fun e he => ?_⟩
  · obtain ⟨i, hi, rfl⟩ := mem e he
    rw [rowE_nm]
    exact nm_nm (by omega) (by omega) (by omega)
  · obtain ⟨i, hi, rfl⟩ := mem e he
    unfold rowE
    split <;> simp [plyL]
  · obtain ⟨i, hi, rfl⟩ := mem e he
    unfold rowE
    split
    · refine ⟨by simp, by simp, fun m hm => ?_, fun m hm x hx => ?_⟩
      · rw [List.mem_singleton.mp hm]
        exact pl _ (by omega)
      · rw [List.mem_singleton.mp hm] at hx
        cases hx
    · refine ⟨by simp, by simp, fun m hm => ?_, fun m hm x hx => ?_⟩
      · rw [List.mem_singleton.mp hm]
        exact pl _ tk
      · rw [List.mem_singleton.mp hm] at hx
        rw [ho x hx]
        simp
theorem row_ring (hp : g.Perm (rowG none t k k)) (k1 : 1 ≤ k) (tk : t < k) : silR g = true := by
  have len : g.length = k := by rw [hp.length_eq]; simp [rowG]
  have ke : keptL g (g.map (·.1)) = g.map (·.1) := by
    unfold keptL
    refine List.filter_eq_self.mpr fun x hx => ?_
    obtain ⟨i, hi, rfl⟩ := List.mem_map.mp ((row_pk hp).subset hx)
    have hi' := List.mem_range.mp hi
    have ink : ∀ j, j < k → nmS 113 j ∈ g.map (·.1) := fun j h => (row_pk hp).symm.subset (nms_mem h)
    rw [row_mv hp hi']
    split
    · have := ink (i + 1) (by omega)
      simp only [List.any_cons, List.any_nil, Option.isNone_none, decide_eq_true this, Bool.and_self, Bool.or_false]
    · have := ink t tk
      simp only [List.any_cons, List.any_nil, Option.isNone_none, decide_eq_true this, Bool.and_self, Bool.or_false]
  unfold silR
  rw [len]
  obtain ⟨j, rfl⟩ : ∃ j, k = j + 1 := ⟨k - 1, by omega⟩
  have ne : g.map (·.1) ≠ [] := fun h => by
    have := congrArg List.length h
    rw [List.length_map, len] at this
    cases this
  rw [silN, if_neg ne, ke, if_pos rfl]
def leftG (k : Nat) (g : List GEn) (j : Nat) : List Str := (g.map (·.1)).filter fun x => decide (x ∈ nms 113 (k - j))
theorem mem_nms {c k i : Nat} : nmS c i ∈ nms c k ↔ i < k := by
  constructor
  · intro h
    obtain ⟨a, ha, e⟩ := List.mem_map.mp h
    have := nm_inj e
    have := List.mem_range.mp ha
    omega
  · exact nms_mem
theorem mem_left (hp : g.Perm (rowG o t k k)) {i j : Nat} (h : i < k) : nmS 113 i ∈ leftG k g j ↔ i < k - j := by
  unfold leftG
  rw [List.mem_filter, decide_eq_true_iff, mem_nms]
  exact ⟨fun h => h.2, fun q => ⟨(row_pk hp).symm.subset (nms_mem h), q⟩⟩
theorem row_kept {x : Str} (hp : g.Perm (rowG (some x) t k k)) (j : Nat) : keptL g (leftG k g j) = leftG k g (j + 1) := by
  unfold keptL
  rw [leftG, List.filter_filter]
  unfold leftG
  refine List.filter_congr fun y hy => ?_
  obtain ⟨i, hi, rfl⟩ := List.mem_map.mp ((row_pk hp).subset hy)
  have hi' := List.mem_range.mp hi
  rw [row_mv hp hi', Bool.eq_iff_iff, Bool.and_eq_true, decide_eq_true_iff, decide_eq_true_iff, mem_nms, mem_nms]
  split
  · rename_i h
    have hm := mem_left hp (j := j) h
    unfold leftG at hm
    simp only [List.any_cons, List.any_nil, Option.isNone_none, Bool.true_and, Bool.or_false, decide_eq_true_iff, hm]
    omega
  · simp only [List.any_cons, List.any_nil, Option.isNone_some, Bool.false_and, Bool.or_false, Bool.false_eq_true, false_and]
    constructor
    · exact fun h => h.elim
    · intro h; omega
theorem left_sil {x : Str} (hp : g.Perm (rowG (some x) t k k)) : ∀ n j, silN g n (leftG k g j) = false
  | 0, _ => rfl
  | n + 1, j => by
    rw [silN]
    split
    · rfl
    · rename_i ne
      rw [row_kept hp, if_neg]
      · exact left_sil hp n (j + 1)
      · obtain ⟨y, hy⟩ := List.exists_mem_of_ne_nil _ ne
        obtain ⟨y1, y2⟩ := List.mem_filter.mp hy
        obtain ⟨i, hi, rfl⟩ := List.mem_map.mp ((row_pk hp).subset y1)
        have hi' := List.mem_range.mp hi
        have i2 := mem_nms.mp (of_decide_eq_true y2)
        have top : nmS 113 (k - j - 1) ∈ leftG k g j := (mem_left hp (by omega)).mpr (by omega)
        have nt : nmS 113 (k - j - 1) ∉ leftG k g (j + 1) := fun h => by
          have := (mem_left hp (by omega)).mp h
          omega
        intro e
        rw [← row_kept hp] at e nt
        unfold keptL at e nt
        have := List.length_filter_eq_length_iff.mp e _ top
        exact nt (List.mem_filter.mpr ⟨top, this⟩)
theorem row_no {x : Str} (hp : g.Perm (rowG (some x) t k k)) : silR g = false := by
  have e : leftG k g 0 = g.map (·.1) := by
    unfold leftG
    refine List.filter_eq_self.mpr fun y hy => ?_
    have := (row_pk hp).subset hy
    simpa using this
  unfold silR
  rw [← e]
  exact left_sil hp _ 0
end
end AG.K42
set_option Elab.async false
set_option linter.all false
set_option maxRecDepth 100000
set_option exponentiation.threshold 4000
namespace AG.K42
open PySem L2 AG
abbrev KK : Nat := 20
theorem s_is_name (K : Nat) (h : 1 ≤ K) : IsName (callK body K 1) := by
  obtain ⟨K, rfl⟩ : ∃ j, K = j + 1 := ⟨K - 1, by omega⟩
  exact isName_ok
theorem s_are_signals (K : Nat) (h : 2 ≤ K) : AreSignals (callK body K 2) := by
  obtain ⟨K, rfl⟩ : ∃ j, K = j + 1 := ⟨K - 1, by omega⟩
  exact areSignals_ok (s_is_name K (by omega))
theorem s_is_number (K : Nat) (h : 1 ≤ K) : IsNumT (callK body K 3) := by
  obtain ⟨K, rfl⟩ : ∃ j, K = j + 1 := ⟨K - 1, by omega⟩
  exact isNum_ok
theorem s_is_player (K : Nat) (h : 1 ≤ K) : IsPlayT (callK body K 4) := by
  obtain ⟨K, rfl⟩ : ∃ j, K = j + 1 := ⟨K - 1, by omega⟩
  exact isPlay_ok
theorem s_are_moves (K : Nat) (h : 1 ≤ K) : AreMovesT (callK body K 5) := by
  obtain ⟨K, rfl⟩ : ∃ j, K = j + 1 := ⟨K - 1, by omega⟩
  exact areMoves_ok
theorem s_are_places (K : Nat) (h : 2 ≤ K) : ArePlT (callK body K 6) := by
  obtain ⟨K, rfl⟩ : ∃ j, K = j + 1 := ⟨K - 1, by omega⟩
  exact arePl_ok (s_is_name K (by omega)) (s_is_player K (by omega)) (s_are_moves K (by omega))
theorem s_has_silent_ring (K : Nat) (h : 1 ≤ K) : IsSil (callK body K 7) := by
  obtain ⟨K, rfl⟩ : ∃ j, K = j + 1 := ⟨K - 1, by omega⟩
  exact silent_ok
theorem s_Game___init__ (K : Nat) (h : 3 ≤ K) : IsGInit (callK body K 8) := by
  obtain ⟨K, rfl⟩ : ∃ j, K = j + 1 := ⟨K - 1, by omega⟩
  exact gInit_ok (s_are_signals K (by omega)) (s_are_places K (by omega)) (s_has_silent_ring K (by omega))
theorem s_Game___len__ (K : Nat) (h : 1 ≤ K) : IsGLen (callK body K 10) := by
  obtain ⟨K, rfl⟩ : ∃ j, K = j + 1 := ⟨K - 1, by omega⟩
  exact gLen_ok
theorem s_need_place (K : Nat) (h : 1 ≤ K) : IsNeedPl (callK body K 14) := by
  obtain ⟨K, rfl⟩ : ∃ j, K = j + 1 := ⟨K - 1, by omega⟩
  exact needPl_ok
theorem s_gone (K : Nat) (h : 2 ≤ K) : IsGone (callK body K 15) := by
  obtain ⟨K, rfl⟩ : ∃ j, K = j + 1 := ⟨K - 1, by omega⟩
  exact gone_ok (s_is_number K (by omega))
theorem s_follow (K : Nat) (h : 3 ≤ K) : IsFollow (callK body K 16) := by
  obtain ⟨K, rfl⟩ : ∃ j, K = j + 1 := ⟨K - 1, by omega⟩
  exact follow_ok (s_need_place K (by omega)) (s_gone K (by omega))
theorem s_law_begin (K : Nat) (h : 1 ≤ K) : IsBeg potB (callK body K 17) := by
  obtain ⟨K, rfl⟩ : ∃ j, K = j + 1 := ⟨K - 1, by omega⟩
  exact begB
theorem s_law_draw (K : Nat) (h : 1 ≤ K) : IsDrw potB (callK body K 18) := by
  obtain ⟨K, rfl⟩ : ∃ j, K = j + 1 := ⟨K - 1, by omega⟩
  exact drwB B.draw_ok
theorem s_law_pick (K : Nat) (h : 2 ≤ K) : IsPck potB (callK body K 19) := by
  obtain ⟨K, rfl⟩ : ∃ j, K = j + 1 := ⟨K - 1, by omega⟩
  exact pck_ok (s_law_draw K (by omega))
theorem s_law_mixed (K : Nat) (h : 2 ≤ K) : IsMixG potB (callK body K 20) := by
  obtain ⟨K, rfl⟩ : ∃ j, K = j + 1 := ⟨K - 1, by omega⟩
  exact mixedG_ok (s_law_draw K (by omega))
theorem s_law_kind (K : Nat) (h : 1 ≤ K) : IsKindB (callK body K 21) := by
  obtain ⟨K, rfl⟩ : ∃ j, K = j + 1 := ⟨K - 1, by omega⟩
  exact kindB_ok
theorem s_are_moves_no (K : Nat) (h : 1 ≤ K) : AreMovesF (callK body K 5) := by
  obtain ⟨K, rfl⟩ : ∃ j, K = j + 1 := ⟨K - 1, by omega⟩
  exact areMoves_no
theorem s_are_places_no (K : Nat) (h : 2 ≤ K) : ArePlF (callK body K 6) := by
  obtain ⟨K, rfl⟩ : ∃ j, K = j + 1 := ⟨K - 1, by omega⟩
  exact arePl_no (s_is_name K (by omega)) (s_is_player K (by omega)) (s_are_moves_no K (by omega))
theorem s_Game___init___no (K : Nat) (h : 3 ≤ K) : IsGNo (callK body K 8) := by
  obtain ⟨K, rfl⟩ : ∃ j, K = j + 1 := ⟨K - 1, by omega⟩
  exact gInit_no (s_are_signals K (by omega)) (s_are_places K (by omega)) (s_are_places_no K (by omega)) (s_has_silent_ring K (by omega))
-- is_name:1 are_signals:2 is_number:1 is_player:1 are_moves:1 are_places:2 has_silent_ring:1 Game.__init__:3 Game.__len__:1 need_place:1 gone:2 follow:3 _law_begin:1 _law_draw:1 _law_pick:2 _law_mixed:2 _law_kind:1 _law_pick~let:2 are_moves~no:1 are_places~no:2 Game.__init__~no:3
theorem s_ring (K : Nat) (h : 3 ≤ K) : IsRing potB (callK body K 23) := by
  obtain ⟨K, rfl⟩ : ∃ j, K = j + 1 := ⟨K - 1, by omega⟩
  exact ring_ok srcB (s_law_pick K (by omega))
theorem s_row (K : Nat) (h : 3 ≤ K) : IsRow potB (callK body K 24) := by
  obtain ⟨K, rfl⟩ : ∃ j, K = j + 1 := ⟨K - 1, by omega⟩
  exact row_ok srcB (s_law_mixed K (by omega))
theorem heardB_ok {ck : List D → List MO → R} (ok : Nat → Bool) (d : D) (hd : sto d = true) (s : S) : kHeard ok (heardBS ck) (.ok d s) = .ok (.lst [d]) s := by
  rw [kHeard_ok _ _ _ _ hd]
  have i1 : ∀ s, isNonD s .non .non = some (.bl true) := fun s => Eq.trans rfl rfl
  refine tail_eq (s := s) (s3 := ⟨[.un, .d d, .d .non, .un], s.muz⟩) ?_
  simp only [seqS_ap, setS_ap, retS_ap, ifS_ap, iteS_ap, tstS_ap, tNotS_ap, tAndS_ap, tOrS_ap, andS_ap, orS_ap, notS_ap, binS_ap, unS_ap, callF_ap, callV_ap, callN_ap, consS_ap, nilS_ap, tupS_ap, lstF_ap, frzS_ap, ownS_ap, exS_ap, cS_ap, varS_ap, parA_ap, parS_inl, parS_inr, parS_nil, forS_ap, itRng_ap, itRng2_ap, itS_ap, itStr_ap, lcF_ap, slS_ap, slF_ap, noPartS_ap, partS_ap, isiS_ap, chainS_ap, nxS_ap, bkS_ap, ctS_ap, yesS_ap, orT_ap, appS_ap, popAtS_ap, dputS_ap, lputS_ap, hndS_ap, m1S_ap, asgS_ap, O.bind_ok, kVar_d, kVar_own, kB1_ap, kB2_ap, kU_ap, kAnd_t, kAnd_f, kOr_t, kOr_f, kNot_ap, kTst_ap, kTAnd_t, kTAnd_f, kTOr_t, kTOr_f, kTNot_ap, kIte_t, kIte_f, kC0_ap, kC1_ap, kC1'_t, kC1'_f, kC2_ap, kCons_ap, kCons2_ap, kTup_0, kTup_1, kTup_2, kTupB_t, kLst_0, kLst_1, kLstB_t, kFrz_ap, kCv_ap, kCn_ap, ofO_some, ofN_some, kEx_ap, kSet_ap, kSetB_t, kOwn_ap, kRet_non, kRet_bl, kRet_int, kRet_str, kRet_tup, kRet_lst, kRet_hnd, kRet_dct, kRet_ins, kRet_loc, kRet1_ap, kSeq_nx, kSeq_rt, kSeq_bk, kSeq_ct, kIt_ap, kIts_ap, seqD_lst, seqD_tup, seqD_scr, kFor_ap, tgN_ap, tgT_ap, tgsS_nil, tgsS_cons, kSl_ap, kSl1_ap, kSl2_ap, kSlF_ap, kSlF1_ap, kPart_ap, kPd_ap, kPdB_t, kPm_ap, kPc_ap, kPar_ap, putP_d, putP_m, putP_0, kHnd_ap, frzD, kAsg_ap, kAsgB_t, sto_non, sto_bl, sto_int, sto_str, sto_tup, sto_lst, sto_dct, sto_ins, sto_hnd, sto_scr, Bool.and_self, Bool.not_true, Bool.not_false, List.getElem?_cons_zero, List.getElem?_cons_succ, List.set_cons_succ, List.set_cons_zero, kM1_ap, kM1b_ap, kOrT_ap, kOrT1_t, kOrT1_f, eqD_ap, neD_ap, Option.map_some, addD_int, subD_int, gtD_int, ltD_int, cmpI_int, intD_int, intD_bl, negD_int, kStr_ap, kLput_ap, kLput1_ap, decide_true, decide_false, isCS_ap, isiC_ins, isiC_tup, isiC_non, fld_ins, fputS_ap, kFp1_ap, makeF_ap, blS_ap, kBl_ap, own2_ap, kO2_ap, lenE_lst, lenE_tup, listE_lst, listE_tup, listE_dct, strD_str, isB_ap, isNotB_ap, keySortF_ap, dcF_ap, tupleD_lst, slD_tup, slD_lst, vl_own, inA_loc, notInA_loc, lenD_loc, lenE_loc, ixA_loc, slD_loc, eqB_loc1, eqB_loc2, addD_loc1, addD_loc2, tupleD_loc, listN_loc, listE_loc, reprD_loc, joinD_loc, sortN_loc, bind_assoc, Ok_ok, and_self, true_and, and_true, permS_ap, kPerm_2, kPerm_1, eqB_int, eqB_bls, eqB_str, fzS_ap, kFz_own, lenD_lst, len_tup, txs_length, tts_length, sto_exc, tgU_ap, isiXS_ap, raiseS_ap, O.bind_err, countS_ap, indexS_ap, heardS_ap, revD_tup, revD_lst, i1, hd]
theorem nm_lit {x : Str} (h : (decide (1 ≤ x.length) && decide (x.length ≤ 6) && x.cps.toList.all fun c => decide (97 ≤ c) && decide (c ≤ 122)) = true) : Nm x := by
  simp only [Bool.and_eq_true, decide_eq_true_eq, List.all_eq_true] at h
  exact ⟨h.1.1, h.1.2, fun c hc => h.2 c hc⟩
theorem sg_a : Sg ["a"] := ⟨fun x hx => by rw [List.mem_singleton.mp hx]; exact nm_lit (by decide +kernel), by simp, by simp, by simp⟩
theorem sg_ab : Sg ["a", "b"] := ⟨fun x hx => by
  simp only [List.mem_cons, List.not_mem_nil, or_false] at hx
  rcases hx with rfl | rfl <;> exact nm_lit (by decide +kernel), by decide +kernel, by simp, by simp⟩
theorem eqB_end (s : S) (l : List Str) (x : Str) (hl : Lay l) (hx : PyData.canLay0 (.str x) = true) : eqB s (.tup [.tup (txs l), .str x]) (.tup [.tup (txs l), .str x]) = some true := by
  have h1 : pyOf (.tup [.tup (txs l), .str x]) = some (.tuple [.tuple (l.map .str), .str x]) := pyOf_tup (by simp only [pyL, pyOf, pyL_txs l, Option.map_some])
  have h2 : SeqAt.shaped (.tuple [.tuple (l.map .str), .str x]) = true := by
    have e1 : (PyData.tuple [.tuple (l.map .str), .str x]).canLay0 = true := by
      have := lay_all hl
      simp only [PyData.canLay0, PyData.canLayAll0] at hx this ⊢
      simp [this, hx]
    have e2 : (PyData.tuple [.tuple (l.map .str), .str x]).depth ≤ 64 := by
      simp only [PyData.depth, PyData.depthAll, depth_txs]
      omega
    unfold SeqAt.shaped
    rw [e1, decide_eq_true e2]
    rfl
  have v0 : ∀ l, vw s (.tup l) = .tup l := fun _ => rfl
  unfold eqB
  rw [v0]
  simp only [h1, h2, Bool.and_self, if_true, PyData.eqv, PyData.eqvAll, eqvAll_txs, decide_true]
  simp
noncomputable def bd1 (C : Calls) : M Fl := (seqS (setS 7 (callF (C 23) (consS (varS 1) (consS (varS 5) (consS (varS 6) nilS)))))
    (seqS (setS 8 (heardS (fun e => (esl.map (·.1)).contains e) (frzS (makeF 13 (C 8) (consS (tupS (consS (cS (.str "a")) (consS (cS (.str "b")) nilS))) (consS (varS 7) nilS)))) (f__law_heard_3S C)))
    (ifS (tOrS (tstS (binS gtD (varS 5) (cS (.int 120)))) (tstS (binS gtD (varS 6) (cS (.int 40))))) (ifS (tstS (binS neD (varS 8) (cS (.str "game")))) (retS (cS (.bl false))) nxS) (ifS (tOrS (tNotS (tstS (isiS "list" (varS 8)))) (tstS (binS neD (lnS (C 10) 13 (binS ixA (varS 8) (cS (.int 0)))) (varS 5)))) (retS (cS (.bl false))) (ifS (tstS (binS neD (callF (C 16) (consS (binS ixA (varS 8) (cS (.int 0))) (consS (binS ixA (frzS (callN listE (consS (varS 7) nilS))) (cS (.int 0))) (consS (binS addD (tupS (consS (binS subD (varS 6) (cS (.int 1))) nilS)) (binS mulZ (tupS (consS (cS (.int 0)) nilS)) (binS subD (varS 5) (cS (.int 1))))) nilS)))) (tupS (consS (binS mulE (tupS (consS (cS (.str "a")) nilS)) (varS 5)) (consS (binS ixA (frzS (callN listE (consS (varS 7) nilS))) (cS (.int 0))) nilS))))) (retS (cS (.bl false))) nxS)))))
noncomputable def bd2 (C : Calls) : M Fl := (seqS (setS 5 (binS addD (cS (.int 1)) (callF (C 18) (consS (varS 1) (consS (cS (.int 120)) nilS)))))
    (seqS (setS 9 (callF (C 18) (consS (varS 1) (consS (varS 5) nilS))))
    (seqS (ifS (tstS (binS neD (heardS (fun e => (esl.map (·.1)).contains e) (frzS (makeF 13 (C 8) (consS (tupS (consS (cS (.str "a")) nilS)) (consS (callF (C 24) (consS (varS 1) (consS (varS 5) (consS (tupS (consS (cS .non) (consS (varS 9) nilS))) nilS)))) nilS)))) (f__law_heard_3S C)) (cS (.str "game")))) (retS (cS (.bl false))) nxS)
    (ifS (tNotS (tstS (isiS "list" (heardS (fun e => (esl.map (·.1)).contains e) (frzS (makeF 13 (C 8) (consS (tupS (consS (cS (.str "a")) nilS)) (consS (callF (C 24) (consS (varS 1) (consS (varS 5) (consS (tupS (consS (cS (.str "a")) (consS (varS 9) nilS))) nilS)))) nilS)))) (f__law_heard_3S C))))) (retS (cS (.bl false))) nxS))))
theorem turn1 {C : Calls} (h8 : IsGInit (C 8)) (h8n : IsGNo (C 8)) (h10 : IsGLen (C 10)) (h16 : IsFollow (C 16)) (h21 : IsKindB (C 21)) (h23 : IsRing potB (C 23)) {n k m : Nat} (k1 : 1 ≤ k) (k2 : k ≤ 122) (m1 : 1 ≤ m) (m2 : m ≤ 42) (a0 a3 a4 : D) (s2 s7 s8 s9 : SV) (muz : List MO) (hP : potB (n + k) muz) :
    Ok (bd1 C ⟨[.d a0, .d (.hnd 1), s2, .d a3, .d a4, .d (.int (k : Nat)), .d (.int (m : Nat)), s7, s8, s9], muz⟩) fun fl s => fl = .nx ∧ ∃ s5 s6 s7 s8 muz', s = ⟨[.d a0, .d (.hnd 1), s2, .d a3, .d a4, s5, s6, s7, s8, s9], muz'⟩ ∧ potB n muz' := by
  unfold bd1
  obtain ⟨f, muz1, e1, hf, P1⟩ := h23 n muz k m k1 k2 m1 m2 hP
  have fine := srcB.fine P1
  have kr : ∀ rhz, kCall (C 23) [.hnd 1, .int (k : Nat), .int (m : Nat)] ⟨rhz, muz⟩ = .ok (plsD (ringG f k m k)) ⟨rhz, muz1⟩ := fun rhz => kCall_eq e1 rfl
  by_cases bad : 120 < k ∨ 40 < m
  · have mk : ∀ rhz, kMk 13 (C 8) [.tup [.str "a", .str "b"], plsD (ringG f k m k)] ⟨rhz, muz1⟩ = .err { c := 7 } ⟨rhz, muz1⟩ := fun rhz => game_no h8n sg_ab (g := ringG f k m k) (by
      rcases bad with b | b
      · exact .inr (.inl (by simp [ringG]; omega))
      · obtain ⟨j, rfl⟩ : ∃ j, k = j + 1 := ⟨k - 1, by omega⟩
        refine .inr (.inr ⟨ringE f (j + 1) m 0, (List.range j).map fun i => ringE f (j + 1) m (i + 1), ?_, nm_nm (by omega) (by omega) (by omega), hf 0, ?_⟩)
        · unfold ringG
          rw [List.range_succ_eq_map, List.map_cons, List.map_map]
          rfl
        · show 40 < (List.replicate _ _).length
          rw [List.length_replicate, if_pos rfl]
          exact b) fine rhz
    have hh : ∀ s, kHeard (fun e => (esl.map (·.1)).contains e) (f__law_heard_3S C) (.err { c := 7 } s) = .ok (.str "game") s := fun s => heardB_err h21 (e := 7) (by simp) (fun e => (esl.map (·.1)).contains e) rfl s
    simp only [seqS_ap, setS_ap, retS_ap, ifS_ap, iteS_ap, tstS_ap, tNotS_ap, tAndS_ap, tOrS_ap, andS_ap, orS_ap, notS_ap, binS_ap, unS_ap, callF_ap, callV_ap, callN_ap, consS_ap, nilS_ap, tupS_ap, lstF_ap, frzS_ap, ownS_ap, exS_ap, cS_ap, varS_ap, parA_ap, parS_inl, parS_inr, parS_nil, forS_ap, itRng_ap, itRng2_ap, itS_ap, itStr_ap, lcF_ap, slS_ap, slF_ap, noPartS_ap, partS_ap, isiS_ap, chainS_ap, nxS_ap, bkS_ap, ctS_ap, yesS_ap, orT_ap, appS_ap, popAtS_ap, dputS_ap, lputS_ap, hndS_ap, m1S_ap, asgS_ap, O.bind_ok, kVar_d, kVar_own, kB1_ap, kB2_ap, kU_ap, kAnd_t, kAnd_f, kOr_t, kOr_f, kNot_ap, kTst_ap, kTAnd_t, kTAnd_f, kTOr_t, kTOr_f, kTNot_ap, kIte_t, kIte_f, kC0_ap, kC1_ap, kC1'_t, kC1'_f, kC2_ap, kCons_ap, kCons2_ap, kTup_0, kTup_1, kTup_2, kTupB_t, kLst_0, kLst_1, kLstB_t, kFrz_ap, kCv_ap, kCn_ap, ofO_some, ofN_some, kEx_ap, kSet_ap, kSetB_t, kOwn_ap, kRet_non, kRet_bl, kRet_int, kRet_str, kRet_tup, kRet_lst, kRet_hnd, kRet_dct, kRet_ins, kRet_loc, kRet1_ap, kSeq_nx, kSeq_rt, kSeq_bk, kSeq_ct, kIt_ap, kIts_ap, seqD_lst, seqD_tup, seqD_scr, kFor_ap, tgN_ap, tgT_ap, tgsS_nil, tgsS_cons, kSl_ap, kSl1_ap, kSl2_ap, kSlF_ap, kSlF1_ap, kPart_ap, kPd_ap, kPdB_t, kPm_ap, kPc_ap, kPar_ap, putP_d, putP_m, putP_0, kHnd_ap, frzD, kAsg_ap, kAsgB_t, sto_non, sto_bl, sto_int, sto_str, sto_tup, sto_lst, sto_dct, sto_ins, sto_hnd, sto_scr, Bool.and_self, Bool.not_true, Bool.not_false, List.getElem?_cons_zero, List.getElem?_cons_succ, List.set_cons_succ, List.set_cons_zero, kM1_ap, kM1b_ap, kOrT_ap, kOrT1_t, kOrT1_f, eqD_ap, neD_ap, Option.map_some, addD_int, subD_int, gtD_int, ltD_int, cmpI_int, intD_int, intD_bl, negD_int, kStr_ap, kLput_ap, kLput1_ap, decide_true, decide_false, isCS_ap, isiC_ins, isiC_tup, isiC_non, fld_ins, fputS_ap, kFp1_ap, makeF_ap, blS_ap, kBl_ap, own2_ap, kO2_ap, lenE_lst, lenE_tup, listE_lst, listE_tup, listE_dct, strD_str, isB_ap, isNotB_ap, keySortF_ap, dcF_ap, tupleD_lst, slD_tup, slD_lst, vl_own, inA_loc, notInA_loc, lenD_loc, lenE_loc, ixA_loc, slD_loc, eqB_loc1, eqB_loc2, addD_loc1, addD_loc2, tupleD_loc, listN_loc, listE_loc, reprD_loc, joinD_loc, sortN_loc, bind_assoc, Ok_ok, and_self, true_and, and_true, permS_ap, kPerm_2, kPerm_1, eqB_int, eqB_bls, eqB_str, fzS_ap, kFz_own, lenD_lst, len_tup, txs_length, tts_length, sto_exc, tgU_ap, isiXS_ap, raiseS_ap, O.bind_err, countS_ap, indexS_ap, heardS_ap, revD_tup, revD_lst, kr, makeF_ap, mk, sto_pls, hh]
    by_cases b' : 120 < k
    · have b1 : (120 : Int) < (k : Nat) := by omega
      simp only [seqS_ap, setS_ap, retS_ap, ifS_ap, iteS_ap, tstS_ap, tNotS_ap, tAndS_ap, tOrS_ap, andS_ap, orS_ap, notS_ap, binS_ap, unS_ap, callF_ap, callV_ap, callN_ap, consS_ap, nilS_ap, tupS_ap, lstF_ap, frzS_ap, ownS_ap, exS_ap, cS_ap, varS_ap, parA_ap, parS_inl, parS_inr, parS_nil, forS_ap, itRng_ap, itRng2_ap, itS_ap, itStr_ap, lcF_ap, slS_ap, slF_ap, noPartS_ap, partS_ap, isiS_ap, chainS_ap, nxS_ap, bkS_ap, ctS_ap, yesS_ap, orT_ap, appS_ap, popAtS_ap, dputS_ap, lputS_ap, hndS_ap, m1S_ap, asgS_ap, O.bind_ok, kVar_d, kVar_own, kB1_ap, kB2_ap, kU_ap, kAnd_t, kAnd_f, kOr_t, kOr_f, kNot_ap, kTst_ap, kTAnd_t, kTAnd_f, kTOr_t, kTOr_f, kTNot_ap, kIte_t, kIte_f, kC0_ap, kC1_ap, kC1'_t, kC1'_f, kC2_ap, kCons_ap, kCons2_ap, kTup_0, kTup_1, kTup_2, kTupB_t, kLst_0, kLst_1, kLstB_t, kFrz_ap, kCv_ap, kCn_ap, ofO_some, ofN_some, kEx_ap, kSet_ap, kSetB_t, kOwn_ap, kRet_non, kRet_bl, kRet_int, kRet_str, kRet_tup, kRet_lst, kRet_hnd, kRet_dct, kRet_ins, kRet_loc, kRet1_ap, kSeq_nx, kSeq_rt, kSeq_bk, kSeq_ct, kIt_ap, kIts_ap, seqD_lst, seqD_tup, seqD_scr, kFor_ap, tgN_ap, tgT_ap, tgsS_nil, tgsS_cons, kSl_ap, kSl1_ap, kSl2_ap, kSlF_ap, kSlF1_ap, kPart_ap, kPd_ap, kPdB_t, kPm_ap, kPc_ap, kPar_ap, putP_d, putP_m, putP_0, kHnd_ap, frzD, kAsg_ap, kAsgB_t, sto_non, sto_bl, sto_int, sto_str, sto_tup, sto_lst, sto_dct, sto_ins, sto_hnd, sto_scr, Bool.and_self, Bool.not_true, Bool.not_false, List.getElem?_cons_zero, List.getElem?_cons_succ, List.set_cons_succ, List.set_cons_zero, kM1_ap, kM1b_ap, kOrT_ap, kOrT1_t, kOrT1_f, eqD_ap, neD_ap, Option.map_some, addD_int, subD_int, gtD_int, ltD_int, cmpI_int, intD_int, intD_bl, negD_int, kStr_ap, kLput_ap, kLput1_ap, decide_true, decide_false, isCS_ap, isiC_ins, isiC_tup, isiC_non, fld_ins, fputS_ap, kFp1_ap, makeF_ap, blS_ap, kBl_ap, own2_ap, kO2_ap, lenE_lst, lenE_tup, listE_lst, listE_tup, listE_dct, strD_str, isB_ap, isNotB_ap, keySortF_ap, dcF_ap, tupleD_lst, slD_tup, slD_lst, vl_own, inA_loc, notInA_loc, lenD_loc, lenE_loc, ixA_loc, slD_loc, eqB_loc1, eqB_loc2, addD_loc1, addD_loc2, tupleD_loc, listN_loc, listE_loc, reprD_loc, joinD_loc, sortN_loc, bind_assoc, Ok_ok, and_self, true_and, and_true, permS_ap, kPerm_2, kPerm_1, eqB_int, eqB_bls, eqB_str, fzS_ap, kFz_own, lenD_lst, len_tup, txs_length, tts_length, sto_exc, tgU_ap, isiXS_ap, raiseS_ap, O.bind_err, countS_ap, indexS_ap, heardS_ap, revD_tup, revD_lst, decide_eq_true b1]
      exact ⟨_, _, _, _, _, rfl, P1⟩
    · have b1 : ¬ (120 : Int) < (k : Nat) := by omega
      have b2 : (40 : Int) < (m : Nat) := by omega
      simp only [seqS_ap, setS_ap, retS_ap, ifS_ap, iteS_ap, tstS_ap, tNotS_ap, tAndS_ap, tOrS_ap, andS_ap, orS_ap, notS_ap, binS_ap, unS_ap, callF_ap, callV_ap, callN_ap, consS_ap, nilS_ap, tupS_ap, lstF_ap, frzS_ap, ownS_ap, exS_ap, cS_ap, varS_ap, parA_ap, parS_inl, parS_inr, parS_nil, forS_ap, itRng_ap, itRng2_ap, itS_ap, itStr_ap, lcF_ap, slS_ap, slF_ap, noPartS_ap, partS_ap, isiS_ap, chainS_ap, nxS_ap, bkS_ap, ctS_ap, yesS_ap, orT_ap, appS_ap, popAtS_ap, dputS_ap, lputS_ap, hndS_ap, m1S_ap, asgS_ap, O.bind_ok, kVar_d, kVar_own, kB1_ap, kB2_ap, kU_ap, kAnd_t, kAnd_f, kOr_t, kOr_f, kNot_ap, kTst_ap, kTAnd_t, kTAnd_f, kTOr_t, kTOr_f, kTNot_ap, kIte_t, kIte_f, kC0_ap, kC1_ap, kC1'_t, kC1'_f, kC2_ap, kCons_ap, kCons2_ap, kTup_0, kTup_1, kTup_2, kTupB_t, kLst_0, kLst_1, kLstB_t, kFrz_ap, kCv_ap, kCn_ap, ofO_some, ofN_some, kEx_ap, kSet_ap, kSetB_t, kOwn_ap, kRet_non, kRet_bl, kRet_int, kRet_str, kRet_tup, kRet_lst, kRet_hnd, kRet_dct, kRet_ins, kRet_loc, kRet1_ap, kSeq_nx, kSeq_rt, kSeq_bk, kSeq_ct, kIt_ap, kIts_ap, seqD_lst, seqD_tup, seqD_scr, kFor_ap, tgN_ap, tgT_ap, tgsS_nil, tgsS_cons, kSl_ap, kSl1_ap, kSl2_ap, kSlF_ap, kSlF1_ap, kPart_ap, kPd_ap, kPdB_t, kPm_ap, kPc_ap, kPar_ap, putP_d, putP_m, putP_0, kHnd_ap, frzD, kAsg_ap, kAsgB_t, sto_non, sto_bl, sto_int, sto_str, sto_tup, sto_lst, sto_dct, sto_ins, sto_hnd, sto_scr, Bool.and_self, Bool.not_true, Bool.not_false, List.getElem?_cons_zero, List.getElem?_cons_succ, List.set_cons_succ, List.set_cons_zero, kM1_ap, kM1b_ap, kOrT_ap, kOrT1_t, kOrT1_f, eqD_ap, neD_ap, Option.map_some, addD_int, subD_int, gtD_int, ltD_int, cmpI_int, intD_int, intD_bl, negD_int, kStr_ap, kLput_ap, kLput1_ap, decide_true, decide_false, isCS_ap, isiC_ins, isiC_tup, isiC_non, fld_ins, fputS_ap, kFp1_ap, makeF_ap, blS_ap, kBl_ap, own2_ap, kO2_ap, lenE_lst, lenE_tup, listE_lst, listE_tup, listE_dct, strD_str, isB_ap, isNotB_ap, keySortF_ap, dcF_ap, tupleD_lst, slD_tup, slD_lst, vl_own, inA_loc, notInA_loc, lenD_loc, lenE_loc, ixA_loc, slD_loc, eqB_loc1, eqB_loc2, addD_loc1, addD_loc2, tupleD_loc, listN_loc, listE_loc, reprD_loc, joinD_loc, sortN_loc, bind_assoc, Ok_ok, and_self, true_and, and_true, permS_ap, kPerm_2, kPerm_1, eqB_int, eqB_bls, eqB_str, fzS_ap, kFz_own, lenD_lst, len_tup, txs_length, tts_length, sto_exc, tgU_ap, isiXS_ap, raiseS_ap, O.bind_err, countS_ap, indexS_ap, heardS_ap, revD_tup, revD_lst, decide_eq_false b1, decide_eq_true b2]
      exact ⟨_, _, _, _, _, rfl, P1⟩
  · have b1 : ¬ 120 < k := fun h => bad (.inl h)
    have b2 : ¬ 40 < m := fun h => bad (.inr h)
    have b3 : ¬ (120 : Int) < (k : Nat) := by omega
    have b4 : ¬ (40 : Int) < (m : Nat) := by omega
    have mk : ∀ rhz, kMk 13 (C 8) [.tup [.str "a", .str "b"], plsD (ringG f k m k)] ⟨rhz, muz1⟩ = .ok (.mi 13 (gfs (srtT ["a", "b"]) (ringG f k m k))) ⟨rhz, muz1⟩ := fun rhz => game_ok h8 sg_ab (ring_gok (f := f) (k := k) (m := m) hf k1 (by omega) m1 (by omega)) ring_sil fine rhz
    obtain ⟨T, eT⟩ : ∃ T, T = srtT ["a", "b"] := ⟨_, rfl⟩
    rw [← eT] at mk
    have fr : ∀ a b, (D.ins 13 (gfs a b)) = gameD a b := fun _ _ => rfl
    have hh : ∀ s, kHeard (fun e => (esl.map (·.1)).contains e) (f__law_heard_3S C) (.ok (gameD T (ringG f k m k)) s) = .ok (.lst [gameD T (ringG f k m k)]) s := fun s => heardB_ok _ _ rfl s
    have il : ∀ s l, isiD "list" s (.lst l) = some (.bl true) := fun s l => Eq.trans rfl rfl
    have ix := fun s => ix_l0 s (gameD T (ringG f k m k)) []
    have len : (ringG f k m k).length = k := by simp [ringG]
    have kl : ∀ rhz, kLn (C 10) 13 (gameD T (ringG f k m k)) ⟨rhz, muz1⟩ = .ok (.int (k : Nat)) ⟨rhz, muz1⟩ := fun rhz => by
      have := h10 T (ringG f k m k) muz1
      rw [len] at this
      exact kLn_ok (n := k) rfl this (by omega)
    have le : ∀ s, listE s [plsD (ringG f k m k)] = some (.ml (txs (nms 112 k))) := fun s => by
      unfold plsD
      rw [listE_dct, keys_pls, ring_keys]
    have i0 : ∀ s, ixA s (.lst (txs (nms 112 k))) (.int 0) = some (.str (nmS 112 0)) := fun s => ix_nms s (c := 112) (k := k) (i := 0) (by omega)
    have sm : ∀ s, subD s (.int (m : Nat)) (.int 1) = some (.int ((m - 1 : Nat) : Int)) := fun s => by
      show some (D.int ((m : Int) - 1)) = _
      rw [Int.natCast_sub (by omega)]
      rfl
    have sk : ∀ s, subD s (.int (k : Nat)) (.int 1) = some (.int ((k - 1 : Nat) : Int)) := fun s => by
      show some (D.int ((k : Int) - 1)) = _
      rw [Int.natCast_sub (by omega)]
      rfl
    have mz : ∀ s, mulZ s (.tup [.int 0]) (.int ((k - 1 : Nat) : Int)) = some (.tup (List.replicate (k - 1) (.int 0))) := fun s => by
      rw [mulZ_tup s (by omega) (by simp) (by simp), List.flatten_replicate_singleton]
    have ad : ∀ s, addD s (.tup [.int ((m - 1 : Nat) : Int)]) (.tup (List.replicate (k - 1) (.int 0))) = some (.tup (((m - 1) :: List.replicate (k - 1) 0).map fun n : Nat => D.int (n : Nat))) := fun s => by
      rw [addD_tup s (by simp; omega)]
      simp
    obtain ⟨r1, r2⟩ := ring_round (f := f) (k := k) (m := m) k1 m1
    have kf : ∀ rhz, kCall (C 16) [gameD T (ringG f k m k), .str (nmS 112 0), .tup (((m - 1) :: List.replicate (k - 1) 0).map fun n : Nat => D.int (n : Nat))] ⟨rhz, muz1⟩ = .ok (.tup [.tup (txs (List.replicate k ("a" : Str))), .str (nmS 112 0)]) ⟨rhz, muz1⟩ := fun rhz => by
      have := h16 T (ringG f k m k) (nmS 112 0) ((m - 1) :: List.replicate (k - 1) 0) muz1 (ring_lay k1 k2 m2) (isPl_of (by rw [ring_keys]; exact nms_mem (by omega))) r1 (by simp; omega)
      rw [r2] at this
      exact kCall_eq this rfl
    have ma : ∀ s, mulE s (.tup [.str "a"]) (.int (k : Nat)) = some (.tup (txs (List.replicate k ("a" : Str)))) := fun s => by
      rw [mulE_tup s k1 (by omega) (by simp) (by simp), List.flatten_replicate_singleton]
      simp [txs]
    have ee := fun s => eqB_end s (List.replicate k ("a" : Str)) (nmS 112 0) (fun x hx => by rw [(List.mem_replicate.mp hx).2]; decide +kernel) (nm_nm (by omega) (by omega) (by omega)).lay
    have sg0 : ∀ a b, sto (gameD a b) = true := fun _ _ => rfl
    simp only [seqS_ap, setS_ap, retS_ap, ifS_ap, iteS_ap, tstS_ap, tNotS_ap, tAndS_ap, tOrS_ap, andS_ap, orS_ap, notS_ap, binS_ap, unS_ap, callF_ap, callV_ap, callN_ap, consS_ap, nilS_ap, tupS_ap, lstF_ap, frzS_ap, ownS_ap, exS_ap, cS_ap, varS_ap, parA_ap, parS_inl, parS_inr, parS_nil, forS_ap, itRng_ap, itRng2_ap, itS_ap, itStr_ap, lcF_ap, slS_ap, slF_ap, noPartS_ap, partS_ap, isiS_ap, chainS_ap, nxS_ap, bkS_ap, ctS_ap, yesS_ap, orT_ap, appS_ap, popAtS_ap, dputS_ap, lputS_ap, hndS_ap, m1S_ap, asgS_ap, O.bind_ok, kVar_d, kVar_own, kB1_ap, kB2_ap, kU_ap, kAnd_t, kAnd_f, kOr_t, kOr_f, kNot_ap, kTst_ap, kTAnd_t, kTAnd_f, kTOr_t, kTOr_f, kTNot_ap, kIte_t, kIte_f, kC0_ap, kC1_ap, kC1'_t, kC1'_f, kC2_ap, kCons_ap, kCons2_ap, kTup_0, kTup_1, kTup_2, kTupB_t, kLst_0, kLst_1, kLstB_t, kFrz_ap, kCv_ap, kCn_ap, ofO_some, ofN_some, kEx_ap, kSet_ap, kSetB_t, kOwn_ap, kRet_non, kRet_bl, kRet_int, kRet_str, kRet_tup, kRet_lst, kRet_hnd, kRet_dct, kRet_ins, kRet_loc, kRet1_ap, kSeq_nx, kSeq_rt, kSeq_bk, kSeq_ct, kIt_ap, kIts_ap, seqD_lst, seqD_tup, seqD_scr, kFor_ap, tgN_ap, tgT_ap, tgsS_nil, tgsS_cons, kSl_ap, kSl1_ap, kSl2_ap, kSlF_ap, kSlF1_ap, kPart_ap, kPd_ap, kPdB_t, kPm_ap, kPc_ap, kPar_ap, putP_d, putP_m, putP_0, kHnd_ap, frzD, kAsg_ap, kAsgB_t, sto_non, sto_bl, sto_int, sto_str, sto_tup, sto_lst, sto_dct, sto_ins, sto_hnd, sto_scr, Bool.and_self, Bool.not_true, Bool.not_false, List.getElem?_cons_zero, List.getElem?_cons_succ, List.set_cons_succ, List.set_cons_zero, kM1_ap, kM1b_ap, kOrT_ap, kOrT1_t, kOrT1_f, eqD_ap, neD_ap, Option.map_some, addD_int, subD_int, gtD_int, ltD_int, cmpI_int, intD_int, intD_bl, negD_int, kStr_ap, kLput_ap, kLput1_ap, decide_true, decide_false, isCS_ap, isiC_ins, isiC_tup, isiC_non, fld_ins, fputS_ap, kFp1_ap, makeF_ap, blS_ap, kBl_ap, own2_ap, kO2_ap, lenE_lst, lenE_tup, listE_lst, listE_tup, listE_dct, strD_str, isB_ap, isNotB_ap, keySortF_ap, dcF_ap, tupleD_lst, slD_tup, slD_lst, vl_own, inA_loc, notInA_loc, lenD_loc, lenE_loc, ixA_loc, slD_loc, eqB_loc1, eqB_loc2, addD_loc1, addD_loc2, tupleD_loc, listN_loc, listE_loc, reprD_loc, joinD_loc, sortN_loc, bind_assoc, Ok_ok, and_self, true_and, and_true, permS_ap, kPerm_2, kPerm_1, eqB_int, eqB_bls, eqB_str, fzS_ap, kFz_own, lenD_lst, len_tup, txs_length, tts_length, sto_exc, tgU_ap, isiXS_ap, raiseS_ap, O.bind_err, countS_ap, indexS_ap, heardS_ap, revD_tup, revD_lst, kr, makeF_ap, mk, sto_pls, fr, hh, decide_eq_false b3, decide_eq_false b4, il, ix, lnS_ap, kl, eqB_len, le, i0, sm, sk, mz, ad, kf, ma, ee]
    exact ⟨_, _, _, _, _, rfl, P1⟩
theorem turn2 {C : Calls} (h8 : IsGInit (C 8)) (h8n : IsGNo (C 8)) (h18 : IsDrw potB (C 18)) (h21 : IsKindB (C 21)) (h24 : IsRow potB (C 24)) {n : Nat} (a0 a3 a4 : D) (s2 s5 s6 s7 s8 s9 : SV) (muz : List MO) (hP : potB (n + 300) muz) :
    Ok (bd2 C ⟨[.d a0, .d (.hnd 1), s2, .d a3, .d a4, s5, s6, s7, s8, s9], muz⟩) fun fl s => fl = .nx ∧ ∃ s5 s6 s7 s8 s9 muz', s = ⟨[.d a0, .d (.hnd 1), s2, .d a3, .d a4, s5, s6, s7, s8, s9], muz'⟩ ∧ potB n muz' := by
  unfold bd2
  obtain ⟨v, muz1, e1, v1, P1⟩ := h18 (n + 299) muz 120 hP (by omega) (by omega)
  obtain ⟨k, hk, k1, k2⟩ : ∃ k : Nat, (1 : Int) + (v : Nat) = (k : Nat) ∧ 1 ≤ k ∧ k ≤ 120 := ⟨1 + v, by omega, by omega, by omega⟩
  obtain ⟨t, muz2, e2, t1, P2⟩ := h18 (n + 298) muz1 (k : Nat) P1 (by omega) (by omega)
  obtain ⟨g, muz3, e3, p3, P3⟩ := h24 (n + 150) muz2 k t none k1 k2 (by omega) (fun x h => by cases h) (srcB.le P2 (by omega))
  obtain ⟨g', muz4, e4, p4, P4⟩ := h24 n muz3 k t (some "a") k1 k2 (by omega) (fun x h => by cases h; decide +kernel) (srcB.le P3 (by omega))
  have k1' : ∀ rhz, kCall (C 18) [.hnd 1, .int 120] ⟨rhz, muz⟩ = .ok (.int (v : Nat)) ⟨rhz, muz1⟩ := fun rhz => kCall_eq e1 rfl
  have k2' : ∀ rhz, kCall (C 18) [.hnd 1, .int (k : Nat)] ⟨rhz, muz1⟩ = .ok (.int (t : Nat)) ⟨rhz, muz2⟩ := fun rhz => kCall_eq e2 rfl
  have k3 : ∀ rhz, kCall (C 24) [.hnd 1, .int (k : Nat), .tup [.non, .int (t : Nat)]] ⟨rhz, muz2⟩ = .ok (plsD g) ⟨rhz, muz3⟩ := fun rhz => kCall_eq e3 rfl
  have k4 : ∀ rhz, kCall (C 24) [.hnd 1, .int (k : Nat), .tup [.str "a", .int (t : Nat)]] ⟨rhz, muz3⟩ = .ok (plsD g') ⟨rhz, muz4⟩ := fun rhz => kCall_eq e4 rfl
  have m3 : ∀ rhz, kMk 13 (C 8) [.tup [.str "a"], plsD g] ⟨rhz, muz3⟩ = .err { c := 7 } ⟨rhz, muz3⟩ := fun rhz => game_no h8n sg_a (.inl ⟨row_gok p3 (fun x h => by cases h) k1 k2 (by omega), row_ring p3 k1 (by omega)⟩) (srcB.fine P3) rhz
  have m4 : ∀ rhz, kMk 13 (C 8) [.tup [.str "a"], plsD g'] ⟨rhz, muz4⟩ = .ok (.mi 13 (gfs (srtT ["a"]) g')) ⟨rhz, muz4⟩ := fun rhz => game_ok h8 sg_a (row_gok p4 (fun x h => by cases h; rfl) k1 k2 (by omega)) (row_no p4) (srcB.fine P4) rhz
  have h3 : ∀ s, kHeard (fun e => (esl.map (·.1)).contains e) (f__law_heard_3S C) (.err { c := 7 } s) = .ok (.str "game") s := fun s => heardB_err h21 (e := 7) (by simp) (fun e => (esl.map (·.1)).contains e) rfl s
  have fr : ∀ a b, (D.ins 13 (gfs a b)) = gameD a b := fun _ _ => rfl
  have h4 : ∀ s T, kHeard (fun e => (esl.map (·.1)).contains e) (f__law_heard_3S C) (.ok (gameD T g') s) = .ok (.lst [gameD T g']) s := fun s T => heardB_ok _ _ rfl s
  have il : ∀ s l, isiD "list" s (.lst l) = some (.bl true) := fun s l => Eq.trans rfl rfl
  simp only [seqS_ap, setS_ap, retS_ap, ifS_ap, iteS_ap, tstS_ap, tNotS_ap, tAndS_ap, tOrS_ap, andS_ap, orS_ap, notS_ap, binS_ap, unS_ap, callF_ap, callV_ap, callN_ap, consS_ap, nilS_ap, tupS_ap, lstF_ap, frzS_ap, ownS_ap, exS_ap, cS_ap, varS_ap, parA_ap, parS_inl, parS_inr, parS_nil, forS_ap, itRng_ap, itRng2_ap, itS_ap, itStr_ap, lcF_ap, slS_ap, slF_ap, noPartS_ap, partS_ap, isiS_ap, chainS_ap, nxS_ap, bkS_ap, ctS_ap, yesS_ap, orT_ap, appS_ap, popAtS_ap, dputS_ap, lputS_ap, hndS_ap, m1S_ap, asgS_ap, O.bind_ok, kVar_d, kVar_own, kB1_ap, kB2_ap, kU_ap, kAnd_t, kAnd_f, kOr_t, kOr_f, kNot_ap, kTst_ap, kTAnd_t, kTAnd_f, kTOr_t, kTOr_f, kTNot_ap, kIte_t, kIte_f, kC0_ap, kC1_ap, kC1'_t, kC1'_f, kC2_ap, kCons_ap, kCons2_ap, kTup_0, kTup_1, kTup_2, kTupB_t, kLst_0, kLst_1, kLstB_t, kFrz_ap, kCv_ap, kCn_ap, ofO_some, ofN_some, kEx_ap, kSet_ap, kSetB_t, kOwn_ap, kRet_non, kRet_bl, kRet_int, kRet_str, kRet_tup, kRet_lst, kRet_hnd, kRet_dct, kRet_ins, kRet_loc, kRet1_ap, kSeq_nx, kSeq_rt, kSeq_bk, kSeq_ct, kIt_ap, kIts_ap, seqD_lst, seqD_tup, seqD_scr, kFor_ap, tgN_ap, tgT_ap, tgsS_nil, tgsS_cons, kSl_ap, kSl1_ap, kSl2_ap, kSlF_ap, kSlF1_ap, kPart_ap, kPd_ap, kPdB_t, kPm_ap, kPc_ap, kPar_ap, putP_d, putP_m, putP_0, kHnd_ap, frzD, kAsg_ap, kAsgB_t, sto_non, sto_bl, sto_int, sto_str, sto_tup, sto_lst, sto_dct, sto_ins, sto_hnd, sto_scr, Bool.and_self, Bool.not_true, Bool.not_false, List.getElem?_cons_zero, List.getElem?_cons_succ, List.set_cons_succ, List.set_cons_zero, kM1_ap, kM1b_ap, kOrT_ap, kOrT1_t, kOrT1_f, eqD_ap, neD_ap, Option.map_some, addD_int, subD_int, gtD_int, ltD_int, cmpI_int, intD_int, intD_bl, negD_int, kStr_ap, kLput_ap, kLput1_ap, decide_true, decide_false, isCS_ap, isiC_ins, isiC_tup, isiC_non, fld_ins, fputS_ap, kFp1_ap, makeF_ap, blS_ap, kBl_ap, own2_ap, kO2_ap, lenE_lst, lenE_tup, listE_lst, listE_tup, listE_dct, strD_str, isB_ap, isNotB_ap, keySortF_ap, dcF_ap, tupleD_lst, slD_tup, slD_lst, vl_own, inA_loc, notInA_loc, lenD_loc, lenE_loc, ixA_loc, slD_loc, eqB_loc1, eqB_loc2, addD_loc1, addD_loc2, tupleD_loc, listN_loc, listE_loc, reprD_loc, joinD_loc, sortN_loc, bind_assoc, Ok_ok, and_self, true_and, and_true, permS_ap, kPerm_2, kPerm_1, eqB_int, eqB_bls, eqB_str, fzS_ap, kFz_own, lenD_lst, len_tup, txs_length, tts_length, sto_exc, tgU_ap, isiXS_ap, raiseS_ap, O.bind_err, countS_ap, indexS_ap, heardS_ap, revD_tup, revD_lst, k1', addD_int, hk, k2', k3, makeF_ap, m3, h3, k4, m4, fr, h4, il]
  exact ⟨_, _, _, _, _, _, rfl, P4⟩
theorem law_C {C : Calls} (h8 : IsGInit (C 8)) (h8n : IsGNo (C 8)) (h10 : IsGLen (C 10)) (h16 : IsFollow (C 16)) (hd : IsDrw potB (C 18)) (h21 : IsKindB (C 21)) (h23 : IsRing potB (C 23)) (h24 : IsRow potB (C 24)) {ns : List Int} {muz0 : List MO} (e0 : C 17 [.scr ns] [] = .ok (.hnd 1) muz0) (P0 : potB 5003 muz0) :
    Ok (f_law_S C ⟨[.d (.scr ns), .un, .un, .un, .un, .un, .un, .un, .un, .un], []⟩) fun fl s => fl = .rt (.bl true) := by
  have k0 : ∀ rhz, kCall (C 17) [.scr ns] ⟨rhz, []⟩ = .ok (.hnd 1) ⟨rhz, muz0⟩ := fun rhz => kCall_eq e0 rfl
  obtain ⟨v1, muz1, e1, b1, P1⟩ := hd 5002 muz0 5 P0 (by omega) (by omega)
  obtain ⟨v2, muz2, e2, b2, P2⟩ := hd 5001 muz1 5 P1 (by omega) (by omega)
  obtain ⟨v3, muz3, e3, b3, P3⟩ := hd 5000 muz2 20 P2 (by omega) (by omega)
  have k1 : ∀ rhz, kCall (C 18) [.hnd 1, .int 5] ⟨rhz, muz0⟩ = .ok (.int (v1 : Nat)) ⟨rhz, muz1⟩ := fun rhz => kCall_eq e1 rfl
  have k2 : ∀ rhz, kCall (C 18) [.hnd 1, .int 5] ⟨rhz, muz1⟩ = .ok (.int (v2 : Nat)) ⟨rhz, muz2⟩ := fun rhz => kCall_eq e2 rfl
  have k3 : ∀ rhz, kCall (C 18) [.hnd 1, .int 20] ⟨rhz, muz2⟩ = .ok (.int (v3 : Nat)) ⟨rhz, muz3⟩ := fun rhz => kCall_eq e3 rfl
  obtain ⟨A, hA, A1, A2⟩ : ∃ k : Nat, (118 : Int) + (v1 : Nat) = (k : Nat) ∧ 1 ≤ k ∧ k ≤ 122 := ⟨118 + v1, by omega, by omega, by omega⟩
  obtain ⟨B, hB, B1, B2⟩ : ∃ k : Nat, (38 : Int) + (v2 : Nat) = (k : Nat) ∧ 1 ≤ k ∧ k ≤ 42 := ⟨38 + v2, by omega, by omega, by omega⟩
  obtain ⟨X, hX, X1, X2⟩ : ∃ k : Nat, (1 : Int) + (v3 : Nat) = (k : Nat) ∧ 1 ≤ k ∧ k ≤ 122 := ⟨1 + v3, by omega, by omega, by omega⟩
  have rg : ∀ s, kRng (.int 3) s = .ok ((List.range 3).map fun i => .int (i : Nat)) s := fun s => kRng_ap 3 s (by omega)
  unfold f_law_S
  simp only [seqS_ap, setS_ap, retS_ap, ifS_ap, iteS_ap, tstS_ap, tNotS_ap, tAndS_ap, tOrS_ap, andS_ap, orS_ap, notS_ap, binS_ap, unS_ap, callF_ap, callV_ap, callN_ap, consS_ap, nilS_ap, tupS_ap, lstF_ap, frzS_ap, ownS_ap, exS_ap, cS_ap, varS_ap, parA_ap, parS_inl, parS_inr, parS_nil, forS_ap, itRng_ap, itRng2_ap, itS_ap, itStr_ap, lcF_ap, slS_ap, slF_ap, noPartS_ap, partS_ap, isiS_ap, chainS_ap, nxS_ap, bkS_ap, ctS_ap, yesS_ap, orT_ap, appS_ap, popAtS_ap, dputS_ap, lputS_ap, hndS_ap, m1S_ap, asgS_ap, O.bind_ok, kVar_d, kVar_own, kB1_ap, kB2_ap, kU_ap, kAnd_t, kAnd_f, kOr_t, kOr_f, kNot_ap, kTst_ap, kTAnd_t, kTAnd_f, kTOr_t, kTOr_f, kTNot_ap, kIte_t, kIte_f, kC0_ap, kC1_ap, kC1'_t, kC1'_f, kC2_ap, kCons_ap, kCons2_ap, kTup_0, kTup_1, kTup_2, kTupB_t, kLst_0, kLst_1, kLstB_t, kFrz_ap, kCv_ap, kCn_ap, ofO_some, ofN_some, kEx_ap, kSet_ap, kSetB_t, kOwn_ap, kRet_non, kRet_bl, kRet_int, kRet_str, kRet_tup, kRet_lst, kRet_hnd, kRet_dct, kRet_ins, kRet_loc, kRet1_ap, kSeq_nx, kSeq_rt, kSeq_bk, kSeq_ct, kIt_ap, kIts_ap, seqD_lst, seqD_tup, seqD_scr, kFor_ap, tgN_ap, tgT_ap, tgsS_nil, tgsS_cons, kSl_ap, kSl1_ap, kSl2_ap, kSlF_ap, kSlF1_ap, kPart_ap, kPd_ap, kPdB_t, kPm_ap, kPc_ap, kPar_ap, putP_d, putP_m, putP_0, kHnd_ap, frzD, kAsg_ap, kAsgB_t, sto_non, sto_bl, sto_int, sto_str, sto_tup, sto_lst, sto_dct, sto_ins, sto_hnd, sto_scr, Bool.and_self, Bool.not_true, Bool.not_false, List.getElem?_cons_zero, List.getElem?_cons_succ, List.set_cons_succ, List.set_cons_zero, kM1_ap, kM1b_ap, kOrT_ap, kOrT1_t, kOrT1_f, eqD_ap, neD_ap, Option.map_some, addD_int, subD_int, gtD_int, ltD_int, cmpI_int, intD_int, intD_bl, negD_int, kStr_ap, kLput_ap, kLput1_ap, decide_true, decide_false, isCS_ap, isiC_ins, isiC_tup, isiC_non, fld_ins, fputS_ap, kFp1_ap, makeF_ap, blS_ap, kBl_ap, own2_ap, kO2_ap, lenE_lst, lenE_tup, listE_lst, listE_tup, listE_dct, strD_str, isB_ap, isNotB_ap, keySortF_ap, dcF_ap, tupleD_lst, slD_tup, slD_lst, vl_own, inA_loc, notInA_loc, lenD_loc, lenE_loc, ixA_loc, slD_loc, eqB_loc1, eqB_loc2, addD_loc1, addD_loc2, tupleD_loc, listN_loc, listE_loc, reprD_loc, joinD_loc, sortN_loc, bind_assoc, Ok_ok, and_self, true_and, and_true, permS_ap, kPerm_2, kPerm_1, eqB_int, eqB_bls, eqB_str, fzS_ap, kFz_own, lenD_lst, len_tup, txs_length, tts_length, sto_exc, tgU_ap, isiXS_ap, raiseS_ap, O.bind_err, countS_ap, indexS_ap, heardS_ap, revD_tup, revD_lst, k0, k1, addD_int, hA, k2, hB, k3, hX]
  refine w_lst ?_
  simp only [seqS_ap, setS_ap, retS_ap, ifS_ap, iteS_ap, tstS_ap, tNotS_ap, tAndS_ap, tOrS_ap, andS_ap, orS_ap, notS_ap, binS_ap, unS_ap, callF_ap, callV_ap, callN_ap, consS_ap, nilS_ap, tupS_ap, lstF_ap, frzS_ap, ownS_ap, exS_ap, cS_ap, varS_ap, parA_ap, parS_inl, parS_inr, parS_nil, forS_ap, itRng_ap, itRng2_ap, itS_ap, itStr_ap, lcF_ap, slS_ap, slF_ap, noPartS_ap, partS_ap, isiS_ap, chainS_ap, nxS_ap, bkS_ap, ctS_ap, yesS_ap, orT_ap, appS_ap, popAtS_ap, dputS_ap, lputS_ap, hndS_ap, m1S_ap, asgS_ap, O.bind_ok, kVar_d, kVar_own, kB1_ap, kB2_ap, kU_ap, kAnd_t, kAnd_f, kOr_t, kOr_f, kNot_ap, kTst_ap, kTAnd_t, kTAnd_f, kTOr_t, kTOr_f, kTNot_ap, kIte_t, kIte_f, kC0_ap, kC1_ap, kC1'_t, kC1'_f, kC2_ap, kCons_ap, kCons2_ap, kTup_0, kTup_1, kTup_2, kTupB_t, kLst_0, kLst_1, kLstB_t, kFrz_ap, kCv_ap, kCn_ap, ofO_some, ofN_some, kEx_ap, kSet_ap, kSetB_t, kOwn_ap, kRet_non, kRet_bl, kRet_int, kRet_str, kRet_tup, kRet_lst, kRet_hnd, kRet_dct, kRet_ins, kRet_loc, kRet1_ap, kSeq_nx, kSeq_rt, kSeq_bk, kSeq_ct, kIt_ap, kIts_ap, seqD_lst, seqD_tup, seqD_scr, kFor_ap, tgN_ap, tgT_ap, tgsS_nil, tgsS_cons, kSl_ap, kSl1_ap, kSl2_ap, kSlF_ap, kSlF1_ap, kPart_ap, kPd_ap, kPdB_t, kPm_ap, kPc_ap, kPar_ap, putP_d, putP_m, putP_0, kHnd_ap, frzD, kAsg_ap, kAsgB_t, sto_non, sto_bl, sto_int, sto_str, sto_tup, sto_lst, sto_dct, sto_ins, sto_hnd, sto_scr, Bool.and_self, Bool.not_true, Bool.not_false, List.getElem?_cons_zero, List.getElem?_cons_succ, List.set_cons_succ, List.set_cons_zero, kM1_ap, kM1b_ap, kOrT_ap, kOrT1_t, kOrT1_f, eqD_ap, neD_ap, Option.map_some, addD_int, subD_int, gtD_int, ltD_int, cmpI_int, intD_int, intD_bl, negD_int, kStr_ap, kLput_ap, kLput1_ap, decide_true, decide_false, isCS_ap, isiC_ins, isiC_tup, isiC_non, fld_ins, fputS_ap, kFp1_ap, makeF_ap, blS_ap, kBl_ap, own2_ap, kO2_ap, lenE_lst, lenE_tup, listE_lst, listE_tup, listE_dct, strD_str, isB_ap, isNotB_ap, keySortF_ap, dcF_ap, tupleD_lst, slD_tup, slD_lst, vl_own, inA_loc, notInA_loc, lenD_loc, lenE_loc, ixA_loc, slD_loc, eqB_loc1, eqB_loc2, addD_loc1, addD_loc2, tupleD_loc, listN_loc, listE_loc, reprD_loc, joinD_loc, sortN_loc, bind_assoc, Ok_ok, and_self, true_and, and_true, permS_ap, kPerm_2, kPerm_1, eqB_int, eqB_bls, eqB_str, fzS_ap, kFz_own, lenD_lst, len_tup, txs_length, tts_length, sto_exc, tgU_ap, isiXS_ap, raiseS_ap, O.bind_err, countS_ap, indexS_ap, heardS_ap, revD_tup, revD_lst]
  refine w_for (fun i s => ∃ s2 s5 s6 s7 s8 s9 muz', s = ⟨[.d (.scr ns), .d (.hnd 1), s2, .d (.int (A : Nat)), .d (.int (B : Nat)), s5, s6, s7, s8, s9], muz'⟩ ∧ potB (1000 * (5 - i)) muz') ?_ ?_ ?_
  · exact ⟨_, _, _, _, _, _, _, rfl, srcB.le P3 (by decide)⟩
  · rintro i d s hk ⟨s2, s5, s6, s7, s8, s9, muz', rfl, hP⟩
    obtain ⟨k, m, rfl, h1, h2, h3, h4⟩ : ∃ k m : Nat, d = .tup [.int (k : Nat), .int (m : Nat)] ∧ 1 ≤ k ∧ k ≤ 122 ∧ 1 ≤ m ∧ m ≤ 42 := by
      have := List.mem_of_getElem? hk
      simp only [List.mem_cons, List.not_mem_nil, or_false] at this
      rcases this with rfl | rfl | rfl | rfl
      · exact ⟨A, 1, rfl, A1, A2, by omega, by omega⟩
      · exact ⟨X, B, rfl, X1, X2, B1, B2⟩
      · exact ⟨120, 40, rfl, by omega, by omega, by omega, by omega⟩
      · exact ⟨A, B, rfl, A1, A2, B1, B2⟩
    have i4 : i < 4 := (List.getElem?_eq_some_iff.mp hk).1
    simp only [tgT_ap, tgsS_nil, tgsS_cons, tgN_ap, O.bind_ok, List.set_cons_succ, List.set_cons_zero]
    refine (turn1 h8 h8n h10 h16 h21 h23 h1 h2 h3 h4 _ _ _ s2 s7 s8 s9 muz' (n := 1000 * (5 - (i + 1))) (srcB.le hP (by omega))).mono ?_
    rintro fl s ⟨rfl, t5, t6, t7, t8, muz4, rfl, hP2⟩
    exact ⟨rfl, _, _, _, _, _, _, _, rfl, hP2⟩
  · rintro s ⟨s2, s5, s6, s7, s8, s9, muz', rfl, hP⟩
    simp only [seqS_ap, setS_ap, retS_ap, ifS_ap, iteS_ap, tstS_ap, tNotS_ap, tAndS_ap, tOrS_ap, andS_ap, orS_ap, notS_ap, binS_ap, unS_ap, callF_ap, callV_ap, callN_ap, consS_ap, nilS_ap, tupS_ap, lstF_ap, frzS_ap, ownS_ap, exS_ap, cS_ap, varS_ap, parA_ap, parS_inl, parS_inr, parS_nil, forS_ap, itRng_ap, itRng2_ap, itS_ap, itStr_ap, lcF_ap, slS_ap, slF_ap, noPartS_ap, partS_ap, isiS_ap, chainS_ap, nxS_ap, bkS_ap, ctS_ap, yesS_ap, orT_ap, appS_ap, popAtS_ap, dputS_ap, lputS_ap, hndS_ap, m1S_ap, asgS_ap, O.bind_ok, kVar_d, kVar_own, kB1_ap, kB2_ap, kU_ap, kAnd_t, kAnd_f, kOr_t, kOr_f, kNot_ap, kTst_ap, kTAnd_t, kTAnd_f, kTOr_t, kTOr_f, kTNot_ap, kIte_t, kIte_f, kC0_ap, kC1_ap, kC1'_t, kC1'_f, kC2_ap, kCons_ap, kCons2_ap, kTup_0, kTup_1, kTup_2, kTupB_t, kLst_0, kLst_1, kLstB_t, kFrz_ap, kCv_ap, kCn_ap, ofO_some, ofN_some, kEx_ap, kSet_ap, kSetB_t, kOwn_ap, kRet_non, kRet_bl, kRet_int, kRet_str, kRet_tup, kRet_lst, kRet_hnd, kRet_dct, kRet_ins, kRet_loc, kRet1_ap, kSeq_nx, kSeq_rt, kSeq_bk, kSeq_ct, kIt_ap, kIts_ap, seqD_lst, seqD_tup, seqD_scr, kFor_ap, tgN_ap, tgT_ap, tgsS_nil, tgsS_cons, kSl_ap, kSl1_ap, kSl2_ap, kSlF_ap, kSlF1_ap, kPart_ap, kPd_ap, kPdB_t, kPm_ap, kPc_ap, kPar_ap, putP_d, putP_m, putP_0, kHnd_ap, frzD, kAsg_ap, kAsgB_t, sto_non, sto_bl, sto_int, sto_str, sto_tup, sto_lst, sto_dct, sto_ins, sto_hnd, sto_scr, Bool.and_self, Bool.not_true, Bool.not_false, List.getElem?_cons_zero, List.getElem?_cons_succ, List.set_cons_succ, List.set_cons_zero, kM1_ap, kM1b_ap, kOrT_ap, kOrT1_t, kOrT1_f, eqD_ap, neD_ap, Option.map_some, addD_int, subD_int, gtD_int, ltD_int, cmpI_int, intD_int, intD_bl, negD_int, kStr_ap, kLput_ap, kLput1_ap, decide_true, decide_false, isCS_ap, isiC_ins, isiC_tup, isiC_non, fld_ins, fputS_ap, kFp1_ap, makeF_ap, blS_ap, kBl_ap, own2_ap, kO2_ap, lenE_lst, lenE_tup, listE_lst, listE_tup, listE_dct, strD_str, isB_ap, isNotB_ap, keySortF_ap, dcF_ap, tupleD_lst, slD_tup, slD_lst, vl_own, inA_loc, notInA_loc, lenD_loc, lenE_loc, ixA_loc, slD_loc, eqB_loc1, eqB_loc2, addD_loc1, addD_loc2, tupleD_loc, listN_loc, listE_loc, reprD_loc, joinD_loc, sortN_loc, bind_assoc, Ok_ok, and_self, true_and, and_true, permS_ap, kPerm_2, kPerm_1, eqB_int, eqB_bls, eqB_str, fzS_ap, kFz_own, lenD_lst, len_tup, txs_length, tts_length, sto_exc, tgU_ap, isiXS_ap, raiseS_ap, O.bind_err, countS_ap, indexS_ap, heardS_ap, revD_tup, revD_lst, rg]
    refine w_for (fun i s => ∃ s2 s5 s6 s7 s8 s9 muz', s = ⟨[.d (.scr ns), .d (.hnd 1), s2, .d (.int (A : Nat)), .d (.int (B : Nat)), s5, s6, s7, s8, s9], muz'⟩ ∧ potB (300 * (3 - i)) muz') ?_ ?_ ?_
    · exact ⟨_, _, _, _, _, _, _, rfl, srcB.le hP (by simp)⟩
    · rintro i d s hk ⟨s2, s5, s6, s7, s8, s9, muz', rfl, hP⟩
      have i3 : i < 3 := by
        have := (List.getElem?_eq_some_iff.mp hk).1
        simpa using this
      simp only [tgN_ap, O.bind_ok, List.set_cons_succ, List.set_cons_zero]
      refine (turn2 h8 h8n hd h21 h24 _ _ _ _ s5 s6 s7 s8 s9 muz' (n := 300 * (3 - (i + 1))) (srcB.le hP (by omega))).mono ?_
      rintro fl s ⟨rfl, t5, t6, t7, t8, t9, muz4, rfl, hP2⟩
      exact ⟨rfl, _, _, _, _, _, _, _, rfl, hP2⟩
    · rintro s ⟨s2, s5, s6, s7, s8, s9, muz', rfl, _⟩
      simp only [seqS_ap, setS_ap, retS_ap, ifS_ap, iteS_ap, tstS_ap, tNotS_ap, tAndS_ap, tOrS_ap, andS_ap, orS_ap, notS_ap, binS_ap, unS_ap, callF_ap, callV_ap, callN_ap, consS_ap, nilS_ap, tupS_ap, lstF_ap, frzS_ap, ownS_ap, exS_ap, cS_ap, varS_ap, parA_ap, parS_inl, parS_inr, parS_nil, forS_ap, itRng_ap, itRng2_ap, itS_ap, itStr_ap, lcF_ap, slS_ap, slF_ap, noPartS_ap, partS_ap, isiS_ap, chainS_ap, nxS_ap, bkS_ap, ctS_ap, yesS_ap, orT_ap, appS_ap, popAtS_ap, dputS_ap, lputS_ap, hndS_ap, m1S_ap, asgS_ap, O.bind_ok, kVar_d, kVar_own, kB1_ap, kB2_ap, kU_ap, kAnd_t, kAnd_f, kOr_t, kOr_f, kNot_ap, kTst_ap, kTAnd_t, kTAnd_f, kTOr_t, kTOr_f, kTNot_ap, kIte_t, kIte_f, kC0_ap, kC1_ap, kC1'_t, kC1'_f, kC2_ap, kCons_ap, kCons2_ap, kTup_0, kTup_1, kTup_2, kTupB_t, kLst_0, kLst_1, kLstB_t, kFrz_ap, kCv_ap, kCn_ap, ofO_some, ofN_some, kEx_ap, kSet_ap, kSetB_t, kOwn_ap, kRet_non, kRet_bl, kRet_int, kRet_str, kRet_tup, kRet_lst, kRet_hnd, kRet_dct, kRet_ins, kRet_loc, kRet1_ap, kSeq_nx, kSeq_rt, kSeq_bk, kSeq_ct, kIt_ap, kIts_ap, seqD_lst, seqD_tup, seqD_scr, kFor_ap, tgN_ap, tgT_ap, tgsS_nil, tgsS_cons, kSl_ap, kSl1_ap, kSl2_ap, kSlF_ap, kSlF1_ap, kPart_ap, kPd_ap, kPdB_t, kPm_ap, kPc_ap, kPar_ap, putP_d, putP_m, putP_0, kHnd_ap, frzD, kAsg_ap, kAsgB_t, sto_non, sto_bl, sto_int, sto_str, sto_tup, sto_lst, sto_dct, sto_ins, sto_hnd, sto_scr, Bool.and_self, Bool.not_true, Bool.not_false, List.getElem?_cons_zero, List.getElem?_cons_succ, List.set_cons_succ, List.set_cons_zero, kM1_ap, kM1b_ap, kOrT_ap, kOrT1_t, kOrT1_f, eqD_ap, neD_ap, Option.map_some, addD_int, subD_int, gtD_int, ltD_int, cmpI_int, intD_int, intD_bl, negD_int, kStr_ap, kLput_ap, kLput1_ap, decide_true, decide_false, isCS_ap, isiC_ins, isiC_tup, isiC_non, fld_ins, fputS_ap, kFp1_ap, makeF_ap, blS_ap, kBl_ap, own2_ap, kO2_ap, lenE_lst, lenE_tup, listE_lst, listE_tup, listE_dct, strD_str, isB_ap, isNotB_ap, keySortF_ap, dcF_ap, tupleD_lst, slD_tup, slD_lst, vl_own, inA_loc, notInA_loc, lenD_loc, lenE_loc, ixA_loc, slD_loc, eqB_loc1, eqB_loc2, addD_loc1, addD_loc2, tupleD_loc, listN_loc, listE_loc, reprD_loc, joinD_loc, sortN_loc, bind_assoc, Ok_ok, and_self, true_and, and_true, permS_ap, kPerm_2, kPerm_1, eqB_int, eqB_bls, eqB_str, fzS_ap, kFz_own, lenD_lst, len_tup, txs_length, tts_length, sto_exc, tgU_ap, isiXS_ap, raiseS_ap, O.bind_err, countS_ap, indexS_ap, heardS_ap, revD_tup, revD_lst]
theorem pure_law (ns : List Int) (hl : ns.length ≤ 63) : ∃ muz, callK body (KK + 1) 25 [.scr ns] [] = .ok (.bl true) muz := by
  obtain ⟨muz0, e0, P0⟩ := s_law_begin KK (by decide) ns hl
  have w := law_C (C := callK body KK) (s_Game___init__ KK (by decide)) (s_Game___init___no KK (by decide)) (s_Game___len__ KK (by decide)) (s_follow KK (by decide)) (s_law_draw KK (by decide)) (s_law_kind KK (by decide)) (s_ring KK (by decide)) (s_row KK (by decide)) e0 (srcB.le P0 (by decide))
  obtain ⟨fl, s, e, rfl⟩ := w.ex
  have q : runD 10 1 (f_law_S (callK body KK)) [.scr ns] [] = .ok (.bl true) s.muz := runD_eq (n := 10) (ds := [.scr ns]) rfl e
  exact ⟨s.muz, q⟩
end AG.K42
set_option Elab.async false
set_option linter.all false
set_option maxRecDepth 100000
set_option maxHeartbeats 0
namespace AG.K42
open PySem L2 PySem.Spec PyProof.Rows AG
abbrev top (i : Nat) : Stmt := PySem.Challenge.pw_againtrees_k42_great_games.main.body.getD i (.Pass ⟨0, 0, 0, 0⟩)
def f_NotPlain___init___D : He.DefD := ⟨("NotPlain", some "__init__"), "__init__", "NotPlain.__init__", defArgs (inClass (top 6) 0), defBody (inClass (top 6) 0), defScope (inClass (top 6) 0), [], []⟩
def f_is_name_D : He.DefD := ⟨("is_name", none), "is_name", "is_name", defArgs (top 11), defBody (top 11), defScope (top 11), [], []⟩
def f_are_signals_D : He.DefD := ⟨("are_signals", none), "are_signals", "are_signals", defArgs (top 12), defBody (top 12), defScope (top 12), [], []⟩
def f_is_number_D : He.DefD := ⟨("is_number", none), "is_number", "is_number", defArgs (top 18), defBody (top 18), defScope (top 18), [], []⟩
def f_is_player_D : He.DefD := ⟨("is_player", none), "is_player", "is_player", defArgs (top 19), defBody (top 19), defScope (top 19), [], []⟩
def f_are_moves_D : He.DefD := ⟨("are_moves", none), "are_moves", "are_moves", defArgs (top 20), defBody (top 20), defScope (top 20), [], []⟩
def f_are_places_D : He.DefD := ⟨("are_places", none), "are_places", "are_places", defArgs (top 21), defBody (top 21), defScope (top 21), [], []⟩
def f_has_silent_ring_D : He.DefD := ⟨("has_silent_ring", none), "has_silent_ring", "has_silent_ring", defArgs (top 22), defBody (top 22), defScope (top 22), [], []⟩
def f_Game___init___D : He.DefD := ⟨("Game", some "__init__"), "__init__", "Game.__init__", defArgs (inClass (top 23) 0), defBody (inClass (top 23) 0), defScope (inClass (top 23) 0), [], []⟩
def f_Game_places_D : He.DefD := ⟨("Game", some "__len__"), "__len__", "Game.__len__", defArgs (inClass (top 23) 2), defBody (inClass (top 23) 2), defScope (inClass (top 23) 2), [], []⟩
def f_Game___len___D : He.DefD := ⟨("Game", some "__len__"), "__len__", "Game.__len__", defArgs (inClass (top 23) 2), defBody (inClass (top 23) 2), defScope (inClass (top 23) 2), [], []⟩
def f_Game___getitem___D : He.DefD := ⟨("Game", some "__getitem__"), "__getitem__", "Game.__getitem__", defArgs (inClass (top 23) 3), defBody (inClass (top 23) 3), defScope (inClass (top 23) 3), [], []⟩
def f_Game___iter___D : He.DefD := ⟨("Game", some "__iter__"), "__iter__", "Game.__iter__", defArgs (inClass (top 23) 4), defBody (inClass (top 23) 4), defScope (inClass (top 23) 4), [], []⟩
def f_Game___eq___D : He.DefD := ⟨("Game", some "__eq__"), "__eq__", "Game.__eq__", defArgs (inClass (top 23) 5), defBody (inClass (top 23) 5), defScope (inClass (top 23) 5), [], []⟩
def f_need_place_D : He.DefD := ⟨("need_place", none), "need_place", "need_place", defArgs (top 24), defBody (top 24), defScope (top 24), [], []⟩
def f_gone_D : He.DefD := ⟨("gone", none), "gone", "gone", defArgs (top 25), defBody (top 25), defScope (top 25), [], []⟩
def f_follow_D : He.DefD := ⟨("follow", none), "follow", "follow", defArgs (top 26), defBody (top 26), defScope (top 26), [], []⟩
def f__law_begin_D : He.DefD := ⟨("_law_begin", none), "_law_begin", "_law_begin", defArgs (top 28), defBody (top 28), defScope (top 28), [], []⟩
def f__law_draw_D : He.DefD := ⟨("_law_draw", none), "_law_draw", "_law_draw", defArgs (top 29), defBody (top 29), defScope (top 29), [], []⟩
def f__law_pick_D : He.DefD := ⟨("_law_pick", none), "_law_pick", "_law_pick", defArgs (top 30), defBody (top 30), defScope (top 30), [], []⟩
def f__law_mixed_D : He.DefD := ⟨("_law_mixed", none), "_law_mixed", "_law_mixed", defArgs (top 31), defBody (top 31), defScope (top 31), [], []⟩
def f__law_kind_D : He.DefD := ⟨("_law_kind", none), "_law_kind", "_law_kind", defArgs (top 32), defBody (top 32), defScope (top 32), [], []⟩
def f__law_heard_D : He.DefD := ⟨("_law_heard", none), "_law_heard", "_law_heard", defArgs (top 33), defBody (top 33), defScope (top 33), [], []⟩
def f__law_ring_D : He.DefD := ⟨("_law_ring", none), "_law_ring", "_law_ring", defArgs (top 34), defBody (top 34), defScope (top 34), [], []⟩
def f__law_row_D : He.DefD := ⟨("_law_row", none), "_law_row", "_law_row", defArgs (top 35), defBody (top 35), defScope (top 35), [], []⟩
def f_law_D : He.DefD := ⟨("law", none), "law", "law", defArgs (top 36), defBody (top 36), defScope (top 36), [], []⟩
def fn : List He.DefD := [f_NotPlain___init___D, f_is_name_D, f_are_signals_D, f_is_number_D, f_is_player_D, f_are_moves_D, f_are_places_D, f_has_silent_ring_D, f_Game___init___D, f_Game_places_D, f_Game___len___D, f_Game___getitem___D, f_Game___iter___D, f_Game___eq___D, f_need_place_D, f_gone_D, f_follow_D, f__law_begin_D, f__law_draw_D, f__law_pick_D, f__law_mixed_D, f__law_kind_D, f__law_heard_D, f__law_ring_D, f__law_row_D, f_law_D]
def fa : List He.Fa := [.free "isinstance",
  .free "str",
  .free "len",
  .int "LONGEST" 6,
  .str "LETTERS" "abcdefghijklmnopqrstuvwxyz",
  .free "all",
  .free "tuple",
  .int "MOST_SIGNALS" 5,
  .glo "is_name",
  .free "set",
  .free "int",
  .free "bool",
  .str "BREAKER" "breaker",
  .str "KEEPER" "keeper",
  .int "MOST_MOVES" 40,
  .free "dict",
  .int "MOST_PLACES" 120,
  .glo "is_player",
  .glo "are_moves",
  .free "list",
  .free "any",
  .glo "are_signals",
  .glo "are_places",
  .glo "has_silent_ring",
  .exc "NoGame",
  .glo "NoGame",
  .free "sorted",
  .cls "Game",
  .noat "Game" "signals",
  .noat "Game" "held",
  .exc "NoPlan",
  .glo "NoPlan",
  .glo "is_number",
  .glo "need_place",
  .glo "gone",
  .free "abs",
  .glo "_law_draw",
  .glo "NotPlain",
  .glo "NoCondition",
  .glo "TooMany",
  .glo "_law_kind",
  .free "range",
  .free "enumerate",
  .glo "_law_pick",
  .glo "_law_mixed",
  .glo "_law_begin",
  .glo "_law_ring",
  .glo "Game",
  .mkr "Game",
  .glo "_law_heard",
  .glo "AgainError",
  .meth "Game" "__len__",
  .glo "follow",
  .glo "_law_row",
  .glo "law"]
def cn : List Str := ["AgainError", "NoCondition", "NoRun", "NoTree", "NoWatcher", "NotRight", "NotPlain", "NoGame", "NoPlan", "NoText", "NoClause", "Condition", "Watcher", "Game", "Plan", "Part", "Turns", "Reader", "Sheet", "Block", "Console", "TooMany"]
def tf : List He.DefD := [f_law_D]
def exs : List Str := ["NoGame", "NoPlan", "NotPlain", "TooMany", "NoCondition"]
abbrev gOf (K : PySem.W.Frag) (P : Program) (w : World) : Cfg := ⟨K, fun c => He.ga K (cn.getD c ""), P, w, TOf K tf⟩
section
variable {P : Program} {w : World} {K : PySem.W.Frag} {mg : Str → Option Value} {base : Heap}
theorem excs_ok (L : Tl tf exs (gOf K P w) mg base) : ∀ p ∈ esl, excB (gOf K P w).K exs p.2 = true ∧ (gOf K P w).CA p.1 = He.ga (gOf K P w).K p.2 := by
  intro p hp
  simp only [esl, List.mem_cons, List.not_mem_nil, or_false] at hp
  rcases hp with rfl | rfl | rfl | rfl | rfl <;> exact ⟨L.exc _ (by decide) (by decide), rfl⟩
abbrev f_NotPlain___init___N : List Str := ["self", "loops"]
theorem f_NotPlain___init___sc : FnScope f_NotPlain___init___N (f_NotPlain___init___N.take 2) f_NotPlain___init___D.scope := ⟨rfl, rfl, rfl, by decide +kernel, rfl, by decide +kernel, by decide +kernel⟩
theorem f_NotPlain___init___B (T : Tx fa fn (gOf K P w) mg) (L : Tl tf exs (gOf K P w) mg base) {k : Nat} {C : Calls} {cdv : Value} {A : Around} {outer : List Env} {s : Shared} {H : Hp} {E : XK} (hcd : cdv = .ref (He.codeOf K f_NotPlain___init___D.at_)) (B : Tab P w (gOf K P w) mg base fn k C) (hr : Room (k + 1) (A.deeper (envOfC f_NotPlain___init___D.qual f_NotPlain___init___D.scope s.heap.objs.size (He.fAd K f_NotPlain___init___D.at_) cdv)) ∧ A.guards = some []) :
    PSs (cxOf (L2.CX P w) P w K mg base f_NotPlain___init___N f_NotPlain___init___D.qual f_NotPlain___init___D.scope (He.fAd K f_NotPlain___init___D.at_) cdv A outer s H E) f_NotPlain___init___D.body (TSof (gOf K P w) (fun cls dd _ H => E cls dd H) (f_NotPlain___init___S C)) :=
  pss_dead
theorem f_NotPlain___init___1 (T : Tx fa fn (gOf K P w) mg) (L : Tl tf exs (gOf K P w) mg base) : Def1 P w (gOf K P w) mg base fn f_NotPlain___init___D f_NotPlain___init___N 2 f_NotPlain___init___S := ⟨T.says.def_ 0, rfl, f_NotPlain___init___sc, by decide, fun _ _ _ _ _ _ us hl => match us, hl with | [_, _], _ => rfl, fun _ _ _ _ _ _ _ _ hcd B hr => f_NotPlain___init___B T L hcd B (lo3 hr)⟩
abbrev f_is_name_N : List Str := ["thing", "sign"]
theorem f_is_name_sc : FnScope f_is_name_N (f_is_name_N.take 1) f_is_name_D.scope := ⟨rfl, rfl, rfl, by decide +kernel, rfl, by decide +kernel, by decide +kernel⟩
theorem f_is_name_B (T : Tx fa fn (gOf K P w) mg) (L : Tl tf exs (gOf K P w) mg base) {k : Nat} {C : Calls} {cdv : Value} {A : Around} {outer : List Env} {s : Shared} {H : Hp} {E : XK} (hcd : cdv = .ref (He.codeOf K f_is_name_D.at_)) (B : Tab P w (gOf K P w) mg base fn k C) (hr : Room (k + 1) (A.deeper (envOfC f_is_name_D.qual f_is_name_D.scope s.heap.objs.size (He.fAd K f_is_name_D.at_) cdv)) ∧ A.guards = some []) :
    PSs (cxOf (L2.CX P w) P w K mg base f_is_name_N f_is_name_D.qual f_is_name_D.scope (He.fAd K f_is_name_D.at_) cdv A outer s H E) f_is_name_D.body (TSof (gOf K P w) (fun cls dd _ H => E cls dd H) (f_is_name_S C)) :=
  (s_cons (s_if (PW.pt (t_or (t_not (t_val (x_isi rfl (pe_callB cr_isi (by rfl) (T.free 0) (by decide +kernel) (pa_cons (xv 0) (pa_cons (pe_bltn (v := .ty "str") (by rfl) (T.free 1) (by decide +kernel) rfl) pa_nil)))))) (t_or1 (t_not (t_chain (od_cmpI _) (od_cmpI _) (pt_chain op_le op_le x_int (x_cb cd_len (pe_callB cr_len (by rfl) (T.free 2) boot_len (a_cons (xv 0) a_nil))) (x_gint (T.int 3)))))))) (s_one (s_ret (ps_ret x_bl))) s_nil)
    (s_one (s_ret (ps_ret (x_cb cd_all (pe_callB (cr_all rfl) (by rfl) (T.free 5) (by decide +kernel) (a_cons (x_frz (f_lc yes_tt (pe_lc (own := [("sign", 1)]) rfl f_is_name_sc.nd (i_str (pi_str (xv 0))) (blkOk_by (N := f_is_name_N) (sc := f_is_name_D.scope) (by decide +kernel)) (fun _ _ _ _ _ => (g_name (pg_name (i := 1) f_is_name_sc.nd rfl (by first | exact Or.inl rfl | exact Or.inr rfl)))) (fun _ _ _ _ _ => pts_nil) (fun _ _ _ _ _ => (x_cmp (or_inA ((u65 hr))) (od_inA rfl) (xv 1) (x_gstr (T.str 4))))))) a_nil)))))))
theorem f_is_name_1 (T : Tx fa fn (gOf K P w) mg) (L : Tl tf exs (gOf K P w) mg base) : Def1 P w (gOf K P w) mg base fn f_is_name_D f_is_name_N 1 f_is_name_S := ⟨T.says.def_ 1, rfl, f_is_name_sc, by decide, fun _ _ _ _ _ _ us hl => match us, hl with | [_], _ => rfl, fun _ _ _ _ _ _ _ _ hcd B hr => f_is_name_B T L hcd B (lo3 hr)⟩
abbrev f_are_signals_N : List Str := ["thing", "name"]
theorem f_are_signals_sc : FnScope f_are_signals_N (f_are_signals_N.take 1) f_are_signals_D.scope := ⟨rfl, rfl, rfl, by decide +kernel, rfl, by decide +kernel, by decide +kernel⟩
theorem f_are_signals_B (T : Tx fa fn (gOf K P w) mg) (L : Tl tf exs (gOf K P w) mg base) {k : Nat} {C : Calls} {cdv : Value} {A : Around} {outer : List Env} {s : Shared} {H : Hp} {E : XK} (hcd : cdv = .ref (He.codeOf K f_are_signals_D.at_)) (B : Tab P w (gOf K P w) mg base fn k C) (hr : Room (k + 1) (A.deeper (envOfC f_are_signals_D.qual f_are_signals_D.scope s.heap.objs.size (He.fAd K f_are_signals_D.at_) cdv)) ∧ A.guards = some []) :
    PSs (cxOf (L2.CX P w) P w K mg base f_are_signals_N f_are_signals_D.qual f_are_signals_D.scope (He.fAd K f_are_signals_D.at_) cdv A outer s H E) f_are_signals_D.body (TSof (gOf K P w) (fun cls dd _ H => E cls dd H) (f_are_signals_S C)) :=
  (s_cons (s_if (PW.pt (t_or (t_not (t_val (x_isi rfl (pe_callB cr_isi (by rfl) (T.free 0) (by decide +kernel) (pa_cons (xv 0) (pa_cons (pe_bltn (v := .ty "tuple") (by rfl) (T.free 6) (by decide +kernel) rfl) pa_nil)))))) (t_or1 (t_not (t_chain (od_cmpI _) (od_cmpI _) (pt_chain op_le op_le x_int (x_cb cd_lenE (pe_callB cr_lenE (by rfl) (T.free 2) boot_len (a_cons (xv 0) a_nil))) (x_gint (T.int 7)))))))) (s_one (s_ret (ps_ret x_bl))) s_nil)
    (s_one (s_ret (ps_ret (x_and (x_cb cd_all (pe_callB (cr_all rfl) (by rfl) (T.free 5) (by decide +kernel) (a_cons (x_frz (f_lc yes_tt (pe_lc (own := [("name", 1)]) rfl f_are_signals_sc.nd (i_seq (pi_list (xv 0)) (pi_tup (xv 0)) rfl) (blkOk_by (N := f_are_signals_N) (sc := f_are_signals_D.scope) (by decide +kernel)) (fun _ _ _ _ _ => (g_name (pg_name (i := 1) f_are_signals_sc.nd rfl (by first | exact Or.inl rfl | exact Or.inr rfl)))) (fun _ _ _ _ _ => pts_nil) (fun _ _ _ _ _ => (x_fn 1 T B 8 hr L2.takes0 (a_cons (xv 1) a_nil)))))) a_nil))) (x_one (x_cmp (or_eq (u64 hr)) (od_eq rfl) (x_cb cd_lenE (pe_callB cr_lenE (by rfl) (T.free 2) boot_len (a_cons (x_cb cd_set (pe_callTy (cr_set rfl) (by rfl) (T.free 9) (by decide +kernel) (a_cons (xv 0) a_nil))) a_nil))) (x_cb cd_lenE (pe_callB cr_lenE (by rfl) (T.free 2) boot_len (a_cons (xv 0) a_nil))))))))))
theorem f_are_signals_1 (T : Tx fa fn (gOf K P w) mg) (L : Tl tf exs (gOf K P w) mg base) : Def1 P w (gOf K P w) mg base fn f_are_signals_D f_are_signals_N 1 f_are_signals_S := ⟨T.says.def_ 2, rfl, f_are_signals_sc, by decide, fun _ _ _ _ _ _ us hl => match us, hl with | [_], _ => rfl, fun _ _ _ _ _ _ _ _ hcd B hr => f_are_signals_B T L hcd B (lo3 hr)⟩
abbrev f_is_number_N : List Str := ["thing", "low", "high"]
theorem f_is_number_sc : FnScope f_is_number_N (f_is_number_N.take 3) f_is_number_D.scope := ⟨rfl, rfl, rfl, by decide +kernel, rfl, by decide +kernel, by decide +kernel⟩
theorem f_is_number_B (T : Tx fa fn (gOf K P w) mg) (L : Tl tf exs (gOf K P w) mg base) {k : Nat} {C : Calls} {cdv : Value} {A : Around} {outer : List Env} {s : Shared} {H : Hp} {E : XK} (hcd : cdv = .ref (He.codeOf K f_is_number_D.at_)) (B : Tab P w (gOf K P w) mg base fn k C) (hr : Room (k + 1) (A.deeper (envOfC f_is_number_D.qual f_is_number_D.scope s.heap.objs.size (He.fAd K f_is_number_D.at_) cdv)) ∧ A.guards = some []) :
    PSs (cxOf (L2.CX P w) P w K mg base f_is_number_N f_is_number_D.qual f_is_number_D.scope (He.fAd K f_is_number_D.at_) cdv A outer s H E) f_is_number_D.body (TSof (gOf K P w) (fun cls dd _ H => E cls dd H) (f_is_number_S C)) :=
  (s_one (s_ret (ps_ret (x_and (x_isi rfl (pe_callB cr_isi (by rfl) (T.free 0) (by decide +kernel) (pa_cons (xv 0) (pa_cons (pe_bltn (v := .ty "int") (by rfl) (T.free 10) (by decide +kernel) rfl) pa_nil)))) (x_and (x_not (x_isi rfl (pe_callB cr_isi (by rfl) (T.free 0) (by decide +kernel) (pa_cons (xv 0) (pa_cons (pe_bltn (v := .ty "bool") (by rfl) (T.free 11) (by decide +kernel) rfl) pa_nil))))) (x_one (x_chain (od_cmpI _) (od_cmpI _) (pe_chain op_le op_le (xv 1) (xv 0) (xv 2)))))))))
theorem f_is_number_1 (T : Tx fa fn (gOf K P w) mg) (L : Tl tf exs (gOf K P w) mg base) : Def1 P w (gOf K P w) mg base fn f_is_number_D f_is_number_N 3 f_is_number_S := ⟨T.says.def_ 3, rfl, f_is_number_sc, by decide, fun _ _ _ _ _ _ us hl => match us, hl with | [_, _, _], _ => rfl, fun _ _ _ _ _ _ _ _ hcd B hr => f_is_number_B T L hcd B (lo3 hr)⟩
abbrev f_is_player_N : List Str := ["thing"]
theorem f_is_player_sc : FnScope f_is_player_N (f_is_player_N.take 1) f_is_player_D.scope := ⟨rfl, rfl, rfl, by decide +kernel, rfl, by decide +kernel, by decide +kernel⟩
theorem f_is_player_B (T : Tx fa fn (gOf K P w) mg) (L : Tl tf exs (gOf K P w) mg base) {k : Nat} {C : Calls} {cdv : Value} {A : Around} {outer : List Env} {s : Shared} {H : Hp} {E : XK} (hcd : cdv = .ref (He.codeOf K f_is_player_D.at_)) (B : Tab P w (gOf K P w) mg base fn k C) (hr : Room (k + 1) (A.deeper (envOfC f_is_player_D.qual f_is_player_D.scope s.heap.objs.size (He.fAd K f_is_player_D.at_) cdv)) ∧ A.guards = some []) :
    PSs (cxOf (L2.CX P w) P w K mg base f_is_player_N f_is_player_D.qual f_is_player_D.scope (He.fAd K f_is_player_D.at_) cdv A outer s H E) f_is_player_D.body (TSof (gOf K P w) (fun cls dd _ H => E cls dd H) (f_is_player_S C)) :=
  (s_one (s_ret (ps_ret (x_and (x_isi rfl (pe_callB cr_isi (by rfl) (T.free 0) (by decide +kernel) (pa_cons (xv 0) (pa_cons (pe_bltn (v := .ty "str") (by rfl) (T.free 1) (by decide +kernel) rfl) pa_nil)))) (x_one (x_cmp (or_inA ((u65 hr))) (od_inA rfl) (xv 0) (x_tup (a_cons (x_gstr (T.str 13)) (a_cons (x_gstr (T.str 12)) a_nil)))))))))
theorem f_is_player_1 (T : Tx fa fn (gOf K P w) mg) (L : Tl tf exs (gOf K P w) mg base) : Def1 P w (gOf K P w) mg base fn f_is_player_D f_is_player_N 1 f_is_player_S := ⟨T.says.def_ 4, rfl, f_is_player_sc, by decide, fun _ _ _ _ _ _ us hl => match us, hl with | [_], _ => rfl, fun _ _ _ _ _ _ _ _ hcd B hr => f_is_player_B T L hcd B (lo3 hr)⟩
abbrev f_are_moves_N : List Str := ["signals", "places", "thing", "move"]
theorem f_are_moves_sc : FnScope f_are_moves_N (f_are_moves_N.take 3) f_are_moves_D.scope := ⟨rfl, rfl, rfl, by decide +kernel, rfl, by decide +kernel, by decide +kernel⟩
theorem f_are_moves_B (T : Tx fa fn (gOf K P w) mg) (L : Tl tf exs (gOf K P w) mg base) {k : Nat} {C : Calls} {cdv : Value} {A : Around} {outer : List Env} {s : Shared} {H : Hp} {E : XK} (hcd : cdv = .ref (He.codeOf K f_are_moves_D.at_)) (B : Tab P w (gOf K P w) mg base fn k C) (hr : Room (k + 1) (A.deeper (envOfC f_are_moves_D.qual f_are_moves_D.scope s.heap.objs.size (He.fAd K f_are_moves_D.at_) cdv)) ∧ A.guards = some []) :
    PSs (cxOf (L2.CX P w) P w K mg base f_are_moves_N f_are_moves_D.qual f_are_moves_D.scope (He.fAd K f_are_moves_D.at_) cdv A outer s H E) f_are_moves_D.body (TSof (gOf K P w) (fun cls dd _ H => E cls dd H) (f_are_moves_S C)) :=
  (s_cons (s_if (PW.pt (t_or (t_not (t_val (x_isi rfl (pe_callB cr_isi (by rfl) (T.free 0) (by decide +kernel) (pa_cons (xv 2) (pa_cons (pe_bltn (v := .ty "tuple") (by rfl) (T.free 6) (by decide +kernel) rfl) pa_nil)))))) (t_or1 (t_not (t_chain (od_cmpI _) (od_cmpI _) (pt_chain op_le op_le x_int (x_cb cd_lenE (pe_callB cr_lenE (by rfl) (T.free 2) boot_len (a_cons (xv 2) a_nil))) (x_gint (T.int 14)))))))) (s_one (s_ret (ps_ret x_bl))) s_nil)
    (s_cons (s_for (ws := [3]) (tgN_ne 3) (ps_for owns_cx rfl (i_seq (pi_list (xv 2)) (pi_tup (xv 2)) rfl) (g_name (pg_name (i := 3) f_are_moves_sc.nd rfl (by first | exact Or.inl rfl | exact Or.inr rfl))) (s_cons (s_if (PW.pt (t_or (t_not (t_val (x_isi rfl (pe_callB cr_isi (by rfl) (T.free 0) (by decide +kernel) (pa_cons (xv 3) (pa_cons (pe_bltn (v := .ty "tuple") (by rfl) (T.free 6) (by decide +kernel) rfl) pa_nil)))))) (t_or (t_cmp (or_ne (u64 hr)) (od_ne rfl) (x_cb cd_lenE (pe_callB cr_lenE (by rfl) (T.free 2) boot_len (a_cons (xv 3) a_nil))) x_int) (t_or (t_not (t_val (x_isi rfl (pe_callB cr_isi (by rfl) (T.free 0) (by decide +kernel) (pa_cons (x_ix (u1 hr) (xv 3) x_int) (pa_cons (pe_bltn (v := .ty "str") (by rfl) (T.free 1) (by decide +kernel) rfl) pa_nil)))))) (t_or1 (t_cmp (or_notInA ((u65 hr))) (od_notInA rfl) (x_ix (u1 hr) (xv 3) x_int) (xv 1))))))) (s_one (s_ret (ps_ret x_bl))) s_nil)
    (s_one (s_if (PW.pt (t_and (t_cmp op_notN od_isNotN (x_ix (u1 hr) (xv 3) x_int) x_non) (t_and1 (t_not (PW.pt (t_and (t_val (x_isi rfl (pe_callB cr_isi (by rfl) (T.free 0) (by decide +kernel) (pa_cons (x_ix (u1 hr) (xv 3) x_int) (pa_cons (pe_bltn (v := .ty "str") (by rfl) (T.free 1) (by decide +kernel) rfl) pa_nil))))) (t_and1 (t_cmp (or_inA ((u65 hr))) (od_inA rfl) (x_ix (u1 hr) (xv 3) x_int) (xv 0))))))))) (s_one (s_ret (ps_ret x_bl))) s_nil)))))
    (s_one (s_ret (ps_ret x_bl)))))
theorem f_are_moves_1 (T : Tx fa fn (gOf K P w) mg) (L : Tl tf exs (gOf K P w) mg base) : Def1 P w (gOf K P w) mg base fn f_are_moves_D f_are_moves_N 3 f_are_moves_S := ⟨T.says.def_ 5, rfl, f_are_moves_sc, by decide, fun _ _ _ _ _ _ us hl => match us, hl with | [_, _, _], _ => rfl, fun _ _ _ _ _ _ _ _ hcd B hr => f_are_moves_B T L hcd B (lo3 hr)⟩
abbrev f_are_places_N : List Str := ["signals", "thing", "place", "pair"]
theorem f_are_places_sc : FnScope f_are_places_N (f_are_places_N.take 2) f_are_places_D.scope := ⟨rfl, rfl, rfl, by decide +kernel, rfl, by decide +kernel, by decide +kernel⟩
theorem f_are_places_B (T : Tx fa fn (gOf K P w) mg) (L : Tl tf exs (gOf K P w) mg base) {k : Nat} {C : Calls} {cdv : Value} {A : Around} {outer : List Env} {s : Shared} {H : Hp} {E : XK} (hcd : cdv = .ref (He.codeOf K f_are_places_D.at_)) (B : Tab P w (gOf K P w) mg base fn k C) (hr : Room (k + 1) (A.deeper (envOfC f_are_places_D.qual f_are_places_D.scope s.heap.objs.size (He.fAd K f_are_places_D.at_) cdv)) ∧ A.guards = some []) :
    PSs (cxOf (L2.CX P w) P w K mg base f_are_places_N f_are_places_D.qual f_are_places_D.scope (He.fAd K f_are_places_D.at_) cdv A outer s H E) f_are_places_D.body (TSof (gOf K P w) (fun cls dd _ H => E cls dd H) (f_are_places_S C)) :=
  (s_cons (s_if (PW.pt (t_or (t_not (t_val (x_isi rfl (pe_callB cr_isi (by rfl) (T.free 0) (by decide +kernel) (pa_cons (xv 1) (pa_cons (pe_bltn (v := .ty "dict") (by rfl) (T.free 15) (by decide +kernel) rfl) pa_nil)))))) (t_or1 (t_not (t_chain (od_cmpI _) (od_cmpI _) (pt_chain op_le op_le x_int (x_cb cd_lenE (pe_callB cr_lenE (by rfl) (T.free 2) boot_len (a_cons (xv 1) a_nil))) (x_gint (T.int 16)))))))) (s_one (s_ret (ps_ret x_bl))) s_nil)
    (s_cons (s_forI (ws := [2, 3]) (tgT_ne (ts := [(tgN 2), (tgN 3)]) ⟨(tgN_ne 2), (tgN_ne 3), trivial⟩) (ps_for owns_cx rfl (pi_items (pv 1)) (g_tup rfl (gs_cons (g_name (pg_name (i := 2) f_are_places_sc.nd rfl (by first | exact Or.inl rfl | exact Or.inr rfl))) (gs_cons (g_name (pg_name (i := 3) f_are_places_sc.nd rfl (by first | exact Or.inl rfl | exact Or.inr rfl))) gs_nil))) (s_cons (s_if (PW.pt (t_or (t_not (t_val (x_fn 1 T B 8 hr L2.takes0 (a_cons (xv 2) a_nil)))) (t_or (t_not (t_val (x_isi rfl (pe_callB cr_isi (by rfl) (T.free 0) (by decide +kernel) (pa_cons (xv 3) (pa_cons (pe_bltn (v := .ty "tuple") (by rfl) (T.free 6) (by decide +kernel) rfl) pa_nil)))))) (t_or1 (t_cmp (or_ne (u64 hr)) (od_ne rfl) (x_cb cd_lenE (pe_callB cr_lenE (by rfl) (T.free 2) boot_len (a_cons (xv 3) a_nil))) x_int))))) (s_one (s_ret (ps_ret x_bl))) s_nil)
    (s_one (s_if (PW.pt (t_or (t_not (t_val (x_fn 4 T B 17 hr L2.takes0 (a_cons (x_ix (u1 hr) (xv 3) x_int) a_nil)))) (t_or1 (t_not (t_val (x_fn 5 T B 18 hr L2.takes0 (a_cons (xv 0) (a_cons (xv 1) (a_cons (x_ix (u1 hr) (xv 3) x_int) a_nil))))))))) (s_one (s_ret (ps_ret x_bl))) s_nil)))))
    (s_one (s_ret (ps_ret x_bl)))))
theorem f_are_places_1 (T : Tx fa fn (gOf K P w) mg) (L : Tl tf exs (gOf K P w) mg base) : Def1 P w (gOf K P w) mg base fn f_are_places_D f_are_places_N 2 f_are_places_S := ⟨T.says.def_ 6, rfl, f_are_places_sc, by decide, fun _ _ _ _ _ _ us hl => match us, hl with | [_, _], _ => rfl, fun _ _ _ _ _ _ _ _ hcd B hr => f_are_places_B T L hcd B (lo3 hr)⟩
abbrev f_has_silent_ring_N : List Str := ["places", "left", "kept", "one", "move"]
theorem f_has_silent_ring_sc : FnScope f_has_silent_ring_N (f_has_silent_ring_N.take 1) f_has_silent_ring_D.scope := ⟨rfl, rfl, rfl, by decide +kernel, rfl, by decide +kernel, by decide +kernel⟩
theorem f_has_silent_ring_B (T : Tx fa fn (gOf K P w) mg) (L : Tl tf exs (gOf K P w) mg base) {k : Nat} {C : Calls} {cdv : Value} {A : Around} {outer : List Env} {s : Shared} {H : Hp} {E : XK} (hcd : cdv = .ref (He.codeOf K f_has_silent_ring_D.at_)) (B : Tab P w (gOf K P w) mg base fn k C) (hr : Room (k + 1) (A.deeper (envOfC f_has_silent_ring_D.qual f_has_silent_ring_D.scope s.heap.objs.size (He.fAd K f_has_silent_ring_D.at_) cdv)) ∧ A.guards = some []) :
    PSs (cxOf (L2.CX P w) P w K mg base f_has_silent_ring_N f_has_silent_ring_D.qual f_has_silent_ring_D.scope (He.fAd K f_has_silent_ring_D.at_) cdv A outer s H E) f_has_silent_ring_D.body (TSof (gOf K P w) (fun cls dd _ H => E cls dd H) (f_has_silent_ring_S C)) :=
  (s_cons (s_set (ps_set (i := 1) f_has_silent_ring_sc.nd rfl (by first | exact Or.inl rfl | exact Or.inr rfl) (x_frz (f_cb cn_listE (pe_callTy (cr_listE rfl) (by rfl) (T.free 19) (by decide +kernel) (a_cons (xv 0) a_nil))))))
    (s_cons (s_while (ps_while owns_cx (t_cmp (or_ne (u64 hr)) (od_ne rfl) (xv 1) (x_frz (f_lst a_nil))) (s_cons (s_setLc (fun _ _ _ h => h) (ps_setLc (i := 2) (own := [("one", 3)]) rfl f_has_silent_ring_sc.nd rfl rfl (sw_true rfl rfl rfl (by decide +kernel)) (i_seq (pi_list (xv 1)) (pi_tup (xv 1)) rfl) (blkOk_by (N := f_has_silent_ring_N) (sc := f_has_silent_ring_D.scope) (by decide +kernel)) (fun _ _ _ _ _ => (g_name (pg_name (i := 3) f_has_silent_ring_sc.nd rfl (by first | exact Or.inl rfl | exact Or.inr rfl)))) (fun _ _ _ _ _ => (pts_one (t_val (x_cb cd_any (pe_callB (cr_any rfl) (by rfl) (T.free 20) (by decide +kernel) (a_cons (x_frz (f_lc yes_tt (pe_lc (own := [("move", 4)]) rfl f_has_silent_ring_sc.nd (i_seq (pi_list (x_ix (u1 hr) (x_ix (u1 hr) (xv 0) (xv 3)) x_int)) (pi_tup (x_ix (u1 hr) (x_ix (u1 hr) (xv 0) (xv 3)) x_int)) rfl) (by dsimp only [cxOf, L2.Cx.blk, compEnvC]; exact blkOk_by (N := f_has_silent_ring_N) (by kernel_rfl)) (fun _ _ _ _ _ => (g_name (pg_name (i := 4) f_has_silent_ring_sc.nd rfl (by first | exact Or.inl rfl | exact Or.inr rfl)))) (fun _ _ _ _ _ => pts_nil) (fun _ _ _ _ _ => (x_and (x_cmp op_isN od_isN (x_ix (u1 hr) (xv 4) x_int) x_non) (x_one (x_cmp (or_inA ((u65 hr))) (od_inA rfl) (x_ix (u1 hr) (xv 4) x_int) (xv 1)))))))) a_nil)))))) (fun _ _ _ _ _ => (xv 3))))
    (s_cons (s_if (t_cmp (or_eq (u64 hr)) (od_eq rfl) (x_cb cd_lenE (pe_callB cr_lenE (by rfl) (T.free 2) boot_len (a_cons (xv 2) a_nil))) (x_cb cd_lenE (pe_callB cr_lenE (by rfl) (T.free 2) boot_len (a_cons (xv 1) a_nil)))) (s_one (s_ret (ps_ret x_bl))) s_nil)
    (s_one (s_set (ps_set (i := 1) f_has_silent_ring_sc.nd rfl (by first | exact Or.inl rfl | exact Or.inr rfl) (xv 2))))))))
    (s_one (s_ret (ps_ret x_bl)))))
theorem f_has_silent_ring_1 (T : Tx fa fn (gOf K P w) mg) (L : Tl tf exs (gOf K P w) mg base) : Def1 P w (gOf K P w) mg base fn f_has_silent_ring_D f_has_silent_ring_N 1 f_has_silent_ring_S := ⟨T.says.def_ 7, rfl, f_has_silent_ring_sc, by decide, fun _ _ _ _ _ _ us hl => match us, hl with | [_], _ => rfl, fun _ _ _ _ _ _ _ _ hcd B hr => f_has_silent_ring_B T L hcd B (lo3 hr)⟩
abbrev f_Game___init___N : List Str := ["self", "signals", "places"]
theorem f_Game___init___sc : FnScope f_Game___init___N (f_Game___init___N.take 3) f_Game___init___D.scope := ⟨rfl, rfl, rfl, by decide +kernel, rfl, by decide +kernel, by decide +kernel⟩
theorem f_Game___init___B (T : Tx fa fn (gOf K P w) mg) (L : Tl tf exs (gOf K P w) mg base) {k : Nat} {C : Calls} {cdv : Value} {A : Around} {outer : List Env} {s : Shared} {H : Hp} {E : XK} (hcd : cdv = .ref (He.codeOf K f_Game___init___D.at_)) (B : Tab P w (gOf K P w) mg base fn k C) (hr : Room (k + 1) (A.deeper (envOfC f_Game___init___D.qual f_Game___init___D.scope s.heap.objs.size (He.fAd K f_Game___init___D.at_) cdv)) ∧ A.guards = some []) :
    PSs (cxOf (L2.CX P w) P w K mg base f_Game___init___N f_Game___init___D.qual f_Game___init___D.scope (He.fAd K f_Game___init___D.at_) cdv A outer s H E) f_Game___init___D.body (TSof (gOf K P w) (fun cls dd _ H => E cls dd H) (f_Game___init___S C)) :=
  (by refine s_cons ?_ ?_; exact (by refine s_if ?_ ?_ ?_; exact (PW.pt (t_or (t_not (t_val (x_fn 2 T B 21 hr takes_cx (a_cons (xv 1) a_nil)))) (t_or (t_not (t_val (x_fn 6 T B 22 hr takes_cx (a_cons (xv 1) (a_cons (xv 2) a_nil))))) (t_or1 (t_val (x_fn 7 T B 23 hr takes_cx (a_cons (xv 2) a_nil))))))); exact (s_one (s_raise (ps_raise rfl takes_cx (pmk_own PySem.F.excBase_ValueError (T.exc 24).1 (T.glo 25) (T.exc 24).2.1 (raises_own (T.exc 24).2.2.1 (T.exc 24).2.2.2) (by rfl))))); exact s_nil); exact (by refine s_cons ?_ ?_; exact (s_fput [13] (at_cons (T.cls 27) (T.noat 28) at_nil) (ps_fld (xv 0) (x_cb cd_tuple (pe_callTy cr_tuple (by rfl) (T.free 6) (by decide +kernel) (a_cons (x_frz (f_cb cn_sort (pe_callB (cr_sorted (u64 hr) rfl) (by rfl) (T.free 26) (by decide +kernel) (a_cons (xv 1) a_nil)))) a_nil))) rfl)); exact (s_one (s_fput [13] (at_cons (T.cls 27) (T.noat 29) at_nil) (ps_fld (xv 0) (x_frz (f_cb cn_dictC (pe_callTy call_dictD (by rfl) (T.free 15) (by decide +kernel) (a_cons (xv 2) a_nil)))) rfl)))))
theorem f_Game___init___1 (T : Tx fa fn (gOf K P w) mg) (L : Tl tf exs (gOf K P w) mg base) : Def1 P w (gOf K P w) mg base fn f_Game___init___D f_Game___init___N 3 f_Game___init___S := ⟨T.says.def_ 8, rfl, f_Game___init___sc, by decide, fun _ _ _ _ _ _ us hl => match us, hl with | [_, _, _], _ => rfl, fun _ _ _ _ _ _ _ _ hcd B hr => f_Game___init___B T L hcd B (lo3 hr)⟩
abbrev f_Game_places_N : List Str := ["self"]
theorem f_Game_places_sc : FnScope f_Game_places_N (f_Game_places_N.take 1) f_Game_places_D.scope := ⟨rfl, rfl, rfl, by decide +kernel, rfl, by decide +kernel, by decide +kernel⟩
theorem f_Game_places_B (T : Tx fa fn (gOf K P w) mg) (L : Tl tf exs (gOf K P w) mg base) {k : Nat} {C : Calls} {cdv : Value} {A : Around} {outer : List Env} {s : Shared} {H : Hp} {E : XK} (hcd : cdv = .ref (He.codeOf K f_Game_places_D.at_)) (B : Tab P w (gOf K P w) mg base fn k C) (hr : Room (k + 1) (A.deeper (envOfC f_Game_places_D.qual f_Game_places_D.scope s.heap.objs.size (He.fAd K f_Game_places_D.at_) cdv)) ∧ A.guards = some []) :
    PSs (cxOf (L2.CX P w) P w K mg base f_Game_places_N f_Game_places_D.qual f_Game_places_D.scope (He.fAd K f_Game_places_D.at_) cdv A outer s H E) f_Game_places_D.body (TSof (gOf K P w) (fun cls dd _ H => E cls dd H) (f_Game_places_S C)) :=
  pss_dead
theorem f_Game_places_1 (T : Tx fa fn (gOf K P w) mg) (L : Tl tf exs (gOf K P w) mg base) : Def1 P w (gOf K P w) mg base fn f_Game_places_D f_Game_places_N 1 f_Game_places_S := ⟨T.says.def_ 9, rfl, f_Game_places_sc, by decide, fun _ _ _ _ _ _ us hl => match us, hl with | [_], _ => rfl, fun _ _ _ _ _ _ _ _ hcd B hr => f_Game_places_B T L hcd B (lo3 hr)⟩
abbrev f_Game___len___N : List Str := ["self"]
theorem f_Game___len___sc : FnScope f_Game___len___N (f_Game___len___N.take 1) f_Game___len___D.scope := ⟨rfl, rfl, rfl, by decide +kernel, rfl, by decide +kernel, by decide +kernel⟩
theorem f_Game___len___B (T : Tx fa fn (gOf K P w) mg) (L : Tl tf exs (gOf K P w) mg base) {k : Nat} {C : Calls} {cdv : Value} {A : Around} {outer : List Env} {s : Shared} {H : Hp} {E : XK} (hcd : cdv = .ref (He.codeOf K f_Game___len___D.at_)) (B : Tab P w (gOf K P w) mg base fn k C) (hr : Room (k + 1) (A.deeper (envOfC f_Game___len___D.qual f_Game___len___D.scope s.heap.objs.size (He.fAd K f_Game___len___D.at_) cdv)) ∧ A.guards = some []) :
    PSs (cxOf (L2.CX P w) P w K mg base f_Game___len___N f_Game___len___D.qual f_Game___len___D.scope (He.fAd K f_Game___len___D.at_) cdv A outer s H E) f_Game___len___D.body (TSof (gOf K P w) (fun cls dd _ H => E cls dd H) (f_Game___len___S C)) :=
  (s_one (s_ret (ps_ret (x_cb cd_lenE (pe_callB cr_lenE (by rfl) (T.free 2) boot_len (a_cons (x_fld [13] (at_cons (T.cls 27) (T.noat 29) at_nil) (xv 0)) a_nil))))))
theorem f_Game___len___1 (T : Tx fa fn (gOf K P w) mg) (L : Tl tf exs (gOf K P w) mg base) : Def1 P w (gOf K P w) mg base fn f_Game___len___D f_Game___len___N 1 f_Game___len___S := ⟨T.says.def_ 10, rfl, f_Game___len___sc, by decide, fun _ _ _ _ _ _ us hl => match us, hl with | [_], _ => rfl, fun _ _ _ _ _ _ _ _ hcd B hr => f_Game___len___B T L hcd B (lo3 hr)⟩
abbrev f_Game___getitem___N : List Str := ["self", "place"]
theorem f_Game___getitem___sc : FnScope f_Game___getitem___N (f_Game___getitem___N.take 2) f_Game___getitem___D.scope := ⟨rfl, rfl, rfl, by decide +kernel, rfl, by decide +kernel, by decide +kernel⟩
theorem f_Game___getitem___B (T : Tx fa fn (gOf K P w) mg) (L : Tl tf exs (gOf K P w) mg base) {k : Nat} {C : Calls} {cdv : Value} {A : Around} {outer : List Env} {s : Shared} {H : Hp} {E : XK} (hcd : cdv = .ref (He.codeOf K f_Game___getitem___D.at_)) (B : Tab P w (gOf K P w) mg base fn k C) (hr : Room (k + 1) (A.deeper (envOfC f_Game___getitem___D.qual f_Game___getitem___D.scope s.heap.objs.size (He.fAd K f_Game___getitem___D.at_) cdv)) ∧ A.guards = some []) :
    PSs (cxOf (L2.CX P w) P w K mg base f_Game___getitem___N f_Game___getitem___D.qual f_Game___getitem___D.scope (He.fAd K f_Game___getitem___D.at_) cdv A outer s H E) f_Game___getitem___D.body (TSof (gOf K P w) (fun cls dd _ H => E cls dd H) (f_Game___getitem___S C)) :=
  pss_dead
theorem f_Game___getitem___1 (T : Tx fa fn (gOf K P w) mg) (L : Tl tf exs (gOf K P w) mg base) : Def1 P w (gOf K P w) mg base fn f_Game___getitem___D f_Game___getitem___N 2 f_Game___getitem___S := ⟨T.says.def_ 11, rfl, f_Game___getitem___sc, by decide, fun _ _ _ _ _ _ us hl => match us, hl with | [_, _], _ => rfl, fun _ _ _ _ _ _ _ _ hcd B hr => f_Game___getitem___B T L hcd B (lo3 hr)⟩
abbrev f_Game___iter___N : List Str := ["self"]
theorem f_Game___iter___sc : FnScope f_Game___iter___N (f_Game___iter___N.take 1) f_Game___iter___D.scope := ⟨rfl, rfl, rfl, by decide +kernel, rfl, by decide +kernel, by decide +kernel⟩
theorem f_Game___iter___B (T : Tx fa fn (gOf K P w) mg) (L : Tl tf exs (gOf K P w) mg base) {k : Nat} {C : Calls} {cdv : Value} {A : Around} {outer : List Env} {s : Shared} {H : Hp} {E : XK} (hcd : cdv = .ref (He.codeOf K f_Game___iter___D.at_)) (B : Tab P w (gOf K P w) mg base fn k C) (hr : Room (k + 1) (A.deeper (envOfC f_Game___iter___D.qual f_Game___iter___D.scope s.heap.objs.size (He.fAd K f_Game___iter___D.at_) cdv)) ∧ A.guards = some []) :
    PSs (cxOf (L2.CX P w) P w K mg base f_Game___iter___N f_Game___iter___D.qual f_Game___iter___D.scope (He.fAd K f_Game___iter___D.at_) cdv A outer s H E) f_Game___iter___D.body (TSof (gOf K P w) (fun cls dd _ H => E cls dd H) (f_Game___iter___S C)) :=
  pss_dead
theorem f_Game___iter___1 (T : Tx fa fn (gOf K P w) mg) (L : Tl tf exs (gOf K P w) mg base) : Def1 P w (gOf K P w) mg base fn f_Game___iter___D f_Game___iter___N 1 f_Game___iter___S := ⟨T.says.def_ 12, rfl, f_Game___iter___sc, by decide, fun _ _ _ _ _ _ us hl => match us, hl with | [_], _ => rfl, fun _ _ _ _ _ _ _ _ hcd B hr => f_Game___iter___B T L hcd B (lo3 hr)⟩
abbrev f_Game___eq___N : List Str := ["self", "other"]
theorem f_Game___eq___sc : FnScope f_Game___eq___N (f_Game___eq___N.take 2) f_Game___eq___D.scope := ⟨rfl, rfl, rfl, by decide +kernel, rfl, by decide +kernel, by decide +kernel⟩
theorem f_Game___eq___B (T : Tx fa fn (gOf K P w) mg) (L : Tl tf exs (gOf K P w) mg base) {k : Nat} {C : Calls} {cdv : Value} {A : Around} {outer : List Env} {s : Shared} {H : Hp} {E : XK} (hcd : cdv = .ref (He.codeOf K f_Game___eq___D.at_)) (B : Tab P w (gOf K P w) mg base fn k C) (hr : Room (k + 1) (A.deeper (envOfC f_Game___eq___D.qual f_Game___eq___D.scope s.heap.objs.size (He.fAd K f_Game___eq___D.at_) cdv)) ∧ A.guards = some []) :
    PSs (cxOf (L2.CX P w) P w K mg base f_Game___eq___N f_Game___eq___D.qual f_Game___eq___D.scope (He.fAd K f_Game___eq___D.at_) cdv A outer s H E) f_Game___eq___D.body (TSof (gOf K P w) (fun cls dd _ H => E cls dd H) (f_Game___eq___S C)) :=
  pss_dead
theorem f_Game___eq___1 (T : Tx fa fn (gOf K P w) mg) (L : Tl tf exs (gOf K P w) mg base) : Def1 P w (gOf K P w) mg base fn f_Game___eq___D f_Game___eq___N 2 f_Game___eq___S := ⟨T.says.def_ 13, rfl, f_Game___eq___sc, by decide, fun _ _ _ _ _ _ us hl => match us, hl with | [_, _], _ => rfl, fun _ _ _ _ _ _ _ _ hcd B hr => f_Game___eq___B T L hcd B (lo3 hr)⟩
abbrev f_need_place_N : List Str := ["game", "place"]
theorem f_need_place_sc : FnScope f_need_place_N (f_need_place_N.take 2) f_need_place_D.scope := ⟨rfl, rfl, rfl, by decide +kernel, rfl, by decide +kernel, by decide +kernel⟩
theorem f_need_place_B (T : Tx fa fn (gOf K P w) mg) (L : Tl tf exs (gOf K P w) mg base) {k : Nat} {C : Calls} {cdv : Value} {A : Around} {outer : List Env} {s : Shared} {H : Hp} {E : XK} (hcd : cdv = .ref (He.codeOf K f_need_place_D.at_)) (B : Tab P w (gOf K P w) mg base fn k C) (hr : Room (k + 1) (A.deeper (envOfC f_need_place_D.qual f_need_place_D.scope s.heap.objs.size (He.fAd K f_need_place_D.at_) cdv)) ∧ A.guards = some []) :
    PSs (cxOf (L2.CX P w) P w K mg base f_need_place_N f_need_place_D.qual f_need_place_D.scope (He.fAd K f_need_place_D.at_) cdv A outer s H E) f_need_place_D.body (TSof (gOf K P w) (fun cls dd _ H => E cls dd H) (f_need_place_S C)) :=
  (s_one (s_if (PW.pt (t_or (t_not (t_val (x_isi rfl (pe_callB cr_isi (by rfl) (T.free 0) (by decide +kernel) (pa_cons (xv 1) (pa_cons (pe_bltn (v := .ty "str") (by rfl) (T.free 1) (by decide +kernel) rfl) pa_nil)))))) (t_or1 (t_cmp (or_notInA ((u65 hr))) (od_notInA rfl) (xv 1) (x_fld [13] (at_cons (T.cls 27) (T.noat 29) at_nil) (xv 0)))))) (s_one (s_raise (ps_raise rfl takes_cx (pmk_own PySem.F.excBase_ValueError (T.exc 24).1 (T.glo 25) (T.exc 24).2.1 (raises_own (T.exc 24).2.2.1 (T.exc 24).2.2.2) (by rfl))))) s_nil))
theorem f_need_place_1 (T : Tx fa fn (gOf K P w) mg) (L : Tl tf exs (gOf K P w) mg base) : Def1 P w (gOf K P w) mg base fn f_need_place_D f_need_place_N 2 f_need_place_S := ⟨T.says.def_ 14, rfl, f_need_place_sc, by decide, fun _ _ _ _ _ _ us hl => match us, hl with | [_, _], _ => rfl, fun _ _ _ _ _ _ _ _ hcd B hr => f_need_place_B T L hcd B (lo3 hr)⟩
abbrev f_gone_N : List Str := ["game", "place", "numbers", "given", "number", "moves", "signal"]
theorem f_gone_sc : FnScope f_gone_N (f_gone_N.take 3) f_gone_D.scope := ⟨rfl, rfl, rfl, by decide +kernel, rfl, by decide +kernel, by decide +kernel⟩
theorem f_gone_B (T : Tx fa fn (gOf K P w) mg) (L : Tl tf exs (gOf K P w) mg base) {k : Nat} {C : Calls} {cdv : Value} {A : Around} {outer : List Env} {s : Shared} {H : Hp} {E : XK} (hcd : cdv = .ref (He.codeOf K f_gone_D.at_)) (B : Tab P w (gOf K P w) mg base fn k C) (hr : Room (k + 1) (A.deeper (envOfC f_gone_D.qual f_gone_D.scope s.heap.objs.size (He.fAd K f_gone_D.at_) cdv)) ∧ A.guards = some []) :
    PSs (cxOf (L2.CX P w) P w K mg base f_gone_N f_gone_D.qual f_gone_D.scope (He.fAd K f_gone_D.at_) cdv A outer s H E) f_gone_D.body (TSof (gOf K P w) (fun cls dd _ H => E cls dd H) (f_gone_S C)) :=
  (by refine s_cons ?_ ?_; exact (by refine s_if ?_ ?_ ?_; exact (t_not (t_val (x_isi rfl (pe_callB cr_isi (by rfl) (T.free 0) (by decide +kernel) (pa_cons (xv 2) (pa_cons (pe_bltn (v := .ty "tuple") (by rfl) (T.free 6) (by decide +kernel) rfl) pa_nil)))))); exact (s_one (s_raise (ps_raise rfl takes_cx (pmk_own PySem.F.excBase_ValueError (T.exc 30).1 (T.glo 31) (T.exc 30).2.1 (raises_own (T.exc 30).2.2.1 (T.exc 30).2.2.2) (by rfl))))); exact s_nil); exact (by refine s_cons ?_ ?_; exact (s_set (ps_set (i := 3) f_gone_sc.nd rfl (by first | exact Or.inl rfl | exact Or.inr rfl) (x_frz (f_lst a_nil)))); exact (by refine s_cons ?_ ?_; exact (s_for (ws := [4]) (tgN_ne 4) (ps_for owns_cx rfl (i_seq (pi_list (xv 2)) (pi_tup (xv 2)) rfl) (g_name (pg_name (i := 4) f_gone_sc.nd rfl (by first | exact Or.inl rfl | exact Or.inr rfl))) (by refine s_cons ?_ ?_; exact (s_set (ps_set (i := 5) f_gone_sc.nd rfl (by first | exact Or.inl rfl | exact Or.inr rfl) (x_ix (u1 hr) (x_ix (u1 hr) (x_fld [13] (at_cons (T.cls 27) (T.noat 29) at_nil) (xv 0)) (xv 1)) x_int))); exact (by refine s_cons ?_ ?_; exact (by refine s_if ?_ ?_ ?_; exact (t_not (t_val (x_fn 3 T B 32 hr takes_cx (a_cons (xv 4) (a_cons x_int (a_cons (x_bin or_sub od_sub (x_cb cd_lenE (pe_callB cr_lenE (by rfl) (T.free 2) boot_len (a_cons (xv 5) a_nil))) x_int) a_nil)))))); exact (s_one (s_raise (ps_raise rfl takes_cx (pmk_own PySem.F.excBase_ValueError (T.exc 30).1 (T.glo 31) (T.exc 30).2.1 (raises_own (T.exc 30).2.2.1 (T.exc 30).2.2.2) (by rfl))))); exact s_nil); exact (by refine s_cons ?_ ?_; exact (s_asg (ws := [6, 1]) (tgT_ne (ts := [(tgN 6), (tgN 1)]) ⟨(tgN_ne 6), (tgN_ne 1), trivial⟩) (ps_asg (x_ix (u1 hr) (xv 5) (xv 4)) (g_tup rfl (gs_cons (g_name (pg_name (i := 6) f_gone_sc.nd rfl (by first | exact Or.inl rfl | exact Or.inr rfl))) (gs_cons (g_name (pg_name (i := 1) f_gone_sc.nd rfl (by first | exact Or.inl rfl | exact Or.inr rfl))) gs_nil))))); exact (s_one (s_set (ps_set (i := 3) f_gone_sc.nd rfl (by first | exact Or.inl rfl | exact Or.inr rfl) (x_bin or_add (od_add rfl) (xv 3) (x_bin or_mulE (od_mulE rfl) (x_frz (f_lst (a_cons (xv 6) a_nil))) (x_cb cd_int (pe_callTy call_int1 (by rfl) (T.free 10) (by decide +kernel) (a_cons (x_cmp op_notN od_isNotN (xv 6) x_non) a_nil))))))))))))); exact (s_one (s_ret (ps_ret (x_tup (a_cons (x_cb cd_tuple (pe_callTy cr_tuple (by rfl) (T.free 6) (by decide +kernel) (a_cons (xv 3) a_nil))) (a_cons (xv 1) a_nil)))))))))
theorem f_gone_1 (T : Tx fa fn (gOf K P w) mg) (L : Tl tf exs (gOf K P w) mg base) : Def1 P w (gOf K P w) mg base fn f_gone_D f_gone_N 3 f_gone_S := ⟨T.says.def_ 15, rfl, f_gone_sc, by decide, fun _ _ _ _ _ _ us hl => match us, hl with | [_, _, _], _ => rfl, fun _ _ _ _ _ _ _ _ hcd B hr => f_gone_B T L hcd B (lo3 hr)⟩
abbrev f_follow_N : List Str := ["game", "place", "numbers"]
theorem f_follow_sc : FnScope f_follow_N (f_follow_N.take 3) f_follow_D.scope := ⟨rfl, rfl, rfl, by decide +kernel, rfl, by decide +kernel, by decide +kernel⟩
theorem f_follow_B (T : Tx fa fn (gOf K P w) mg) (L : Tl tf exs (gOf K P w) mg base) {k : Nat} {C : Calls} {cdv : Value} {A : Around} {outer : List Env} {s : Shared} {H : Hp} {E : XK} (hcd : cdv = .ref (He.codeOf K f_follow_D.at_)) (B : Tab P w (gOf K P w) mg base fn k C) (hr : Room (k + 1) (A.deeper (envOfC f_follow_D.qual f_follow_D.scope s.heap.objs.size (He.fAd K f_follow_D.at_) cdv)) ∧ A.guards = some []) :
    PSs (cxOf (L2.CX P w) P w K mg base f_follow_N f_follow_D.qual f_follow_D.scope (He.fAd K f_follow_D.at_) cdv A outer s H E) f_follow_D.body (TSof (gOf K P w) (fun cls dd _ H => E cls dd H) (f_follow_S C)) :=
  (s_cons (s_ex (ps_expr (x_fn 14 T B 33 hr takes_cx (a_cons (xv 0) (a_cons (xv 1) a_nil)))))
    (s_one (s_ret (ps_ret (x_fn 15 T B 34 hr takes_cx (a_cons (xv 0) (a_cons (xv 1) (a_cons (xv 2) a_nil))))))))
theorem f_follow_1 (T : Tx fa fn (gOf K P w) mg) (L : Tl tf exs (gOf K P w) mg base) : Def1 P w (gOf K P w) mg base fn f_follow_D f_follow_N 3 f_follow_S := ⟨T.says.def_ 16, rfl, f_follow_sc, by decide, fun _ _ _ _ _ _ us hl => match us, hl with | [_, _, _], _ => rfl, fun _ _ _ _ _ _ _ _ hcd B hr => f_follow_B T L hcd B (lo3 hr)⟩
abbrev f__law_begin_N : List Str := ["_law_script", "_law_cells", "_law_cell"]
theorem f__law_begin_sc : FnScope f__law_begin_N (f__law_begin_N.take 1) f__law_begin_D.scope := ⟨rfl, rfl, rfl, by decide +kernel, rfl, by decide +kernel, by decide +kernel⟩
theorem f__law_begin_B (T : Tx fa fn (gOf K P w) mg) (L : Tl tf exs (gOf K P w) mg base) {k : Nat} {C : Calls} {cdv : Value} {A : Around} {outer : List Env} {s : Shared} {H : Hp} {E : XK} (hcd : cdv = .ref (He.codeOf K f__law_begin_D.at_)) (B : Tab P w (gOf K P w) mg base fn k C) (hr : Room (k + 1) (A.deeper (envOfC f__law_begin_D.qual f__law_begin_D.scope s.heap.objs.size (He.fAd K f__law_begin_D.at_) cdv)) ∧ A.guards = some []) :
    PSs (cxOf (L2.CX P w) P w K mg base f__law_begin_N f__law_begin_D.qual f__law_begin_D.scope (He.fAd K f__law_begin_D.at_) cdv A outer s H E) f__law_begin_D.body (TSof (gOf K P w) (fun cls dd _ H => E cls dd H) (f__law_begin_S C)) :=
  (s_cons (s_setLc yes_tt (ps_setLc (i := 1) (own := [("_law_cell", 2)]) rfl f__law_begin_sc.nd rfl rfl (sw_true rfl rfl rfl (by decide +kernel)) (i_seq (pi_list (xv 0)) (pi_tup (xv 0)) rfl) (blkOk_by (N := f__law_begin_N) (sc := f__law_begin_D.scope) (by decide +kernel)) (fun _ _ _ _ _ => (g_name (pg_name (i := 2) f__law_begin_sc.nd rfl (by first | exact Or.inl rfl | exact Or.inr rfl)))) (fun _ _ _ _ _ => pts_nil) (fun _ _ _ _ _ => (x_cb cd_abs (pe_callB call_abs (by rfl) (T.free 35) (by decide +kernel) (a_cons (xv 2) a_nil))))))
    (s_one (s_ret (ps_ret (x_hnd (f_disp (p_cons (p_cons (p_cons (p_cons p_nil)))) (pe_disp (pps_cons x_str (x_hnd (f_lc (fun _ _ _ h => h) (pe_lc (own := [("_law_cell", 2)]) rfl f__law_begin_sc.nd (i_seq (pi_list (xv 1)) (pi_tup (xv 1)) rfl) (blkOk_by (N := f__law_begin_N) (sc := f__law_begin_D.scope) (by decide +kernel)) (fun _ _ _ _ _ => (g_name (pg_name (i := 2) f__law_begin_sc.nd rfl (by first | exact Or.inl rfl | exact Or.inr rfl)))) (fun _ _ _ _ _ => (pts_one (t_cmp op_ge (od_cmpI _) (xv 2) (x_bin or_pow od_pow x_int x_int)))) (fun _ _ _ _ _ => (x_bin or_sub od_sub (xv 2) (x_bin or_pow od_pow x_int x_int)))))) (pps_cons x_str (xv 1) (pps_cons x_str x_int (pps_cons x_str x_int pps_nil)))) (by rfl) (by rfl) (fun z => by cases z) (by decide))))))))
theorem f__law_begin_1 (T : Tx fa fn (gOf K P w) mg) (L : Tl tf exs (gOf K P w) mg base) : Def1 P w (gOf K P w) mg base fn f__law_begin_D f__law_begin_N 1 f__law_begin_S := ⟨T.says.def_ 17, rfl, f__law_begin_sc, by decide, fun _ _ _ _ _ _ us hl => match us, hl with | [_], _ => rfl, fun _ _ _ _ _ _ _ _ hcd B hr => f__law_begin_B T L hcd B (lo3 hr)⟩
abbrev f__law_draw_N : List Str := ["_law_state", "_law_size", "_law_turn", "_law_cell", "_law_mixed_here", "_law_found"]
theorem f__law_draw_sc : FnScope f__law_draw_N (f__law_draw_N.take 2) f__law_draw_D.scope := ⟨rfl, rfl, rfl, by decide +kernel, rfl, by decide +kernel, by decide +kernel⟩
theorem f__law_draw_B (T : Tx fa fn (gOf K P w) mg) (L : Tl tf exs (gOf K P w) mg base) {k : Nat} {C : Calls} {cdv : Value} {A : Around} {outer : List Env} {s : Shared} {H : Hp} {E : XK} (hcd : cdv = .ref (He.codeOf K f__law_draw_D.at_)) (B : Tab P w (gOf K P w) mg base fn k C) (hr : Room (k + 1) (A.deeper (envOfC f__law_draw_D.qual f__law_draw_D.scope s.heap.objs.size (He.fAd K f__law_draw_D.at_) cdv)) ∧ A.guards = some []) :
    PSs (cxOf (L2.CX P w) P w K mg base f__law_draw_N f__law_draw_D.qual f__law_draw_D.scope (He.fAd K f__law_draw_D.at_) cdv A outer s H E) f__law_draw_D.body (TSof (gOf K P w) (fun cls dd _ H => E cls dd H) (f__law_draw_S C)) :=
  (s_cons (s_while (ps_while owns_cx (PW.pt (t_and (t_cmp (or_eq (u64 hr)) (od_eq rfl) (x_ix (u1 hr) (xv 0) x_str) x_int) (t_and1 (t_cmp (or_ne (u64 hr)) (od_ne rfl) (x_ix (u1 hr) (xv 0) x_str) (x_frz (f_lst a_nil)))))) (s_one (s_dput (ps_dput ((u1 hr)) (xv 0) x_str (x_popAt rfl (pe_bm PySem.F.plainAttrs_list PySem.F.slot_list_pop PySem.F.type_list_pop mt_popAt (x_ix (u1 hr) (xv 0) x_str) (pa_cons x_int pa_nil))) rfl)))))
    (s_cons (s_if (t_cmp or_gt od_gt (x_ix (u1 hr) (xv 0) x_str) x_int) (s_cons (s_set (ps_set (i := 5) f__law_draw_sc.nd rfl (by first | exact Or.inl rfl | exact Or.inr rfl) (x_bin or_mod od_mod (x_cb cd_int (pe_callTy call_int1 (by rfl) (T.free 10) (by decide +kernel) (a_cons (x_ix (u1 hr) (xv 0) x_str) a_nil))) (xv 1))))
    (s_cons (s_dput (ps_dput ((u1 hr)) (xv 0) x_str (x_bin or_fdiv od_fdiv (x_ix (u1 hr) (xv 0) x_str) (xv 1)) rfl))
    (s_one (s_ret (ps_ret (xv 5)))))) s_nil)
    (s_cons (s_set (ps_set (i := 2) f__law_draw_sc.nd rfl (by first | exact Or.inl rfl | exact Or.inr rfl) (x_bin or_add (od_add rfl) (x_ix (u1 hr) (xv 0) x_str) x_int)))
    (s_cons (s_dput (ps_dput ((u1 hr)) (xv 0) x_str (xv 2) rfl))
    (s_cons (s_set (ps_set (i := 3) f__law_draw_sc.nd rfl (by first | exact Or.inl rfl | exact Or.inr rfl) (x_ite (t_cmp (or_ne (u64 hr)) (od_ne rfl) (x_ix (u1 hr) (xv 0) x_str) (x_frz (f_lst a_nil))) (x_ix (u1 hr) (x_ix (u1 hr) (xv 0) x_str) (x_bin or_mod od_mod (x_cb cd_int (pe_callTy call_int1 (by rfl) (T.free 10) (by decide +kernel) (a_cons (xv 2) a_nil))) (x_cb cd_len (pe_callB cr_len (by rfl) (T.free 2) boot_len (a_cons (x_ix (u1 hr) (xv 0) x_str) a_nil))))) x_int)))
    (s_cons (s_set (ps_set (i := 4) f__law_draw_sc.nd rfl (by first | exact Or.inl rfl | exact Or.inr rfl) (x_bin or_mod od_mod (x_cb cd_int (pe_callTy call_int1 (by rfl) (T.free 10) (by decide +kernel) (a_cons (x_bin or_pow od_pow (x_bin or_add (od_add rfl) (x_bin or_add (od_add rfl) (x_bin or_mod od_mod (x_cb cd_int (pe_callTy call_int1 (by rfl) (T.free 10) (by decide +kernel) (a_cons (xv 3) a_nil))) x_int) (x_bin or_mulE (od_mulE rfl) x_int (xv 2))) x_int) x_int) a_nil))) x_int)))
    (s_one (s_ret (ps_ret (x_bin or_mod od_mod (x_cb cd_int (pe_callTy call_int1 (by rfl) (T.free 10) (by decide +kernel) (a_cons (x_bin or_fdiv od_fdiv (x_bin or_mod od_mod (x_cb cd_int (pe_callTy call_int1 (by rfl) (T.free 10) (by decide +kernel) (a_cons (x_bin or_pow od_pow (x_bin or_add (od_add rfl) (xv 4) (x_bin or_mulE (od_mulE rfl) x_int (xv 2))) x_int) a_nil))) x_int) x_int) a_nil))) (xv 1)))))))))))
theorem f__law_draw_1 (T : Tx fa fn (gOf K P w) mg) (L : Tl tf exs (gOf K P w) mg base) : Def1 P w (gOf K P w) mg base fn f__law_draw_D f__law_draw_N 2 f__law_draw_S := ⟨T.says.def_ 18, rfl, f__law_draw_sc, by decide, fun _ _ _ _ _ _ us hl => match us, hl with | [_, _], _ => rfl, fun _ _ _ _ _ _ _ _ hcd B hr => f__law_draw_B T L hcd B (lo3 hr)⟩
abbrev f__law_pick_N : List Str := ["_law_state", "_law_some"]
theorem f__law_pick_sc : FnScope f__law_pick_N (f__law_pick_N.take 2) f__law_pick_D.scope := ⟨rfl, rfl, rfl, by decide +kernel, rfl, by decide +kernel, by decide +kernel⟩
theorem f__law_pick_B (T : Tx fa fn (gOf K P w) mg) (L : Tl tf exs (gOf K P w) mg base) {k : Nat} {C : Calls} {cdv : Value} {A : Around} {outer : List Env} {s : Shared} {H : Hp} {E : XK} (hcd : cdv = .ref (He.codeOf K f__law_pick_D.at_)) (B : Tab P w (gOf K P w) mg base fn k C) (hr : Room (k + 1) (A.deeper (envOfC f__law_pick_D.qual f__law_pick_D.scope s.heap.objs.size (He.fAd K f__law_pick_D.at_) cdv)) ∧ A.guards = some []) :
    PSs (cxOf (L2.CX P w) P w K mg base f__law_pick_N f__law_pick_D.qual f__law_pick_D.scope (He.fAd K f__law_pick_D.at_) cdv A outer s H E) f__law_pick_D.body (TSof (gOf K P w) (fun cls dd _ H => E cls dd H) (f__law_pick_S C)) :=
  (s_one (s_ret (ps_ret (x_ix (u1 hr) (xv 1) (x_fn 18 T B 36 hr takes_cx (a_cons (xv 0) (a_cons (x_cb cd_len (pe_callB cr_len (by rfl) (T.free 2) boot_len (a_cons (xv 1) a_nil))) a_nil)))))))
theorem f__law_pick_1 (T : Tx fa fn (gOf K P w) mg) (L : Tl tf exs (gOf K P w) mg base) : Def1 P w (gOf K P w) mg base fn f__law_pick_D f__law_pick_N 2 f__law_pick_S := ⟨T.says.def_ 19, rfl, f__law_pick_sc, by decide, fun _ _ _ _ _ _ us hl => match us, hl with | [_, _], _ => rfl, fun _ _ _ _ _ _ _ _ hcd B hr => f__law_pick_B T L hcd B (lo3 hr)⟩
abbrev f__law_mixed_N : List Str := ["_law_state", "_law_some", "_law_left", "_law_found"]
theorem f__law_mixed_sc : FnScope f__law_mixed_N (f__law_mixed_N.take 2) f__law_mixed_D.scope := ⟨rfl, rfl, rfl, by decide +kernel, rfl, by decide +kernel, by decide +kernel⟩
theorem f__law_mixed_B (T : Tx fa fn (gOf K P w) mg) (L : Tl tf exs (gOf K P w) mg base) {k : Nat} {C : Calls} {cdv : Value} {A : Around} {outer : List Env} {s : Shared} {H : Hp} {E : XK} (hcd : cdv = .ref (He.codeOf K f__law_mixed_D.at_)) (B : Tab P w (gOf K P w) mg base fn k C) (hr : Room (k + 1) (A.deeper (envOfC f__law_mixed_D.qual f__law_mixed_D.scope s.heap.objs.size (He.fAd K f__law_mixed_D.at_) cdv)) ∧ A.guards = some []) :
    PSs (cxOf (L2.CX P w) P w K mg base f__law_mixed_N f__law_mixed_D.qual f__law_mixed_D.scope (He.fAd K f__law_mixed_D.at_) cdv A outer s H E) f__law_mixed_D.body (TSof (gOf K P w) (fun cls dd _ H => E cls dd H) (f__law_mixed_S C)) :=
  (s_cons (s_par2 (ps_par (i := 2) (j := 3) rfl f__law_mixed_sc.nd rfl rfl (by decide) rfl rfl (q_new (f_cb cn_list (pe_callTy cr_list (by rfl) (T.free 19) (by decide +kernel) (a_cons (xv 1) a_nil))) (q_new (f_lst a_nil) q_nil)) (by rfl)))
    (s_cons (s_while (ps_while owns_cx (t_cmp (or_ne (u64 hr)) (od_ne rfl) (xv 2) (x_frz (f_lst a_nil))) (s_one (s_app rfl (ps_expr (pe_bm PySem.F.plainAttrs_list PySem.F.slot_list_append PySem.F.type_list_append mt_append (xv 3) (pa_cons (x_popAt rfl (pe_bm PySem.F.plainAttrs_list PySem.F.slot_list_pop PySem.F.type_list_pop mt_popAt (xv 2) (pa_cons (x_fn 18 T B 36 hr takes_cx (a_cons (xv 0) (a_cons (x_cb cd_len (pe_callB cr_len (by rfl) (T.free 2) boot_len (a_cons (xv 2) a_nil))) a_nil))) pa_nil))) pa_nil)))))))
    (s_one (s_ret (ps_ret (xv 3))))))
theorem f__law_mixed_1 (T : Tx fa fn (gOf K P w) mg) (L : Tl tf exs (gOf K P w) mg base) : Def1 P w (gOf K P w) mg base fn f__law_mixed_D f__law_mixed_N 2 f__law_mixed_S := ⟨T.says.def_ 20, rfl, f__law_mixed_sc, by decide, fun _ _ _ _ _ _ us hl => match us, hl with | [_, _], _ => rfl, fun _ _ _ _ _ _ _ _ hcd B hr => f__law_mixed_B T L hcd B (lo3 hr)⟩
abbrev f__law_kind_N : List Str := ["_law_error", "_law_some", "_law_words"]
theorem f__law_kind_sc : FnScope f__law_kind_N (f__law_kind_N.take 1) f__law_kind_D.scope := ⟨rfl, rfl, rfl, by decide +kernel, rfl, by decide +kernel, by decide +kernel⟩
theorem f__law_kind_B (T : Tx fa fn (gOf K P w) mg) (L : Tl tf exs (gOf K P w) mg base) {k : Nat} {C : Calls} {cdv : Value} {A : Around} {outer : List Env} {s : Shared} {H : Hp} {E : XK} (hcd : cdv = .ref (He.codeOf K f__law_kind_D.at_)) (B : Tab P w (gOf K P w) mg base fn k C) (hr : Room (k + 1) (A.deeper (envOfC f__law_kind_D.qual f__law_kind_D.scope s.heap.objs.size (He.fAd K f__law_kind_D.at_) cdv)) ∧ A.guards = some []) :
    PSs (cxOf (L2.CX P w) P w K mg base f__law_kind_N f__law_kind_D.qual f__law_kind_D.scope (He.fAd K f__law_kind_D.at_) cdv A outer s H E) f__law_kind_D.body (TSof (gOf K P w) (fun cls dd _ H => E cls dd H) (f__law_kind_S C)) :=
  (s_cons (s_set (ps_set (i := 1) f__law_kind_sc.nd rfl (by first | exact Or.inl rfl | exact Or.inr rfl) (x_frz (f_lst (a_cons (x_isE esl 7 25 (excs_ok L) (by decide) (by decide) (by decide) T (xv 0) (T.free 0)) (a_cons (x_isE esl 8 31 (excs_ok L) (by decide) (by decide) (by decide) T (xv 0) (T.free 0)) (a_cons (x_isE esl 6 37 (excs_ok L) (by decide) (by decide) (by decide) T (xv 0) (T.free 0)) a_nil)))))))
    (s_cons (s_set (ps_set (i := 1) f__law_kind_sc.nd rfl (by first | exact Or.inl rfl | exact Or.inr rfl) (x_bin or_add (od_add rfl) (xv 1) (x_frz (f_lst (a_cons (x_isE esl 21 39 (excs_ok L) (by decide) (by decide) (by decide) T (xv 0) (T.free 0)) (a_cons (x_isE esl 1 38 (excs_ok L) (by decide) (by decide) (by decide) T (xv 0) (T.free 0)) a_nil)))))))
    (s_cons (s_set (ps_set (i := 2) f__law_kind_sc.nd rfl (by first | exact Or.inl rfl | exact Or.inr rfl) (x_frz (f_lst (a_cons x_str (a_cons x_str (a_cons x_str (a_cons x_str (a_cons x_str a_nil)))))))))
    (s_one (s_ret (ps_ret (x_ite (t_cmp (or_eq (u64 hr)) (od_eq rfl) (x_count rfl (pe_bm PySem.F.plainAttrs_list PySem.F.slot_list_count PySem.F.type_list_count (mt_countD (u65 hr)) (xv 1) (pa_cons x_bl pa_nil))) x_int) (x_ix (u1 hr) (xv 2) (x_index rfl (pe_bm PySem.F.plainAttrs_list PySem.F.slot_list_index PySem.F.type_list_index (mt_indexD (u65 hr)) (xv 1) (pa_cons x_bl pa_nil)))) x_str)))))))
theorem f__law_kind_1 (T : Tx fa fn (gOf K P w) mg) (L : Tl tf exs (gOf K P w) mg base) : Def1 P w (gOf K P w) mg base fn f__law_kind_D f__law_kind_N 1 f__law_kind_S := ⟨T.says.def_ 21, rfl, f__law_kind_sc, by decide, fun _ _ _ _ _ _ us hl => match us, hl with | [_], _ => rfl, fun _ _ _ _ _ _ _ _ hcd B hr => f__law_kind_B T L hcd B (lo3 hr)⟩
abbrev f__law_heard_N : List Str := ["_law_work", "_law_found", "_law_caught", "e"]
theorem f__law_heard_sc : FnScope f__law_heard_N (f__law_heard_N.take 1) f__law_heard_D.scope := ⟨rfl, rfl, rfl, by decide +kernel, rfl, by decide +kernel, by decide +kernel⟩
theorem f__law_heard_B (T : Tx fa fn (gOf K P w) mg) (L : Tl tf exs (gOf K P w) mg base) {k : Nat} {C : Calls} {cdv : Value} {A : Around} {outer : List Env} {s : Shared} {H : Hp} {E : XK} (hcd : cdv = .ref (He.codeOf K f__law_heard_D.at_)) (B : Tab P w (gOf K P w) mg base fn k C) (hr : Room (k + 1) (A.deeper (envOfC f__law_heard_D.qual f__law_heard_D.scope s.heap.objs.size (He.fAd K f__law_heard_D.at_) cdv)) ∧ A.guards = some []) :
    PSs (cxOf (L2.CX P w) P w K mg base f__law_heard_N f__law_heard_D.qual f__law_heard_D.scope (He.fAd K f__law_heard_D.at_) cdv A outer s H E) f__law_heard_D.body (TSof (gOf K P w) (fun cls dd _ H => E cls dd H) (f__law_heard_S C)) :=
  pss_dead
theorem f__law_heard_1 (T : Tx fa fn (gOf K P w) mg) (L : Tl tf exs (gOf K P w) mg base) : Def1 P w (gOf K P w) mg base fn f__law_heard_D f__law_heard_N 1 f__law_heard_S := ⟨T.says.def_ 22, rfl, f__law_heard_sc, by decide, fun _ _ _ _ _ _ us hl => match us, hl with | [_], _ => rfl, fun _ _ _ _ _ _ _ _ hcd B hr => f__law_heard_B T L hcd B (lo3 hr)⟩
theorem f__law_heard_3B (T : Tx fa fn (gOf K P w) mg) (L : Tl tf exs (gOf K P w) mg base) {k : Nat} {C : Calls} {cdv : Value} {A : Around} {outer : List Env} {s : Shared} {H : Hp} {E : XK} (hcd : cdv = .ref (He.codeOf K f__law_heard_D.at_)) (B : Tab P w (gOf K P w) mg base fn k C) (hr : Room (k + 1) (A.deeper (envOfC f__law_heard_D.qual f__law_heard_D.scope s.heap.objs.size (He.fAd K f__law_heard_D.at_) cdv)) ∧ A.guards = some []) :
    PSs (cxOf (L2.CX P w) P w K mg base f__law_heard_N f__law_heard_D.qual f__law_heard_D.scope (He.fAd K f__law_heard_D.at_) cdv A outer s H E) [f__law_heard_D.body.getD 2 (.Pass ⟨0, 0, 0, 0⟩)] (TSof (gOf K P w) (fun cls dd _ H => E cls dd H) (f__law_heard_3S C)) :=
  (s_one (s_ret (ps_ret (x_ite (t_cmp op_isN od_isN (xv 2) x_non) (x_frz (f_lst (a_cons (xv 1) a_nil))) (x_fn 21 T B 40 hr takes_cx (a_cons (xv 2) a_nil))))))
theorem f__law_heard_1B (T : Tx fa fn (gOf K P w) mg) {cdv : Value} {A : Around} {outer : List Env} {s : Shared} {H : Hp} {E : XK} : PS (cxOf (L2.CX P w) P w K mg base f__law_heard_N f__law_heard_D.qual f__law_heard_D.scope (He.fAd K f__law_heard_D.at_) cdv A outer s H E) (f__law_heard_D.body.getD 0 (.Pass ⟨0, 0, 0, 0⟩)) (T1 K) :=
  ps_asg (pe_tup (pa_cons pe_non (pa_cons pe_non pa_nil))) (pg_tup rfl (pgs_cons (pg_name f__law_heard_sc.nd rfl (.inl rfl) (.inr rfl)) (pgs_cons (pg_name f__law_heard_sc.nd rfl (.inl rfl) (.inr rfl)) pgs_nil)))
abbrev f__law_ring_N : List Str := ["_law_state", "_law_amount", "_law_more", "_law_letters", "_law_names", "_law_found", "_law_at", "_law_name", "_law_after"]
theorem f__law_ring_sc : FnScope f__law_ring_N (f__law_ring_N.take 3) f__law_ring_D.scope := ⟨rfl, rfl, rfl, by decide +kernel, rfl, by decide +kernel, by decide +kernel⟩
theorem f__law_ring_B (T : Tx fa fn (gOf K P w) mg) (L : Tl tf exs (gOf K P w) mg base) {k : Nat} {C : Calls} {cdv : Value} {A : Around} {outer : List Env} {s : Shared} {H : Hp} {E : XK} (hcd : cdv = .ref (He.codeOf K f__law_ring_D.at_)) (B : Tab P w (gOf K P w) mg base fn k C) (hr : Room (k + 1) (A.deeper (envOfC f__law_ring_D.qual f__law_ring_D.scope s.heap.objs.size (He.fAd K f__law_ring_D.at_) cdv)) ∧ A.guards = some []) :
    PSs (cxOf (L2.CX P w) P w K mg base f__law_ring_N f__law_ring_D.qual f__law_ring_D.scope (He.fAd K f__law_ring_D.at_) cdv A outer s H E) f__law_ring_D.body (TSof (gOf K P w) (fun cls dd _ H => E cls dd H) (f__law_ring_S C)) :=
  (s_cons (s_set (ps_set (i := 3) f__law_ring_sc.nd rfl (by first | exact Or.inl rfl | exact Or.inr rfl) x_str))
    (s_cons (s_setLc yes_tt (ps_setLc (i := 4) (own := [("_law_at", 6)]) rfl f__law_ring_sc.nd rfl rfl (sw_true rfl rfl rfl (by decide +kernel)) (i_rng (pi_range1 (by rfl) (T.free 41) (pa_cons (xv 1) pa_nil))) (blkOk_by (N := f__law_ring_N) (sc := f__law_ring_D.scope) (by decide +kernel)) (fun _ _ _ _ _ => (g_name (pg_name (i := 6) f__law_ring_sc.nd rfl (by first | exact Or.inl rfl | exact Or.inr rfl)))) (fun _ _ _ _ _ => pts_nil) (fun _ _ _ _ _ => (x_bin or_add (od_add rfl) (x_bin or_add (od_add rfl) x_str (x_ix (u1 hr) (xv 3) (x_bin or_fdiv od_fdiv (xv 6) x_int))) (x_ix (u1 hr) (xv 3) (x_bin or_mod od_mod (x_cb cd_int (pe_callTy call_int1 (by rfl) (T.free 10) (by decide +kernel) (a_cons (xv 6) a_nil))) x_int))))))
    (s_cons (s_own (ps_set (i := 5) f__law_ring_sc.nd rfl (by first | exact Or.inl rfl | exact Or.inr rfl) (f_dnewK pe_dnewK)))
    (s_cons (s_for (ws := [6, 7]) (tgT_ne (ts := [(tgN 6), (tgN 7)]) ⟨(tgN_ne 6), (tgN_ne 7), trivial⟩) (ps_for owns_cx rfl (i_enum (pi_enum (by rfl) (T.free 42) (a_cons (xv 4) a_nil))) (g_tup rfl (gs_cons (g_name (pg_name (i := 6) f__law_ring_sc.nd rfl (by first | exact Or.inl rfl | exact Or.inr rfl))) (gs_cons (g_name (pg_name (i := 7) f__law_ring_sc.nd rfl (by first | exact Or.inl rfl | exact Or.inr rfl))) gs_nil))) (s_cons (s_set (ps_set (i := 8) f__law_ring_sc.nd rfl (by first | exact Or.inl rfl | exact Or.inr rfl) (x_ix (u1 hr) (xv 4) (x_bin or_mod od_mod (x_cb cd_int (pe_callTy call_int1 (by rfl) (T.free 10) (by decide +kernel) (a_cons (x_bin or_add (od_add rfl) (xv 6) x_int) a_nil))) (xv 1)))))
    (s_one (s_dput (ps_dput ((u1 hr)) (xv 5) (xv 7) (x_tup (a_cons (x_fn 19 T B 43 hr takes_cx (a_cons (xv 0) (a_cons (x_frz (f_lst (a_cons x_str (a_cons x_str a_nil)))) a_nil))) (a_cons (x_bin or_mulE (od_mulE rfl) (x_tup (a_cons (x_tup (a_cons x_str (a_cons (xv 8) a_nil))) a_nil)) (x_ite (t_cmp (or_eq (u64 hr)) (od_eq rfl) (xv 6) x_int) (xv 2) x_int)) a_nil))) rfl))))))
    (s_one (s_ret (ps_ret (xv 5))))))))
theorem f__law_ring_1 (T : Tx fa fn (gOf K P w) mg) (L : Tl tf exs (gOf K P w) mg base) : Def1 P w (gOf K P w) mg base fn f__law_ring_D f__law_ring_N 3 f__law_ring_S := ⟨T.says.def_ 23, rfl, f__law_ring_sc, by decide, fun _ _ _ _ _ _ us hl => match us, hl with | [_, _, _], _ => rfl, fun _ _ _ _ _ _ _ _ hcd B hr => f__law_ring_B T L hcd B (lo3 hr)⟩
abbrev f__law_row_N : List Str := ["_law_state", "_law_amount", "_law_goal", "_law_letters", "_law_names", "_law_found", "_law_at", "_law_name"]
theorem f__law_row_sc : FnScope f__law_row_N (f__law_row_N.take 3) f__law_row_D.scope := ⟨rfl, rfl, rfl, by decide +kernel, rfl, by decide +kernel, by decide +kernel⟩
theorem f__law_row_B (T : Tx fa fn (gOf K P w) mg) (L : Tl tf exs (gOf K P w) mg base) {k : Nat} {C : Calls} {cdv : Value} {A : Around} {outer : List Env} {s : Shared} {H : Hp} {E : XK} (hcd : cdv = .ref (He.codeOf K f__law_row_D.at_)) (B : Tab P w (gOf K P w) mg base fn k C) (hr : Room (k + 1) (A.deeper (envOfC f__law_row_D.qual f__law_row_D.scope s.heap.objs.size (He.fAd K f__law_row_D.at_) cdv)) ∧ A.guards = some []) :
    PSs (cxOf (L2.CX P w) P w K mg base f__law_row_N f__law_row_D.qual f__law_row_D.scope (He.fAd K f__law_row_D.at_) cdv A outer s H E) f__law_row_D.body (TSof (gOf K P w) (fun cls dd _ H => E cls dd H) (f__law_row_S C)) :=
  (s_cons (s_set (ps_set (i := 3) f__law_row_sc.nd rfl (by first | exact Or.inl rfl | exact Or.inr rfl) x_str))
    (s_cons (s_setLc yes_tt (ps_setLc (i := 4) (own := [("_law_at", 6)]) rfl f__law_row_sc.nd rfl rfl (sw_true rfl rfl rfl (by decide +kernel)) (i_rng (pi_range1 (by rfl) (T.free 41) (pa_cons (xv 1) pa_nil))) (blkOk_by (N := f__law_row_N) (sc := f__law_row_D.scope) (by decide +kernel)) (fun _ _ _ _ _ => (g_name (pg_name (i := 6) f__law_row_sc.nd rfl (by first | exact Or.inl rfl | exact Or.inr rfl)))) (fun _ _ _ _ _ => pts_nil) (fun _ _ _ _ _ => (x_bin or_add (od_add rfl) (x_bin or_add (od_add rfl) x_str (x_ix (u1 hr) (xv 3) (x_bin or_fdiv od_fdiv (xv 6) x_int))) (x_ix (u1 hr) (xv 3) (x_bin or_mod od_mod (x_cb cd_int (pe_callTy call_int1 (by rfl) (T.free 10) (by decide +kernel) (a_cons (xv 6) a_nil))) x_int))))))
    (s_cons (s_own (ps_set (i := 5) f__law_row_sc.nd rfl (by first | exact Or.inl rfl | exact Or.inr rfl) (f_dnewK pe_dnewK)))
    (s_cons (s_for (ws := [6, 7]) (tgT_ne (ts := [(tgN 6), (tgN 7)]) ⟨(tgN_ne 6), (tgN_ne 7), trivial⟩) (ps_for owns_cx rfl (i_enum (pi_enum (by rfl) (T.free 42) (a_cons (x_sl rfl (pe_slice sl_all (xv 4) o_none (o_some (x_un un_neg ud_neg x_int)))) a_nil))) (g_tup rfl (gs_cons (g_name (pg_name (i := 6) f__law_row_sc.nd rfl (by first | exact Or.inl rfl | exact Or.inr rfl))) (gs_cons (g_name (pg_name (i := 7) f__law_row_sc.nd rfl (by first | exact Or.inl rfl | exact Or.inr rfl))) gs_nil))) (s_one (s_dput (ps_dput ((u1 hr)) (xv 5) (xv 7) (x_tup (a_cons x_str (a_cons (x_tup (a_cons (x_tup (a_cons x_non (a_cons (x_ix (u1 hr) (xv 4) (x_bin or_add (od_add rfl) (xv 6) x_int)) a_nil))) a_nil)) a_nil))) rfl)))))
    (s_cons (s_dput (ps_dput ((u1 hr)) (xv 5) (x_ix (u1 hr) (xv 4) (x_un un_neg ud_neg x_int)) (x_tup (a_cons x_str (a_cons (x_tup (a_cons (x_tup (a_cons (x_ix (u1 hr) (xv 2) x_int) (a_cons (x_ix (u1 hr) (xv 4) (x_ix (u1 hr) (xv 2) x_int)) a_nil))) a_nil)) a_nil))) rfl))
    (s_one (s_ret (ps_ret (x_frz (f_cb cn_dictP (pe_callTy (call_dictP rfl) (by rfl) (T.free 15) (by decide +kernel) (a_cons (x_fn 20 T B 44 hr takes_cx (a_cons (xv 0) (a_cons (x_frz (f_items 5 (LiI.pe_listItems rfl (pv 5) (by rfl) (T.free 19) (by decide +kernel)))) a_nil))) a_nil))))))))))))
theorem f__law_row_1 (T : Tx fa fn (gOf K P w) mg) (L : Tl tf exs (gOf K P w) mg base) : Def1 P w (gOf K P w) mg base fn f__law_row_D f__law_row_N 3 f__law_row_S := ⟨T.says.def_ 24, rfl, f__law_row_sc, by decide, fun _ _ _ _ _ _ us hl => match us, hl with | [_, _, _], _ => rfl, fun _ _ _ _ _ _ _ _ hcd B hr => f__law_row_B T L hcd B (lo3 hr)⟩
abbrev f_law_N : List Str := ["_law_script", "_law_state", "_law_turn", "_law_amount", "_law_more", "_law_size", "_law_moves", "_law_spaces", "_law_heard_here", "_law_at"]
theorem f_law_sc : FnScope f_law_N (f_law_N.take 1) f_law_D.scope := ⟨rfl, rfl, rfl, by decide +kernel, rfl, by decide +kernel, by decide +kernel⟩
theorem f_law_B (T : Tx fa fn (gOf K P w) mg) (L : Tl tf exs (gOf K P w) mg base) {k : Nat} {C : Calls} {cdv : Value} {A : Around} {outer : List Env} {s : Shared} {H : Hp} {E : XK} (hcd : cdv = .ref (He.codeOf K f_law_D.at_)) (B : Tab P w (gOf K P w) mg base fn k C) (hr3 : Room (k + 3) (A.deeper (envOfC f_law_D.qual f_law_D.scope s.heap.objs.size (He.fAd K f_law_D.at_) cdv)) ∧ A.guards = some []) :
    PSs (cxOf (L2.CX P w) P w K mg base f_law_N f_law_D.qual f_law_D.scope (He.fAd K f_law_D.at_) cdv A outer s H E) f_law_D.body (TSof (gOf K P w) (fun cls dd _ H => E cls dd H) (f_law_S C)) :=
  have hr := lo3 hr3
  (s_cons (s_set (ps_set (i := 1) f_law_sc.nd rfl (by first | exact Or.inl rfl | exact Or.inr rfl) (x_fn 17 T B 45 hr takes_cx (a_cons (xv 0) a_nil))))
    (s_cons (s_par2 (ps_par (i := 3) (j := 4) rfl f_law_sc.nd rfl rfl (by decide) rfl rfl (q_val (x_bin or_add (od_add rfl) x_int (x_fn 18 T B 36 hr takes_cx (a_cons (xv 1) (a_cons x_int a_nil)))) (q_val (x_bin or_add (od_add rfl) x_int (x_fn 18 T B 36 hr takes_cx (a_cons (xv 1) (a_cons x_int a_nil)))) q_nil)) (by rfl)))
    (s_cons (s_for (ws := [5, 6]) (tgT_ne (ts := [(tgN 5), (tgN 6)]) ⟨(tgN_ne 5), (tgN_ne 6), trivial⟩) (ps_for owns_cx rfl (i_seq (pi_list (x_frz (f_lst (a_cons (x_tup (a_cons (xv 3) (a_cons x_int a_nil))) (a_cons (x_tup (a_cons (x_bin or_add (od_add rfl) x_int (x_fn 18 T B 36 hr takes_cx (a_cons (xv 1) (a_cons x_int a_nil)))) (a_cons (xv 4) a_nil))) (a_cons (x_tup (a_cons x_int (a_cons x_int a_nil))) (a_cons (x_tup (a_cons (xv 3) (a_cons (xv 4) a_nil))) a_nil))))))) (pi_tup (x_frz (f_lst (a_cons (x_tup (a_cons (xv 3) (a_cons x_int a_nil))) (a_cons (x_tup (a_cons (x_bin or_add (od_add rfl) x_int (x_fn 18 T B 36 hr takes_cx (a_cons (xv 1) (a_cons x_int a_nil)))) (a_cons (xv 4) a_nil))) (a_cons (x_tup (a_cons x_int (a_cons x_int a_nil))) (a_cons (x_tup (a_cons (xv 3) (a_cons (xv 4) a_nil))) a_nil))))))) rfl) (g_tup rfl (gs_cons (g_name (pg_name (i := 5) f_law_sc.nd rfl (by first | exact Or.inl rfl | exact Or.inr rfl))) (gs_cons (g_name (pg_name (i := 6) f_law_sc.nd rfl (by first | exact Or.inl rfl | exact Or.inr rfl))) gs_nil))) (s_cons (s_set (ps_set (i := 7) f_law_sc.nd rfl (by first | exact Or.inl rfl | exact Or.inr rfl) (x_fn 23 T B 46 hr takes_cx (a_cons (xv 1) (a_cons (xv 5) (a_cons (xv 6) a_nil))))))
    (s_cons (s_set (ps_set (i := 8) f_law_sc.nd rfl (by first | exact Or.inl rfl | exact Or.inr rfl) (x_heard (a := "_law_work") (n1 := "_law_found") (n2 := "_law_caught") (ne := "e") (ae := "AgainError") (cs := 0) (d := f__law_heard_D) (st1 := f__law_heard_D.body.getD 0 (.Pass ⟨0, 0, 0, 0⟩)) (st3 := f__law_heard_D.body.getD 2 (.Pass ⟨0, 0, 0, 0⟩)) 22 49 50 (fun e => (esl.map (·.1)).contains e) T (maker_of L (d := f_law_D) 0 rfl hcd rfl) hr3 takes_cx (LamX.lamS_by (by rfl)) (fun _ _ _ _ _ => rfl) (fun _ _ _ _ _ _ _ hr => (x_frz (f_make 13 8 T B 47 48 hr takes_lam (a_cons (x_tup (a_cons x_str (a_cons x_str a_nil))) (a_cons (xv 7) a_nil))))) (fun _ _ _ _ hcd hr => f__law_heard_3B T L hcd B hr) (fun _ _ _ _ => f__law_heard_1B T) (by rfl) f__law_heard_sc (fun _ _ _ _ _ _ us hl => match us, hl with | [_], _ => rfl) rfl rfl rfl rfl rfl (by decide) rfl rfl (exm_of (excs_ok L) rfl) (by decide) (by decide) (by decide) (by decide))))
    (s_one (s_if (PW.pt (t_or (t_cmp or_gt od_gt (xv 5) x_int) (t_or1 (t_cmp or_gt od_gt (xv 6) x_int)))) (s_one (s_if (t_cmp (or_ne (u64 hr)) (od_ne rfl) (xv 8) x_str) (s_one (s_ret (ps_ret x_bl))) s_nil)) (s_one (s_if (PW.pt (t_or (t_not (t_val (x_isi rfl (pe_callB cr_isi (by rfl) (T.free 0) (by decide +kernel) (pa_cons (xv 8) (pa_cons (pe_bltn (v := .ty "list") (by rfl) (T.free 19) (by decide +kernel) rfl) pa_nil)))))) (t_or1 (t_cmp (or_ne (u64 hr)) (od_ne rfl) (x_lenO 13 10 (pe_callB (cr_lenO 13 10 51 T B hr) (by rfl) (T.free 2) boot_len (pa_cons (x_ix (u1 hr) (xv 8) x_int) pa_nil))) (xv 5))))) (s_one (s_ret (ps_ret x_bl))) (s_one (s_if (t_cmp (or_ne (u64 hr)) (od_ne rfl) (x_fn 16 T B 52 hr takes_cx (a_cons (x_ix (u1 hr) (xv 8) x_int) (a_cons (x_ix (u1 hr) (x_frz (f_cb cn_listE (pe_callTy (cr_listE rfl) (by rfl) (T.free 19) (by decide +kernel) (a_cons (xv 7) a_nil)))) x_int) (a_cons (x_bin or_add (od_add rfl) (x_tup (a_cons (x_bin or_sub od_sub (xv 6) x_int) a_nil)) (x_bin or_mulZ (od_mulZ rfl) (x_tup (a_cons x_int a_nil)) (x_bin or_sub od_sub (xv 5) x_int))) a_nil)))) (x_tup (a_cons (x_bin or_mulE (od_mulE rfl) (x_tup (a_cons x_str a_nil)) (xv 5)) (a_cons (x_ix (u1 hr) (x_frz (f_cb cn_listE (pe_callTy (cr_listE rfl) (by rfl) (T.free 19) (by decide +kernel) (a_cons (xv 7) a_nil)))) x_int) a_nil)))) (s_one (s_ret (ps_ret x_bl))) s_nil))))))))))
    (s_cons (s_for (ws := [2]) (tgN_ne 2) (ps_for owns_cx rfl (i_rng (pi_range1 (by rfl) (T.free 41) (pa_cons x_int pa_nil))) (g_name (pg_name (i := 2) f_law_sc.nd rfl (by first | exact Or.inl rfl | exact Or.inr rfl))) (s_cons (s_set (ps_set (i := 5) f_law_sc.nd rfl (by first | exact Or.inl rfl | exact Or.inr rfl) (x_bin or_add (od_add rfl) x_int (x_fn 18 T B 36 hr takes_cx (a_cons (xv 1) (a_cons x_int a_nil))))))
    (s_cons (s_set (ps_set (i := 9) f_law_sc.nd rfl (by first | exact Or.inl rfl | exact Or.inr rfl) (x_fn 18 T B 36 hr takes_cx (a_cons (xv 1) (a_cons (xv 5) a_nil)))))
    (s_cons (s_if (t_cmp (or_ne (u64 hr)) (od_ne rfl) (x_heard (a := "_law_work") (n1 := "_law_found") (n2 := "_law_caught") (ne := "e") (ae := "AgainError") (cs := 0) (d := f__law_heard_D) (st1 := f__law_heard_D.body.getD 0 (.Pass ⟨0, 0, 0, 0⟩)) (st3 := f__law_heard_D.body.getD 2 (.Pass ⟨0, 0, 0, 0⟩)) 22 49 50 (fun e => (esl.map (·.1)).contains e) T (maker_of L (d := f_law_D) 0 rfl hcd rfl) hr3 takes_cx (LamX.lamS_by (by rfl)) (fun _ _ _ _ _ => rfl) (fun _ _ _ _ _ _ _ hr => (x_frz (f_make 13 8 T B 47 48 hr takes_lam (a_cons (x_tup (a_cons x_str a_nil)) (a_cons (x_fn 24 T B 53 hr takes_lam (a_cons (xv 1) (a_cons (xv 5) (a_cons (x_tup (a_cons x_non (a_cons (xv 9) a_nil))) a_nil)))) a_nil))))) (fun _ _ _ _ hcd hr => f__law_heard_3B T L hcd B hr) (fun _ _ _ _ => f__law_heard_1B T) (by rfl) f__law_heard_sc (fun _ _ _ _ _ _ us hl => match us, hl with | [_], _ => rfl) rfl rfl rfl rfl rfl (by decide) rfl rfl (exm_of (excs_ok L) rfl) (by decide) (by decide) (by decide) (by decide)) x_str) (s_one (s_ret (ps_ret x_bl))) s_nil)
    (s_one (s_if (t_not (t_val (x_isi rfl (pe_callB cr_isi (by rfl) (T.free 0) (by decide +kernel) (pa_cons (x_heard (a := "_law_work") (n1 := "_law_found") (n2 := "_law_caught") (ne := "e") (ae := "AgainError") (cs := 0) (d := f__law_heard_D) (st1 := f__law_heard_D.body.getD 0 (.Pass ⟨0, 0, 0, 0⟩)) (st3 := f__law_heard_D.body.getD 2 (.Pass ⟨0, 0, 0, 0⟩)) 22 49 50 (fun e => (esl.map (·.1)).contains e) T (maker_of L (d := f_law_D) 0 rfl hcd rfl) hr3 takes_cx (LamX.lamS_by (by rfl)) (fun _ _ _ _ _ => rfl) (fun _ _ _ _ _ _ _ hr => (x_frz (f_make 13 8 T B 47 48 hr takes_lam (a_cons (x_tup (a_cons x_str a_nil)) (a_cons (x_fn 24 T B 53 hr takes_lam (a_cons (xv 1) (a_cons (xv 5) (a_cons (x_tup (a_cons x_str (a_cons (xv 9) a_nil))) a_nil)))) a_nil))))) (fun _ _ _ _ hcd hr => f__law_heard_3B T L hcd B hr) (fun _ _ _ _ => f__law_heard_1B T) (by rfl) f__law_heard_sc (fun _ _ _ _ _ _ us hl => match us, hl with | [_], _ => rfl) rfl rfl rfl rfl rfl (by decide) rfl rfl (exm_of (excs_ok L) rfl) (by decide) (by decide) (by decide) (by decide)) (pa_cons (pe_bltn (v := .ty "list") (by rfl) (T.free 19) (by decide +kernel) rfl) pa_nil)))))) (s_one (s_ret (ps_ret x_bl))) s_nil)))))))
    (s_one (s_ret (ps_ret x_bl)))))))
theorem f_law_1 (T : Tx fa fn (gOf K P w) mg) (L : Tl tf exs (gOf K P w) mg base) : Def1 P w (gOf K P w) mg base fn f_law_D f_law_N 1 f_law_S := ⟨T.says.def_ 25, rfl, f_law_sc, by decide, fun _ _ _ _ _ _ us hl => match us, hl with | [_], _ => rfl, fun _ _ _ _ _ _ _ _ hcd B hr => f_law_B T L hcd B hr⟩
theorem tab (T : Tx fa fn (gOf K P w) mg) (L : Tl tf exs (gOf K P w) mg base) : ∀ k, Tab P w (gOf K P w) mg base fn (4 * k) (callK body k) := tab_all fun j d hj => match j, hj with
  | 0, hj => by cases hj; exact ⟨f_NotPlain___init___N, 2, f_NotPlain___init___S, f_NotPlain___init___1 T L, fun _ => rfl⟩
  | 1, hj => by cases hj; exact ⟨f_is_name_N, 1, f_is_name_S, f_is_name_1 T L, fun _ => rfl⟩
  | 2, hj => by cases hj; exact ⟨f_are_signals_N, 1, f_are_signals_S, f_are_signals_1 T L, fun _ => rfl⟩
  | 3, hj => by cases hj; exact ⟨f_is_number_N, 3, f_is_number_S, f_is_number_1 T L, fun _ => rfl⟩
  | 4, hj => by cases hj; exact ⟨f_is_player_N, 1, f_is_player_S, f_is_player_1 T L, fun _ => rfl⟩
  | 5, hj => by cases hj; exact ⟨f_are_moves_N, 3, f_are_moves_S, f_are_moves_1 T L, fun _ => rfl⟩
  | 6, hj => by cases hj; exact ⟨f_are_places_N, 2, f_are_places_S, f_are_places_1 T L, fun _ => rfl⟩
  | 7, hj => by cases hj; exact ⟨f_has_silent_ring_N, 1, f_has_silent_ring_S, f_has_silent_ring_1 T L, fun _ => rfl⟩
  | 8, hj => by cases hj; exact ⟨f_Game___init___N, 3, f_Game___init___S, f_Game___init___1 T L, fun _ => rfl⟩
  | 9, hj => by cases hj; exact ⟨f_Game_places_N, 1, f_Game_places_S, f_Game_places_1 T L, fun _ => rfl⟩
  | 10, hj => by cases hj; exact ⟨f_Game___len___N, 1, f_Game___len___S, f_Game___len___1 T L, fun _ => rfl⟩
  | 11, hj => by cases hj; exact ⟨f_Game___getitem___N, 2, f_Game___getitem___S, f_Game___getitem___1 T L, fun _ => rfl⟩
  | 12, hj => by cases hj; exact ⟨f_Game___iter___N, 1, f_Game___iter___S, f_Game___iter___1 T L, fun _ => rfl⟩
  | 13, hj => by cases hj; exact ⟨f_Game___eq___N, 2, f_Game___eq___S, f_Game___eq___1 T L, fun _ => rfl⟩
  | 14, hj => by cases hj; exact ⟨f_need_place_N, 2, f_need_place_S, f_need_place_1 T L, fun _ => rfl⟩
  | 15, hj => by cases hj; exact ⟨f_gone_N, 3, f_gone_S, f_gone_1 T L, fun _ => rfl⟩
  | 16, hj => by cases hj; exact ⟨f_follow_N, 3, f_follow_S, f_follow_1 T L, fun _ => rfl⟩
  | 17, hj => by cases hj; exact ⟨f__law_begin_N, 1, f__law_begin_S, f__law_begin_1 T L, fun _ => rfl⟩
  | 18, hj => by cases hj; exact ⟨f__law_draw_N, 2, f__law_draw_S, f__law_draw_1 T L, fun _ => rfl⟩
  | 19, hj => by cases hj; exact ⟨f__law_pick_N, 2, f__law_pick_S, f__law_pick_1 T L, fun _ => rfl⟩
  | 20, hj => by cases hj; exact ⟨f__law_mixed_N, 2, f__law_mixed_S, f__law_mixed_1 T L, fun _ => rfl⟩
  | 21, hj => by cases hj; exact ⟨f__law_kind_N, 1, f__law_kind_S, f__law_kind_1 T L, fun _ => rfl⟩
  | 22, hj => by cases hj; exact ⟨f__law_heard_N, 1, f__law_heard_S, f__law_heard_1 T L, fun _ => rfl⟩
  | 23, hj => by cases hj; exact ⟨f__law_ring_N, 3, f__law_ring_S, f__law_ring_1 T L, fun _ => rfl⟩
  | 24, hj => by cases hj; exact ⟨f__law_row_N, 3, f__law_row_S, f__law_row_1 T L, fun _ => rfl⟩
  | 25, hj => by cases hj; exact ⟨f_law_N, 1, f_law_S, f_law_1 T L, fun _ => rfl⟩
  | _ + 26, hj => by cases hj
end
end AG.K42
set_option Elab.async false
set_option linter.all false
set_option maxRecDepth 100000
set_option maxHeartbeats 0
namespace AG.K42
open PySem L2 PySem.Spec PyProof.Rows AG
abbrev RR : PySem.W.OpenRow := PySem.W.OpenLaw.row PySem.Challenge.rw_againtrees_k42_great_games
abbrev tfa : List He.Defn := tf.map He.DefD.at_
abbrev hk : PySem.W.Hook := He.hookX 5 fa fn [] tfa (exOf exs tf)
def ob (s : PySem.W.SharedT) : He.AlX := He.obsX 5 fa fn [] tfa (exOf exs tf) (HandSHeadRun.getT s)
theorem ob_eq (s : PySem.W.SharedT) : ob s = hk.obs s.abs := He.obsX_eq (HandSHeadRun.getT_eq s)
def loose : List PySem.Str := ([PySem.Str.ofString "__name__", PySem.Str.ofString "AgainError", PySem.Str.ofString "NoCondition", PySem.Str.ofString "NoGame", PySem.Str.ofString "NoPlan", PySem.Str.ofString "TooMany", PySem.Str.ofString "NotPlain", PySem.Str.ofString "MOST_SIGNALS", PySem.Str.ofString "LONGEST", PySem.Str.ofString "LETTERS", PySem.Str.ofString "is_name", PySem.Str.ofString "are_signals", PySem.Str.ofString "MOST_PLACES", PySem.Str.ofString "MOST_MOVES", PySem.Str.ofString "KEEPER", PySem.Str.ofString "BREAKER", PySem.Str.ofString "is_number", PySem.Str.ofString "is_player", PySem.Str.ofString "are_moves", PySem.Str.ofString "are_places"] : List PySem.Str) ++ ([PySem.Str.ofString "has_silent_ring", PySem.Str.ofString "Game", PySem.Str.ofString "need_place", PySem.Str.ofString "gone", PySem.Str.ofString "follow", PySem.Str.ofString "_law_begin", PySem.Str.ofString "_law_draw", PySem.Str.ofString "_law_pick", PySem.Str.ofString "_law_mixed", PySem.Str.ofString "_law_kind", PySem.Str.ofString "_law_heard", PySem.Str.ofString "_law_ring", PySem.Str.ofString "_law_row"] : List PySem.Str)
theorem run (w : World) : HandSHeadRun.RunEq RR (PySem.W.view RR.prog [36]) hk ob 40000 loose w := by
  intro os
  kernel_rfl
theorem ended (w : World) (mg : Str → Option Value) (fA : Addr) (h : Heap) (K : PySem.W.Frag) (inK : K.In h) (names : h.Ns mainGlobals mg) (c : He.SaysX fa fn [] tfa (exOf exs tf) w h K) (hmg : mg "law" = some (.ref fA)) : AtEnd PySem.Challenge.rw_againtrees_k42_great_games w (L2.CX (PySem.Challenge.rw_againtrees_k42_great_games).prog w) (4 * KK + 4) 63 "_law_script" mg fA h := by
  have T : Tx fa fn (gOf K (PySem.Challenge.rw_againtrees_k42_great_games).prog w) mg := ⟨c.t.d, h, inK, names⟩
  obtain ⟨ex1, ex2⟩ := exOf_ex c.more
  have hg := T.glo 54 (x := "law") rfl
  have e := hmg.symm.trans hg
  cases e
  exact at_end (G := gOf K (PySem.Challenge.rw_againtrees_k42_great_games).prog w) (body := body) (d := f_law_D) (bf := f_law_S) (tf := tf) (exs := exs) inK 25 c.hd c.out c.empty ex2 rfl ex1 (fun base L => f_law_1 T L) (fun base L => tab T L KK) rfl rfl rfl (fun _ _ _ _ _ _ us hl => match us, hl with | [_], _ => rfl) (c.t.d.def_ 25) (fun ns hl => pure_law ns hl)
end AG.K42
open PySem PySem.W PySem.Calls PyProof.Rows
theorem PySem.Challenge.cw_againtrees_k42_great_games_holds : PySem.Challenge.rw_againtrees_k42_great_games.Holds := by
  w_on; o_law
  refine HandSHeadRun.head_any (r := OpenLaw.row PySem.Challenge.rw_againtrees_k42_great_games) (q := view (OpenLaw.row PySem.Challenge.rw_againtrees_k42_great_games).prog [36]) (H := AG.K42.hk) (ob := AG.K42.ob) (M := 40000) (loose := AG.K42.loose) (d := HandSHeadRun.topDef (OpenLaw.row PySem.Challenge.rw_againtrees_k42_great_games).prog 36) (kwd := []) AG.K42.ob_eq
    (by kernel_rfl) (fun s => by kernel_rfl) AG.K42.run (by kernel_rfl) (by kernel_rfl) (by kernel_rfl) (by rfl) (by first | assumption | decide +kernel) (by decide +kernel) ⟨rfl, rfl, rfl, rfl, rfl, by decide +kernel⟩ ?hw ?hc
  case hw => w_witness2
  case hc =>
    refine AG.walk_g (l := PySem.Challenge.rw_againtrees_k42_great_games) (n := 63) (k := 4 * AG.K42.KK + 4) (x := "_law_script") (CX := fun w => L2.CX (PySem.Challenge.rw_againtrees_k42_great_games).prog w) rfl (by decide) (by kernel_rfl) ⟨rfl, by decide, by decide⟩ ?F (fun _ _ _ _ _ z => by obtain ⟨_, _, _, _, _, _, _, _, _, _, _, _, z⟩ := z; exact z.elim)
    intro w mg fA h Y G hmg0
    obtain ⟨K, KX, c⟩ := Y
    have hmg : mg ("law" : PySem.Str) = some (.ref fA) := by
      have e : (HandSHeadRun.topDef (OpenLaw.row PySem.Challenge.rw_againtrees_k42_great_games).prog 36).name = ("law" : PySem.Str) := by kernel_rfl
      rw [← e]
      exact hmg0
    exact AG.K42.ended w mg fA h K KX G c hmg
