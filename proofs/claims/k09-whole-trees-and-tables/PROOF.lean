import PyProof.Rows.All
import Wide.All
import OpenK.AllK
import Wide.FinOn
import KE.KStateDown
import Lean
import HandS.ForMost
import HandS.Exc
import HandS.Ends
import HandS.More
import HandS.Words
import HandS.WordsExc
import HandS.Defaults
import HandS.TupAny
import HandS.TupLe
import HandS.Zip
import HandS.IsInst
import HandS.Head0
import HandS.Head1
import HandS.Head2
import HandS.HeadEnd
import HandS.HeadHook1
import HandS.HeadHook2
import HandS.Lambda
import HandS.Nested
import HandS.EndTab
import HandS.ExcCtx
import HandS.HotCalls
import HandS.Set
import HandS.SetFor
import HandS.Strs
import PyProof.Rows.SetFrom
import PyProof.Rows.SortShellAny
import PyProof.Rows.SortStr
import HandS.TupMul
import HandS.Deep
import HandS.RaiseMore
import PyProof.ListStr
import KE.GoesMore
import HandS.Style
import HandS.Replace
import HandS.WordsDict
import KE.KDictPairs
import HandS.ExcIs
import HandS.HeadHook4
import HandS.HeadWalk
import PySem.Challenge.RW_keptlooks_k09_whole_trees_and_tables
set_option Elab.async false
set_option linter.all false
set_option maxRecDepth 100000
set_option maxHeartbeats 0
namespace KU
open PySem PySem.Spec PyProof.Rows L2

/-! ### sets of texts -/
def keyS (e : Int × Value) : Str := match e.2 with
  | .str k _ => k
  | _ => Str.empty
def GoodS (w : World) (e : Int × Value) : Prop := ∃ k tk, e.2 = Value.str k tk ∧ e.1 = hashStr w k
/-- the set of texts at a: ks its members -/
structure SetD (w : World) (es : Array (Int × Value)) (t : SetTable) (ks : List Str) : Prop where
  good : ∀ e ∈ es.toList, GoodS w e
  per : (es.toList.map keyS).Perm ks
  nd : ks.Nodup
  few : es.size < scanBound
  fits : t.fits es.size = true
  ris : Ris t.place.toList
  led : w.params.followText "set-order" = true ∨ t.led = true
def SetS (w : World) (h : Heap) (a : Addr) (ks : List Str) : Prop := ∃ o es ep t, h.get? a = some o ∧ o.ExactSet ∧ o.data = .set es ep t ∧ SetD w es t ks
def insS (ks : List Str) (k : Str) : List Str := if k ∈ ks then ks else k :: ks
abbrev freshO (w : World) : Obj := { cls := .type "set", dict := none, data := .set #[] 0 (.fresh 0 0 (!w.params.followText "set-order")) }
section
variable {P : Program} {w : World} {h h' : Heap} {a : Addr} {ks : List Str}
theorem SetS.at (R : SetS w h a ks) (k : ∀ o, h.get? a = some o → h'.get? a = some o) : SetS w h' a ks := by
  obtain ⟨o, es, ep, t, ho, r⟩ := R
  exact ⟨o, es, ep, t, k o ho, r⟩
theorem SetD.elems {es : Array (Int × Value)} {t : SetTable} (F : SetD w es t ks) : ElemsOf (strKind P w) es.toList := fun e he => by
  obtain ⟨k, tk, h1, h2⟩ := F.good e he
  exact ⟨⟨k, by rw [h1]; exact strKind_is P w k tk, h2⟩, by rw [h1]; rfl⟩
theorem good_key {e : Int × Value} (g : GoodS w e) (k : Str) : (strKind P w).is k e.2 = true ↔ keyS e = k := by
  obtain ⟨k0, tk, h1, _⟩ := g
  unfold keyS
  rw [h1]
  constructor
  · intro q
    have q : Value.isStrOf k (Value.str k0 tk) = true := q
    obtain ⟨u, hu⟩ := Value.isStrOf_shape q
    cases hu
    rfl
  · rintro rfl
    exact strKind_is P w k0 tk
theorem SetD.mem {es : Array (Int × Value)} {t : SetTable} (F : SetD w es t ks) (k : Str) : k ∈ ks ↔ ∃ e ∈ es.toList, (strKind P w).is k e.2 = true := by
  rw [← F.per.mem_iff, List.mem_map]
  exact ⟨fun ⟨e, he, q⟩ => ⟨e, he, (good_key (F.good e he) k).2 q⟩, fun ⟨e, he, q⟩ => ⟨e, he, (good_key (F.good e he) k).1 q⟩⟩
theorem setS_fresh (ho : h.get? a = some (freshO w)) : SetS w h a [] := by
  refine ⟨_, #[], 0, _, ho, ⟨rfl, rfl, rfl⟩, rfl, ⟨fun e he => by simp at he, .nil, .nil, by decide, rfl, List.Pairwise.nil, ?_⟩⟩
  show _ ∨ (!w.params.followText "set-order") = true
  cases w.params.followText "set-order" <;> simp
end
section
variable {P : Program} {w : World} {A : Around} {E : Value → Shared → Prop} {s : Shared} {a : Addr} {ks : List Str}
/-- what is behind a new member: it is stored, and the table laid anew if it is too full -/
theorem tailS {g : Bool → Sem Unit} (hg : ∀ (b : Bool) (s₁ : Shared) (Q' : Unit → Shared → Prop), Q' () s₁ → wpAny (model P w) A (g b) Q' E s₁) {o : Obj} {es : Array (Int × Value)} {ep : Nat} {t : SetTable} (ho : s.heap.get? a = some o) (hex : o.ExactSet) (hd : o.data = .set es ep t)
    {es1 : Array (Int × Value)} {t2 : SetTable} (F : SetD w es1 t2 ks) {was : Bool} {R : Option Bool → Shared → Prop} (hR : ∀ h', Heap.SameBut a s.heap h' → SetS w h' a ks → R (some true) { s with heap := h' }) :
    wpAny (model P w) A (do
      storeSet a es1 t2
      if (!was && t2.tooFull) = true then do
        g (relayAll t2 es1 (SetTable.grown es1.size)).2.2
        storeSet a (relayAll t2 es1 (SetTable.grown es1.size)).1 (relayAll t2 es1 (SetTable.grown es1.size)).2.1
        pure (some true)
      else pure (some true)) R E s := by
  have ho1 := store_at (es' := es1) (t' := t2) ho hd
  have b1 := Heap.SameBut.update s.heap a (Obj.putSet es1 t2)
  refine wpAny_bind (wpAny_storeSet_of ho hd ?_ (fits_of_scanBound F.few))
  split
  · generalize hZ : relayAll t2 es1 (SetTable.grown es1.size) = Z
    have q1 : Z.1.toList.Perm es1.toList := by rw [← hZ]; exact relayAll_perm t2 es1 (SetTable.grown es1.size)
    have q2 : Z.2.1.fits Z.1.size = true := by rw [← hZ]; exact relayAll_fits t2 es1 (SetTable.grown es1.size)
    have q3 : Ris Z.2.1.place.toList := by rw [← hZ]; exact relayAll_ris t2 es1 (SetTable.grown es1.size)
    have q4 : Z.2.1.led = t2.led := by rw [← hZ]; exact relayAll_led t2 es1 (SetTable.grown es1.size)
    have hsz : Z.1.size = es1.size := by rw [← Array.length_toList, q1.length_eq, Array.length_toList]
    have hb2 : Z.1.size < scanBound := by rw [hsz]; exact F.few
    refine wpAny_bind (hg _ _ _ (wpAny_bind (wpAny_storeSet_of ho1 rfl (wpAny_pure (hR _ (b1.trans (Heap.SameBut.update _ a _)) ⟨_, Z.1, _, Z.2.1, store_at ho1 rfl, hex, rfl, ?_⟩)) (fits_of_scanBound hb2))))
    exact ⟨fun e he => F.good e (q1.mem_iff.mp he), (q1.map keyS).trans F.per, F.nd, hb2, q2, q3, F.led.imp id fun z => q4.trans z⟩
  · exact wpAny_pure (hR _ b1 ⟨_, es1, _, t2, ho1, hex, rfl, F⟩)
theorem addS {k : Str} {tk : Tok} {Q : Bool → Shared → Prop} (R : SetS w s.heap a ks) (room : ks.length + 1 < scanBound) (hQ : ∀ b h', Heap.SameBut a s.heap h' → SetS w h' a (insS ks k) → Q b { s with heap := h' }) :
    wpAny (model P w) A (setAddHashed a (.str k tk) ((strKind P w).hash k)) Q E s := by
  obtain ⟨o, es, ep, t, ho, hex, hd, F⟩ := R
  have hkey : (strKind P w).is k (.str k tk) = true := strKind_is P w k tk
  have hsc : (Value.str k tk).scannable = true := rfl
  have hel : ElemsOf (strKind P w) es.toList := F.elems
  have hn : es.size = ks.length := by rw [← Array.length_toList, ← List.length_map (f := keyS), F.per.length_eq]
  unfold setAddHashed setAddHashedIn
  refine wpAny_holding (wpAny_bind (wpAny_setState_of ho hd F.fits ?_))
  dsimp only
  rw [byScan_of hsc F.few hel]
  simp only [↓reduceIte]
  unfold setAddByScan
  refine wpAny_bind (wpAny_bind (wpAny_rule (wpAny_bind (wpAny_setScan_of hkey ho hd F.fits hel ?_))))
  cases hfi : List.findIdx? (fun e => (strKind P w).is k e.2) es.toList with
  | some j =>
    dsimp only
    obtain ⟨hj, pj, _⟩ := List.findIdx?_eq_some_iff_getElem.mp hfi
    have hin : k ∈ ks := (F.mem (P := P) k).2 ⟨es.toList[j], List.getElem_mem hj, pj⟩
    refine wpAny_pure (wpAny_pure (hQ _ s.heap (Heap.SameBut.refl a s.heap) ?_))
    unfold insS
    rw [if_pos hin]
    exact ⟨o, es, ep, t, ho, hex, hd, F⟩
  | none =>
    dsimp only
    have hnk : k ∉ ks := fun z => by
      obtain ⟨e, he, q⟩ := (F.mem (P := P) k).1 z
      have c := List.findIdx?_eq_none_iff.mp hfi e he
      rw [q] at c
      cases c
    have hins : insS ks k = k :: ks := by unfold insS; rw [if_neg hnk]
    have gv : ∀ (b : Bool) {s₁ : Shared} {Q' : Unit → Shared → Prop}, Q' () s₁ → wpAny (model P w) A (match b with
      | true => rule "set.scan.the-table-gave-way"
      | false => pure ()) Q' E s₁ := fun b s₁ Q' q => by cases b <;> first | exact wpAny_pure q | exact wpAny_rule q
    generalize hZ : layNew t es ((strKind P w).hash k) (.str k tk) = Z
    have q1 : Z.1.toList.Perm (es.push ((strKind P w).hash k, .str k tk)).toList := by rw [← hZ]; exact layNew_perm t es ((strKind P w).hash k) (.str k tk)
    have q2 : Z.2.1.fits Z.1.size = true := by rw [← hZ]; exact layNew_fits t es ((strKind P w).hash k) (.str k tk)
    have q3 : Ris Z.2.1.place.toList := by rw [← hZ]; exact layNew_ris t es ((strKind P w).hash k) (.str k tk) F.ris
    have q4 : Z.2.1.led = t.led := by rw [← hZ]; exact layNew_led t es ((strKind P w).hash k) (.str k tk)
    obtain ⟨es1, t1, wasDummy, gave⟩ := Z
    dsimp only at q1 q2 q3 q4 ⊢
    rw [Array.toList_push] at q1
    have pc : es1.toList.Perm (((strKind P w).hash k, Value.str k tk) :: es.toList) := q1.trans (List.perm_append_singleton _ _)
    have hsz : es1.size = ks.length + 1 := by rw [← Array.length_toList, pc.length_eq, List.length_cons, Array.length_toList, hn]
    have G : SetD w es1 t1 (insS ks k) := by
      rw [hins]
      refine ⟨fun e he => ?_, (pc.map keyS).trans (F.per.cons k), List.nodup_cons.mpr ⟨hnk, F.nd⟩, by rw [hsz]; exact room, q2, q3, F.led.imp id fun z => q4.trans z⟩
      rcases List.mem_cons.mp (pc.mem_iff.mp he) with z | z
      · rw [z]; exact ⟨k, tk, rfl, rfl⟩
      · exact F.good e z
    refine wpAny_bind (gv _ ?_)
    split
    · refine wpAny_bind ?_
      rw [hashByValue_scannable 8 hsc]
      refine wpAny_pure (tailS (ks := insS ks k) ?_ ho hex hd ⟨G.good, G.per, G.nd, G.few, ?_, ?_, ?_⟩ ?_)
      · intro b s₁ Q' q; cases b <;> first | exact wpAny_pure q | exact wpAny_rule q
      · first | (split <;> first | exact q2 | exact SetTable.fits_plain_off q2) | exact q2
      · first | (split <;> exact q3) | exact q3
      · first | (split <;> exact G.led) | exact G.led
      · intro h' sb r; dsimp only; exact wpAny_pure (hQ _ h' sb r)
    · refine wpAny_bind (wpAny_pure ?_)
      simp only [↓reduceIte]
      refine tailS (ks := insS ks k) ?_ ho hex hd G ?_
      · intro b s₁ Q' q; cases b <;> first | exact wpAny_pure q | exact wpAny_rule q
      · intro h' sb r; dsimp only; exact wpAny_pure (hQ _ h' sb r)
theorem insS_len (ks : List Str) (k : Str) : (insS ks k).length ≤ ks.length + 1 := by
  unfold insS
  split <;> simp
/-- the members, one by one -/
theorem loopS {I : Addr} {fp wr : List Addr} {G : Array GenState → Array GenState → Prop} {n : Nat} {Pv : Nat → Value → Prop} {St : Nat → Shared → Prop} {R : Result → Shared → Prop}
    (W : WalksS P w A.in1 I fp wr G n Pv St) (S : Addr) (hSf : S ∉ fp) (xs : List Str) (hn : n = xs.length) (hb : xs.length + 1 < scanBound) (hval : ∀ i v, Pv i v → ∃ k t, xs[i]? = some k ∧ v = .str k t) :
    ∀ (m i : Nat) (s : Shared), n - i = m → i ≤ n → St i s → (∀ ks, ks = (xs.take i).foldl insS [] → SetS w s.heap S ks ∧ ks.length ≤ i) →
      (∀ s', Moved (S :: wr) G s s' → SetS w s'.heap S (xs.foldl insS []) → R (.ok (.ret .none)) s') → codeAny (model P w) A (.builtin "set.update.loop" ⟨[.ref S, .ref I], []⟩) R s
  | m, i, s, hm0, hi, hst, hS, hR => by
    have hSw : S ∉ wr := fun h => hSf (W.sub _ h)
    have hsub : ∀ b ∈ wr, b ∈ S :: wr := fun b hb => List.mem_cons_of_mem _ hb
    obtain ⟨hS, hc⟩ := hS _ rfl
    refine codeAny_builtin F.entry_set_update_loop ?_
    rw [Around.under_plainId F.plain_set_update_loop _]
    show wpAny _ A.in1 (pyNext (.ref I) >>= _) _ _ s
    match m, hm0 with
    | 0, hm0 =>
      have hin : i = n := by omega
      subst hin
      refine wpAny_bind (W.done s _ _ hst fun s' hm => ?_)
      show wpAny _ A.in1 (ret Value.none) _ _ s'
      rw [List.take_of_length_le (by omega)] at hS
      exact wpAny_pure (hR s' (hm.mono hsub) (hS.at fun o e => hm.heap S o hSw e))
    | m + 1, hm0 =>
      have hlt : i < n := by omega
      refine wpAny_bind (W.item i s _ _ hlt hst fun v s' hP hst' hm => ?_)
      obtain ⟨z, t, hz, rfl⟩ := hval i v hP
      have hS' := hS.at fun o e => hm.heap S o hSw e
      show wpAny _ A.in1 (holding [Value.str z t] (setAdd S (.str z t)) >>= _) _ _ s'
      refine wpAny_bind (wpAny_holding ?_)
      unfold setAdd
      refine wpAny_holding (wpAny_bind ((strKind P w).pyHash (k := z) (strKind_is _ _ _ _) ?_))
      refine addS (s := { s' with toks := s'.toks + 1 }) hS' (by omega) fun b h' hsb hS2 => ?_
      have e3 : (xs.take (i + 1)).foldl insS [] = insS ((xs.take i).foldl insS []) z := by
        rw [List.take_add_one, hz]
        simp [List.foldl_append]
      refine wpAny_pure ⟨plainId_quiet F.plain_set_update_loop _, loopS W S hSf xs hn hb hval m (i + 1) _ (by omega) hlt (W.frame _ s' _ _ hst' (Nat.le_succ _) fun b hb o e => ?_) (fun ks eks => ?_) fun s'' hm'' hS'' => ?_⟩
      · rw [hsb.2 b (fun h : b = S => hSf (h ▸ hb))]; exact e
      · rw [eks, e3]
        exact ⟨hS2, Nat.le_trans (insS_len _ _) (by omega)⟩
      · refine hR s'' (Moved.trans W.gtrans ((hm.mono hsub).then_heap (Nat.le_succ _) fun b o hb e => ?_) hm'') hS''
        rw [hsb.2 b (fun h : b = S => hb (by rw [h]; exact List.mem_cons_self))]; exact e
end
end KU

namespace KU
open PySem PySem.Spec PyProof.Rows L2
section
variable {P : Program} {w : World} {A : Around} {E : Value → Shared → Prop} {s : Shared} {ks : List Str}
/-- what a source of texts does for a new set -/
def Fills (P : Program) (w : World) (s : Shared) (x : Value) (ks : List Str) : Prop :=
  ∀ (A' : Around) (E' : Value → Shared → Prop) (Q' : Unit → Shared → Prop), A'.handled = none → (∀ (h' : Heap) (tk : Nat), SetS w h' s.heap.objs.size ks → (∀ b o, s.heap.get? b = some o → h'.get? b = some o) → Q' () { s with heap := h', toks := tk }) →
    wpAny (model P w) A' (Builtin.Frozenset.updateFrom "set.__init__" s.heap.objs.size x) Q' E' { s with heap := s.heap.push (freshO w) }
theorem call_setS {x : Value} {Q : Value → Shared → Prop} (hh : A.handled = none) (hf : Fills P w s x ks) (hq : ∀ (h' : Heap) (tk : Nat), SetS w h' s.heap.objs.size ks → (∀ b o, s.heap.get? b = some o → h'.get? b = some o) → Q (.ref s.heap.objs.size) { s with heap := h', toks := tk }) :
    wpAny (model P w) A (call (.type "set") [x]) Q E s := by
  obtain ⟨c, tl, hmro⟩ := F.called_set.mro
  have hmade := F.called_set.made
  have hsub := F.called_set.sub
  have h1 := F.called_set.notType
  have h2 := F.called_set.canCreate
  have hct := F.typeCall_set_1 x
  refine wpAny_call (codeAny_of_tree ?_)
  show wpAny _ _ (callAny (.type "set") _) _ _ _
  refine wpAny_pure ⟨Code.quiet_builtin _ (by decide +kernel), codeAny_builtin F.entry_type_call ?_⟩
  rw [Around.under_plain (weight_type_call_type "set" [x] []) rfl]
  repeat (any_goals (first | assumption | wp_step))
  refine codeAny_mono (code_set_led1 x (E := E) (Q₁ := fun obj s₁ => obj = .ref s.heap.objs.size ∧ s₁ = { s with heap := s.heap.push (freshO w) }) ⟨rfl, rfl⟩) fun r s₁ hr => ?_
  match r, hr with
  | .error e, hr => exact hr
  | .ok (.ret obj), hr =>
    obtain ⟨rfl, rfl⟩ := hr
    have hS : (s.heap.push (freshO w)).get? s.heap.objs.size = some (freshO w) := Heap.get?_push_size _ rfl
    have hT : Shared.TypeIs { s with heap := s.heap.push (freshO w) } (.ref s.heap.objs.size) "set" := ⟨_, hS, rfl⟩
    have hli := F.called_set.init.lookup
    have hbi := F.called_set.init.bind (.ref s.heap.objs.size)
    repeat (any_goals (first | assumption | wp_step))
    refine codeAny_mono (codeAny_call_builtin (R := wants (fun r s₂ => r = .none ∧ ∃ h' tk, s₂ = { s with heap := h', toks := tk } ∧ SetS w h' s.heap.objs.size ks ∧ (∀ b o, s.heap.get? b = some o → h'.get? b = some o)) E) F.called_set.init.plain F.entry_set_init (check_set_init_1 hT ?_)) fun r₂ s₂ hr₂ => ?_
    · unfold Builtin.«set.__init__» noKeywords
      generalize hU : Builtin.Frozenset.updateFrom = U
      wp_walk
      subst hU
      refine hf _ _ _ (by simp [hh]) fun h' tk r1 r2 => ?_
      show wpAny _ _ (ret Value.none) _ _ _
      exact wpAny_pure ⟨rfl, h', tk, rfl, r1, r2⟩
    · match r₂, hr₂ with
      | .error e, hr₂ => exact hr₂
      | .ok (.ret r), hr₂ =>
        obtain ⟨rfl, h', tk, rfl, r1, r2⟩ := hr₂
        repeat (any_goals (first | assumption | wp_step))
        exact hq _ _ r1 r2
      | .ok .next, hr₂ => exact hr₂.elim
      | .ok .brk, hr₂ => exact hr₂.elim
      | .ok .cont, hr₂ => exact hr₂.elim
  | .ok .next, hr => exact hr.elim
  | .ok .brk, hr => exact hr.elim
  | .ok .cont, hr => exact hr.elim
end
end KU

namespace KU
open PySem PySem.Spec PyProof.Rows L2
section
variable {P : Program} {w : World} {A : Around} {E : Value → Shared → Prop} {s : Shared} {ks : List Str}
theorem strs_get : ∀ {us : List Value} {xs : List Str}, StrsAre us xs → ∀ (i : Nat) (v : Value), us[i]? = some v → ∃ k t, xs[i]? = some k ∧ v = .str k t
  | _, _, .nil, i, v, h => by simp at h
  | _, _, .cons n t hr, 0, v, h => by simp at h; exact ⟨n, t, rfl, h.symm⟩
  | _, _, .cons n t hr, i + 1, v, h => by
    obtain ⟨k, u, e1, e2⟩ := strs_get hr i v (by simpa using h)
    exact ⟨k, u, by simpa using e1, e2⟩
theorem fills_list {l : Addr} {items : Array Value} {xs : List Str} (hl : s.heap.IsList l items) (hi : StrsAre items.toList xs) (hb : xs.length + 1 < scanBound) : Fills P w s (.ref l) (xs.foldl insS []) := by
  intro A' E' Q' hh hq
  have hsz : items.size = xs.length := by have := StrsAre.len_eq hi; rwa [Array.length_toList] at this
  obtain ⟨ol, hol, hcl, nl, hdl⟩ := id hl
  have hlS : l < s.heap.objs.size := Heap.lt_size hol
  have hT : Shared.TypeIs { s with heap := s.heap.push (freshO w) } (.ref l) "list" := ⟨ol, Heap.get?_push_of_some _ hol, hcl⟩
  have hl1 : (s.heap.push (freshO w)).IsList l items := hl.push _
  have hS : (s.heap.push (freshO w)).get? s.heap.objs.size = some (freshO w) := Heap.get?_push_size _ rfl
  have hz : (s.heap.push (freshO w)).objs.size = s.heap.objs.size + 1 := Heap.size_push ..
  unfold Builtin.Frozenset.updateFrom Builtin.Frozenset.isAnySet
  have g1 := PySem.F.sub_list_set
  have g2 := PySem.F.sub_list_frozenset
  have hne : (Value.type "list" == Value.type "dict") = false := by decide
  generalize hPI : pyIter = PI
  wp_walk
  subst hPI
  refine wpAny_pyIter_list hl1 (wpAny_bind (wpAny_runValue ?_))
  have hneI : l ≠ (s.heap.push (freshO w)).objs.size := by rw [hz]; exact Nat.ne_of_lt (Nat.lt_succ_of_lt hlS)
  have hSf : s.heap.objs.size ∉ [(s.heap.push (freshO w)).objs.size, l] := by
    rw [hz]
    simp only [List.mem_cons, List.not_mem_nil, or_false, not_or]
    exact ⟨Nat.ne_of_lt (Nat.lt_succ_self _), Nat.ne_of_gt hlS⟩
  refine loopS ((Walks.list (A := A'.in1) hh _ l hneI items).toS) s.heap.objs.size hSf xs hsz hb (fun i v hv => strs_get hi i v (by rw [Array.getElem?_toList]; exact hv)) (items.size - 0) 0 _ (by omega) (Nat.zero_le _) ⟨⟨_, Heap.get?_push_size _ rfl, rfl, rfl⟩, hl1.push _⟩ (fun ks e => ?_) ?_
  · subst e
    exact ⟨setS_fresh (Heap.get?_push_of_some _ hS), Nat.le_refl _⟩
  · intro s' hm hS'
    obtain ⟨h', g', d', tk', os'⟩ := s'
    have eg : g' = s.gens := hm.gens
    have ed : d' = s.drawn := hm.drawn
    have eo : os' = s.os := hm.os
    subst eg; subst ed; subst eo
    refine wpAny_pure (hq h' tk' hS' fun b o e => ?_)
    have hlt : b < s.heap.objs.size := Heap.lt_size e
    refine hm.heap b o ?_ (Heap.get?_push_of_some _ (Heap.get?_push_of_some _ e))
    simp only [List.mem_cons, List.not_mem_nil, or_false, not_or, hz]
    exact ⟨Nat.ne_of_lt hlt, Nat.ne_of_lt (Nat.lt_succ_of_lt hlt)⟩
theorem fills_text {x : Str} {t : Tok} (hb : x.cps.size + 1 < scanBound) : Fills P w s (.str x t) ((x.cps.toList.map fun k => (⟨#[k]⟩ : Str)).foldl insS []) := by
  intro A' E' Q' hh hq
  have hS : (s.heap.push (freshO w)).get? s.heap.objs.size = some (freshO w) := Heap.get?_push_size _ rfl
  have hz : (s.heap.push (freshO w)).objs.size = s.heap.objs.size + 1 := Heap.size_push ..
  unfold Builtin.Frozenset.updateFrom Builtin.Frozenset.isAnySet
  have g1 := PySem.F.sub_str_set
  have g2 := PySem.F.sub_str_frozenset
  have hne : (Value.type "str" == Value.type "dict") = false := by decide
  generalize hPI : pyIter = PI
  wp_walk
  subst hPI
  refine wpAny_pyIter_str fun o St W hst => wpAny_bind (wpAny_runValue ?_)
  have hSf : s.heap.objs.size ∉ [(s.heap.push (freshO w)).objs.size] := by
    rw [hz]
    simp
  refine loopS ((W A'.in1 hh).toS) s.heap.objs.size hSf (x.cps.toList.map fun k => (⟨#[k]⟩ : Str)) (by simp) (by simpa using hb) (fun i v hv => ?_) (x.cps.size - 0) 0 _ (by omega) (Nat.zero_le _) hst (fun ks e => ?_) ?_
  · obtain ⟨k, u, hk, rfl⟩ := hv
    exact ⟨⟨#[k]⟩, u, by rw [List.getElem?_map, Array.getElem?_toList, hk]; rfl, rfl⟩
  · subst e
    exact ⟨setS_fresh (Heap.get?_push_of_some _ hS), Nat.le_refl _⟩
  · intro s' hm hS'
    obtain ⟨h', g', d', tk', os'⟩ := s'
    have eg : g' = s.gens := hm.gens
    have ed : d' = s.drawn := hm.drawn
    have eo : os' = s.os := hm.os
    subst eg; subst ed; subst eo
    refine wpAny_pure (hq h' tk' hS' fun b u e => ?_)
    have hlt : b < s.heap.objs.size := Heap.lt_size e
    refine hm.heap b u ?_ (Heap.get?_push_of_some _ (Heap.get?_push_of_some _ e))
    simp only [List.mem_cons, List.not_mem_nil, or_false, not_or, hz]
    exact ⟨Nat.ne_of_lt hlt, Nat.ne_of_lt (Nat.lt_succ_of_lt hlt)⟩
/-! ### sorted -/
theorem strs_all : ∀ (l : List (Int × Value)), (∀ e ∈ l, GoodS w e) → StrsAre (l.map (·.2)) (l.map keyS)
  | [], _ => .nil
  | e :: l, h => by
    obtain ⟨k, tk, h1, _⟩ := h e List.mem_cons_self
    have q := strs_all l fun u hu => h u (List.mem_cons_of_mem _ hu)
    rw [List.map_cons, List.map_cons, h1, show keyS e = k by unfold keyS; rw [h1]]
    exact .cons k tk q
theorem strs_perm {vs us : List Value} {xs : List Str} (p : vs.Perm us) (h : StrsAre us xs) : ∃ ys, StrsAre vs ys ∧ ys.Perm xs := by
  induction p generalizing xs with
  | nil => exact ⟨xs, h, .refl _⟩
  | cons x p ih =>
    cases h with
    | cons y t r =>
      obtain ⟨ys, r1, r2⟩ := ih r
      exact ⟨y :: ys, .cons y t r1, r2.cons y⟩
  | swap x y l =>
    cases h with
    | cons a t r =>
      cases r with
      | cons b u r => exact ⟨b :: a :: _, .cons b u (.cons a t r), .swap ..⟩
  | trans p q ih1 ih2 =>
    obtain ⟨ys, r1, r2⟩ := ih2 h
    obtain ⟨zs, r3, r4⟩ := ih1 r1
    exact ⟨zs, r3, r4.trans r2⟩
theorem sorted_setS {a : Addr} {Q : Value → Shared → Prop} (R : SetS w s.heap a ks) (hh : A.handled = none)
    (hQ : ∀ s' p (out : Array Value) (c : Nat) (ns : List Str), (∀ b o, s.heap.get? b = some o → s'.heap.get? b = some o) → s'.gens = s.gens → s'.os = s.os → s.heap.objs.size ≤ p → s'.heap.get? p = some (seqObj "list" out c) → StrsAre out.toList ns → sortedS ns = true → ns.Perm ks → Q (.ref p) s') :
    wpAny (model P w) A (call (.builtin "sorted") [.ref a]) Q E s := by
  obtain ⟨o, es, ep, t, ho, hex, hd, F⟩ := R
  have hn : es.size = ks.length := by rw [← Array.length_toList, ← List.length_map (f := keyS), F.per.length_eq]
  refine Calls.call_function_entry kind_sorted plain_sorted entry_sorted (args_sorted1 _) ?_
  unfold Builtin.«sorted»
  refine wpAny_bind (m := checkCount "sorted" 1 1 _) (wpAny_pure (wpAny_bind (collect_set (A := A.in1) hh ⟨o, ho, hex.1, hd⟩ F.fits F.few F.ris F.led fun s1 vs k1 hz g1 o1 pm => ?_)))
  have hvl : vs.length = ks.length := by rw [pm.length_eq, List.length_map, Array.length_toList]; exact hn
  obtain ⟨ys, hy, py⟩ := strs_perm pm (strs_all es.toList F.good)
  have hL : vs.length ≤ sizeLine := by rw [hvl, ← hn]; exact fits_of_scanBound F.few
  refine wpAny_bind (wpAny_newList ?_ hL)
  have hoL : (s1.heap.push (seqObj "list" vs.toArray 0)).get? s1.heap.objs.size = some (seqObj "list" vs.toArray 0) := Heap.get?_push_size _ rfl
  refine wpAny_bind (wpAny_holding (wpAny_call_entry slot_list_sort ⟨_, hoL, rfl⟩ entry_list_sort (list_sort_treeKAny strKind_oneLt hoL hy.keysOf (fun v₁ v₂ rest e => keyKind_strs (by rw [← e]; exact hy)) hL fun st' hp hs => ⟨_, rfl, ?_⟩) (args_list_sort _)))
  obtain ⟨ss, r1, r2, r3⟩ := sorted_out_str hy hp hs
  obtain ⟨c, hc⟩ := sortedHeap_at (vs := vs) (out := (arrOf st').map (·.2)) hoL
  refine wpAny_pure ⟨_, rfl, hQ _ s1.heap.objs.size _ c ss (fun b u e => ?_) g1 o1 hz hc r1 r3 ((r2.trans py).trans F.per)⟩
  have q := k1 b u e
  have hlt := Heap.lt_size q
  show (sortedHeap (s1.heap.push (seqObj "list" vs.toArray 0)) s1.heap.objs.size vs _).get? b = some u
  rw [sortedHeap_old (Nat.ne_of_lt hlt) (by rw [size_push']; exact Nat.lt_succ_of_lt hlt)]
  exact Heap.get?_push_of_some _ q
end
end KU

namespace KL
open PySem L2

/-! ### data, store, results -/
inductive D where
  | non | bl (b : Bool) | int (i : Int) | str (x : Str) | tup (ds : List D) | lst (ds : List D) | loc (n : Nat) | scr (ns : List Int) | clo (t : Nat) (ds : List D) | raw (ds : List D)
inductive O where
  | lst (ds : List D) | dct (lk : Bool) (kvs : List (Str × D)) | dcT (lk : Bool) (kvs : List (List Int × D)) | ins (C : Str) (fs : List (Str × D)) | lsk (ds : List D)
abbrev Sto := List O
inductive R (α : Type) where
  | ok (a : α) (st : Sto) | ex (c : Str) (st : Sto) | no
def R.bind {α β : Type} (r : R α) (k : α → Sto → R β) : R β := match r with
  | .ok a st => k a st
  | .ex c st => .ex c st
  | .no => .no
/-- a name's content: a value, or a list that the frame alone holds -/
inductive Cell where
  | val (d : D) | own (ds : List D) | clo (t : Nat) (ds : List D)
abbrev Rho := List (Option Cell)
/-- what an expression gives: a value, a look at an own list, a new list that nobody holds yet -/
inductive TV where
  | d (d : D) | o (i : Nat) | fr (ds : List D)
abbrev Sm := Rho → Sto → R TV

/-! ### relations -/
/-- a lambda of the program: its words, its parameters, what it captures -/
structure LamD where
  qual : Str
  params : Arguments
  body : Expr
  scope : Scope
  ps : List Str
  fr : List Str
structure Ct where
  K : PySem.W.Frag
  ca : Str → Addr
  xc : Str → Value
  T : List (Addr × Str)
  L : List LamD
/-- an object that stands as it is -/
def PinO (a : Addr) (o : Obj) : HO := .ext fun h => h.get? a = some o
def KTup (K : PySem.W.Frag) (a : Addr) (xs : List V) : Prop := ∃ (o : Obj) (its : Array Value) (n : Nat), K.lookup a = some o ∧ o.cls = .type "tuple" ∧ o.dict = none ∧ o.data = .seq its n ∧ its.size ≤ sizeLine ∧ Vals xs its.toList
def KLst (K : PySem.W.Frag) (a : Addr) (xs : List V) : Prop := ∃ (o : Obj) (its : Array Value) (n : Nat), K.lookup a = some o ∧ o.cls = .type "list" ∧ o.dict = none ∧ o.data = .seq its n ∧ its.size ≤ sizeLine ∧ Vals xs its.toList
mutual
inductive Rv (c : Ct) (F : Hp) (io : List Addr) : V → D → Prop
  | non : Rv c F io .non .non
  | bl (b : Bool) : Rv c F io (.bl b) (.bl b)
  | int (i : Int) : Rv c F io (.int i) (.int i)
  | str (x : Str) : Rv c F io (.str x) (.str x)
  | tup {a : Addr} {vs : List V} {ds : List D} : ((∃ o, F a = some (.frz o (.tup vs)) ∧ a ∉ io ∧ o.dict = none) ∨ KTup c.K a vs) → RvAll c F io vs ds → Rv c F io (.ref a) (.tup ds)
  | raw {a : Addr} {vs : List V} {ds : List D} : F a = some (.tup vs) → a ∉ io → RvAll c F io vs ds → Rv c F io (.ref a) (.raw ds)
  | lst {a : Addr} {vs : List V} {ds : List D} : F a = some (.lst vs) → a ∉ io → RvAll c F io vs ds → Rv c F io (.ref a) (.lst ds)
  | loc {a : Addr} {n : Nat} : io[n]? = some a → Rv c F io (.ref a) (.loc n)
  | scr {a : Addr} {ns : List Int} : ((Rd F a (.lst (ns.map V.int)) ∧ a ∉ io) ∨ KLst c.K a (ns.map V.int)) → Rv c F io (.ref a) (.scr ns)
inductive RvAll (c : Ct) (F : Hp) (io : List Addr) : List V → List D → Prop
  | nil : RvAll c F io [] []
  | cons {v : V} {vs : List V} {d : D} {ds : List D} : Rv c F io v d → RvAll c F io vs ds → RvAll c F io (v :: vs) (d :: ds)
end
/-- the named values, in order -/
inductive RvF {κ : Type} (c : Ct) (F : Hp) (io : List Addr) : List (κ × V) → List (κ × D) → Prop
  | nil : RvF c F io [] []
  | cons {x : κ} {v : V} {vs : List (κ × V)} {d : D} {ds : List (κ × D)} : Rv c F io v d → RvF c F io vs ds → RvF c F io ((x, v) :: vs) ((x, d) :: ds)
/-- what of the text the class of an instance has -/
def ClsOk (c : Ct) (C : Str) (fs : List (Str × D)) : Prop := Cls c.K (c.ca C) ∧ ∀ p ∈ fs, NoAttr c.K (c.ca C) p.1
/-- the entries of a dict whose keys are tuples of whole numbers; it stays as it is -/
def DzP (a : Addr) (o : Obj) (xs : List (List Key × Addr × Value)) : Prop := o.ExactDict ∧ (a == sysModules) = false ∧ xs.length ≤ sizeLine ∧ (xs.map (·.1)).Nodup ∧ ∃ es ep, o.data = .dict es ep ∧ ∀ (P : Program) (w : World), es.toList = xs.map (entryOfKey (tupleKind (mixKind P w)))
def tI (ks : List Int) : D := .tup (ks.map D.int)
def Ob (c : Ct) (F : Hp) (io : List Addr) (a : Addr) : O → Prop
  | .lst ds => ∃ vs, F a = some (.lst vs) ∧ RvAll c F io vs ds
  | .dct false kvs => ∃ vs, F a = some (.dK (vs.map fun p => (Sum.inr p.1, p.2))) ∧ RvF c F io vs kvs
  | .dct true kvs => ∃ ob vs, F a = some (.frz ob (.dK (vs.map fun p => (Sum.inr p.1, p.2)))) ∧ RvF c F io vs kvs
  | .dcT _ kvs => ∃ o xs vs, F a = some (.frz o (.own 0)) ∧ DzP a o xs ∧ Paired (fun (p : List Int × V) (q : List Key × Addr × Value) => q.1 = p.1.map Sum.inl ∧ RelV p.2 q.2.2) vs xs ∧ RvAll c F io (xs.map fun q => V.ref q.2.1) (kvs.map fun p => tI p.1) ∧ RvF c F io vs kvs
  | .lsk ds => ∃ ob vs, F a = some (.frz ob (.lst vs)) ∧ RvAll c F io vs ds
  | .ins C fs => ∃ dx vs, F a = some (.ins (c.ca C) dx vs) ∧ F dx = some (.own a) ∧ dx ∉ io ∧ ClsOk c C fs ∧ RvF c F io vs fs
structure Sim (c : Ct) (F : Hp) (io : List Addr) (st : Sto) : Prop where
  len : io.length = st.length
  nd : io.Nodup
  ob : ∀ (n : Nat) (a : Addr) (o : O), io[n]? = some a → st[n]? = some o → Ob c F io a o
/-- no table of code objects is leant on -/
def NT (F : Hp) : Prop := ∀ a ps, F a ≠ some (HO.tbl ps)
theorem NT.upd {F : Hp} {p : Addr} {o : HO} (h : NT F) (ho : ∀ ps, o ≠ .tbl ps) : NT (upd F p o) := fun a ps e => by
  by_cases z : a = p
  · subst z; rw [upd_same] at e; exact ho ps (Option.some.inj e)
  · rw [upd_ne z] at e; exact h a ps e
/-- from one state to a later one: F what is leant on, io the store's places, H the heap -/
structure Stp (c : Ct) (F : Hp) (io : List Addr) (H F' : Hp) (io' : List Addr) (H' : Hp) : Prop where
  sub : ∀ a o, F' a = some o → H' a = some o
  ext : ∃ more, io' = io ++ more
  per : ∀ a o, F a = some o → a ∉ io → F' a = some o
  new : ∀ a, F' a ≠ none → F a ≠ none ∨ H a = none
  fr : ∀ a o, H a = some o → a ∉ io → (∀ ps, o ≠ .tbl ps) → H' a = some o
  gro : ∀ a, H' a = none → H a = none
  nio : ∀ a, a ∈ io' → a ∈ io ∨ H a = none
  tab : LamX.Tabs c.T H → LamX.Tabs c.T H'
  ntb : NT F → NT F'
  lck : ∀ a o u, F a = some (.frz o u) → F' a = some (.frz o u)

section
variable {c : Ct} {F F' F1 F2 H H' H1 H2 : Hp} {io io' io1 io2 : List Addr} {st st' : Sto}
theorem Ob.dom {a : Addr} {o : O} (h : Ob c F io a o) : F a ≠ none := by
  cases o with
  | lst ds => obtain ⟨vs, e, _⟩ := h; rw [e]; simp
  | dct lk kvs => cases lk with
    | false => obtain ⟨vs, e, _⟩ := h; rw [e]; simp
    | true => obtain ⟨ob, vs, e, _⟩ := h; rw [e]; simp
  | lsk ds => obtain ⟨ob, vs, e, _⟩ := h; rw [e]; simp
  | dcT lk kvs => obtain ⟨ob, xs, vs, e, _⟩ := h; rw [e]; simp
  | ins C fs => obtain ⟨dx, vs, e, _⟩ := h; rw [e]; simp
theorem Sim.dom (h : Sim c F io st) {a : Addr} (ha : a ∈ io) : F a ≠ none := by
  obtain ⟨n, hn⟩ := List.getElem?_of_mem ha
  have hl : n < st.length := by rw [← h.len]; exact (List.getElem?_eq_some_iff.mp hn).1
  exact (h.ob n a _ hn (List.getElem?_eq_getElem hl)).dom
theorem Stp.refl (hs : ∀ a o, F a = some o → H a = some o) : Stp c F io H F io H :=
  ⟨hs, ⟨[], by simp⟩, fun _ _ h _ => h, fun _ h => .inl h, fun _ _ h _ _ => h, fun _ h => h, fun _ h => .inl h, fun h => h, fun h => h, fun _ _ _ h => h⟩
theorem Stp.trans (hs : ∀ a o, F a = some o → H a = some o) (a : Stp c F io H F1 io1 H1) (b : Stp c F1 io1 H1 F2 io2 H2) : Stp c F io H F2 io2 H2 := by
  have nin : ∀ x o, H x = some o → x ∉ io → x ∉ io1 := fun x o h hn hx => by
    rcases a.nio x hx with z | z
    · exact hn z
    · rw [h] at z; cases z
  refine ⟨b.sub, ?_, fun x o h hn => b.per x o (a.per x o h hn) (nin x o (hs x o h) hn), fun x h => ?_, fun x o h hn ht => b.fr x o (a.fr x o h hn ht) (nin x o h hn) ht, fun x h => a.gro x (b.gro x h), fun x h => ?_, fun h => b.tab (a.tab h), fun h => b.ntb (a.ntb h), fun x o u h => b.lck x o u (a.lck x o u h)⟩
  · obtain ⟨m1, e1⟩ := a.ext
    obtain ⟨m2, e2⟩ := b.ext
    exact ⟨m1 ++ m2, by rw [e2, e1, List.append_assoc]⟩
  · rcases b.new x h with z | z
    · exact a.new x z
    · exact .inr (a.gro x z)
  · rcases b.nio x h with z | z
    · exact a.nio x z
    · exact .inr (a.gro x z)
theorem Stp.frL (S : Stp c F io H F' io' H') (a : Addr) (vs : List V) (h : H a = some (.lst vs)) (n : a ∉ io) : H' a = some (.lst vs) := S.fr a _ h n fun ps z => by cases z
theorem Stp.stays (S : Stp c F io H F' io' H') (hs : ∀ a o, F a = some o → H a = some o) {a : Addr} {o : HO} (h : F a = some o) (hn : a ∉ io) : a ∉ io' := fun hx => by
  rcases S.nio a hx with z | z
  · exact hn z
  · rw [hs a o h] at z; cases z
theorem Stp.ix (S : Stp c F io H F' io' H') {n : Nat} {a : Addr} (h : io[n]? = some a) : io'[n]? = some a := by
  obtain ⟨m, e⟩ := S.ext
  rw [e, List.getElem?_append_left (List.getElem?_eq_some_iff.mp h).1]
  exact h
mutual
theorem Rv.step {v : V} {d : D} (S : Stp c F io H F' io' H') (hs : ∀ a o, F a = some o → H a = some o) : Rv c F io v d → Rv c F' io' v d
  | .non => .non
  | .bl b => .bl b
  | .int i => .int i
  | .str x => .str x
  | .tup h r => .tup (h.imp (fun ⟨o, h1, h2, h3⟩ => ⟨o, S.per _ _ h1 h2, S.stays hs h1 h2, h3⟩) id) (RvAll.step S hs r)
  | .raw h n r => .raw (S.per _ _ h n) (S.stays hs h n) (RvAll.step S hs r)
  | .lst h n r => .lst (S.per _ _ h n) (S.stays hs h n) (RvAll.step S hs r)
  | .loc h => .loc (S.ix h)
  | .scr h => .scr (h.imp (fun ⟨h, n⟩ => by
      rcases h with h | ⟨o, h⟩
      · exact ⟨.inl (S.per _ _ h n), S.stays hs h n⟩
      · exact ⟨.inr ⟨o, S.per _ _ h n⟩, S.stays hs h n⟩) id)
theorem RvAll.step {vs : List V} {ds : List D} (S : Stp c F io H F' io' H') (hs : ∀ a o, F a = some o → H a = some o) : RvAll c F io vs ds → RvAll c F' io' vs ds
  | .nil => .nil
  | .cons h r => .cons (Rv.step S hs h) (RvAll.step S hs r)
end
theorem RvF.step {κ : Type} (S : Stp c F io H F' io' H') (hs : ∀ a o, F a = some o → H a = some o) : ∀ {vs : List (κ × V)} {ds : List (κ × D)}, RvF c F io vs ds → RvF c F' io' vs ds
  | _, _, .nil => .nil
  | _, _, .cons h r => .cons (h.step S hs) (RvF.step S hs r)
/-- the store's objects left as they are -/
theorem Sim.step (h : Sim c F io st) (S : Stp c F io H F' io' H') (hs : ∀ a o, F a = some o → H a = some o) (he : io' = io) (hk : ∀ a ∈ io, F' a = F a) : Sim c F' io' st := by
  subst he
  refine ⟨h.len, h.nd, fun n a o e1 e2 => ?_⟩
  have q := h.ob n a o e1 e2
  have ka := hk a (List.mem_of_getElem? e1)
  cases o with
  | lst ds => obtain ⟨vs, e, r⟩ := q; exact ⟨vs, by rw [ka]; exact e, r.step S hs⟩
  | dct lk kvs => cases lk with
    | false => obtain ⟨vs, e, r⟩ := q; exact ⟨vs, by rw [ka]; exact e, r.step S hs⟩
    | true => obtain ⟨ob, vs, e, r⟩ := q; exact ⟨ob, vs, by rw [ka]; exact e, r.step S hs⟩
  | lsk ds => obtain ⟨ob, vs, e, r⟩ := q; exact ⟨ob, vs, by rw [ka]; exact e, r.step S hs⟩
  | dcT lk kvs => obtain ⟨ob, xs, vs, e, z, p, rk, r⟩ := q; exact ⟨ob, xs, vs, by rw [ka]; exact e, z, p, rk.step S hs, r.step S hs⟩
  | ins C fs => obtain ⟨dx, vs, e, e2, e3, k, r⟩ := q; exact ⟨dx, vs, by rw [ka]; exact e, S.per _ _ e2 e3, e3, k, r.step S hs⟩
theorem RvAll.length : ∀ {vs : List V} {ds : List D}, RvAll c F io vs ds → vs.length = ds.length
  | _, _, .nil => rfl
  | _, _, .cons _ r => by rw [List.length_cons, List.length_cons, r.length]
theorem RvAll.append : ∀ {vs ws : List V} {ds es : List D}, RvAll c F io vs ds → RvAll c F io ws es → RvAll c F io (vs ++ ws) (ds ++ es)
  | _, _, _, _, .nil, s => s
  | _, _, _, _, .cons h r, s => .cons h (r.append s)
theorem RvAll.get : ∀ {vs : List V} {ds : List D} {i : Nat} {d : D}, RvAll c F io vs ds → ds[i]? = some d → ∃ v, vs[i]? = some v ∧ Rv c F io v d
  | _, _, 0, _, .cons h _, e => by simp at e; subst e; exact ⟨_, rfl, h⟩
  | _, _, i + 1, d, .cons _ r, e => by
    obtain ⟨v, e1, e2⟩ := RvAll.get (i := i) (d := d) r (by simpa using e)
    exact ⟨v, by simpa using e1, e2⟩
  | _, _, _, _, .nil, e => by simp at e
theorem RvAll.getV : ∀ {vs : List V} {ds : List D} {i : Nat} {v : V}, RvAll c F io vs ds → vs[i]? = some v → ∃ d, ds[i]? = some d ∧ Rv c F io v d
  | _, _, 0, _, .cons h _, e => by simp at e; subst e; exact ⟨_, rfl, h⟩
  | _, _, i + 1, d, .cons _ r, e => by
    obtain ⟨v, e1, e2⟩ := RvAll.getV (i := i) (v := d) r (by simpa using e)
    exact ⟨v, by simpa using e1, e2⟩
  | _, _, _, _, .nil, e => by simp at e
theorem RvAll.take (n : Nat) : ∀ {vs : List V} {ds : List D}, RvAll c F io vs ds → RvAll c F io (vs.take n) (ds.take n) := by
  induction n with
  | zero => intro vs ds h; simp; exact .nil
  | succ n ih =>
    intro vs ds h
    cases h with
    | nil => simp; exact .nil
    | cons h r => simp; exact .cons h (ih r)
theorem RvAll.drop (n : Nat) : ∀ {vs : List V} {ds : List D}, RvAll c F io vs ds → RvAll c F io (vs.drop n) (ds.drop n) := by
  induction n with
  | zero => intro vs ds h; simpa using h
  | succ n ih =>
    intro vs ds h
    cases h with
    | nil => simp; exact .nil
    | cons h r => simpa using ih r
end

/-! ### closures -/
abbrev lamObj (ld : LamD) (cl : List (Str × Addr)) (pm : Value) (c' : Addr) (ctv : Value) : Obj := PySem.W.kla_obj "<lambda>" ld.qual ld.params ld.body ld.scope cl pm c' ctv
/-- the captured cells hold the values -/
inductive CapR (c : Ct) (F : Hp) (io : List Addr) (cl : List (Str × Addr)) : List Str → List D → Prop
  | nil : CapR c F io cl [] []
  | cons {y : Str} {a : Addr} {co : Obj} {u : Value} {v : V} {d : D} {ys : List Str} {ds : List D} : cl.lookup y = some a → F a = some (PinO a co) → a ∉ io → co.data = .cell (some u) → RelV v u → Rv c F io v d → CapR c F io cl ys ds → CapR c F io cl (y :: ys) (d :: ds)
/-- a closure: the lambda t, with what it captured -/
def Rc (c : Ct) (F : Hp) (io : List Addr) (v : V) (t : Nat) (cs : List D) : Prop := ∃ (ld : LamD) (f c' : Addr) (cl : List (Str × Addr)) (pm ctv : Value), v = .ref f ∧ c.L[t]? = some ld ∧ F f = some (PinO f (lamObj ld cl pm c' ctv)) ∧ f ∉ io ∧ F c' = some (LamX.CodeO c' ld.qual) ∧ c' ∉ io ∧
  (∀ x y a, cl.lookup x = some a → cl.lookup y = some a → x = y) ∧ (∀ y a, cl.lookup y = some a → y ∈ ld.fr) ∧ CapR c F io cl ld.fr cs
section
variable {c : Ct} {F F' F1 F2 H H' H1 H2 : Hp} {io io' io1 io2 : List Addr} {st st' : Sto} {cl : List (Str × Addr)}
theorem CapR.imp (hf : ∀ a o, F a = some o → a ∉ io → F' a = some o ∧ a ∉ io') (hr : ∀ v d, Rv c F io v d → Rv c F' io' v d) : ∀ {ys : List Str} {ds : List D}, CapR c F io cl ys ds → CapR c F' io' cl ys ds
  | _, _, .nil => .nil
  | _, _, .cons h1 h2 h3 h4 h5 h6 r => .cons h1 (hf _ _ h2 h3).1 (hf _ _ h2 h3).2 h4 h5 (hr _ _ h6) (CapR.imp hf hr r)
theorem Rc.imp {v : V} {t : Nat} {cs : List D} (hf : ∀ a o, F a = some o → a ∉ io → F' a = some o ∧ a ∉ io') (hr : ∀ v d, Rv c F io v d → Rv c F' io' v d) (h : Rc c F io v t cs) : Rc c F' io' v t cs := by
  obtain ⟨ld, f, c', cl, pm, ctv, h1, h2, h3, h4, h5, h6, h7, h8, h9⟩ := h
  exact ⟨ld, f, c', cl, pm, ctv, h1, h2, (hf _ _ h3 h4).1, (hf _ _ h3 h4).2, (hf _ _ h5 h6).1, (hf _ _ h5 h6).2, h7, h8, h9.imp hf hr⟩
theorem Rc.step {v : V} {t : Nat} {cs : List D} (h : Rc c F io v t cs) (S : Stp c F io H F' io' H') (hs : ∀ a o, F a = some o → H a = some o) : Rc c F' io' v t cs :=
  h.imp (fun a o e n => ⟨S.per a o e n, S.stays hs e n⟩) fun v d r => r.step S hs
end
/-- an argument: a value or a closure -/
def RvA (c : Ct) (F : Hp) (io : List Addr) (v : V) : D → Prop
  | .clo t cs => Rc c F io v t cs
  | d => Rv c F io v d
inductive RvAs (c : Ct) (F : Hp) (io : List Addr) : List V → List D → Prop
  | nil : RvAs c F io [] []
  | cons {v : V} {vs : List V} {d : D} {ds : List D} : RvA c F io v d → RvAs c F io vs ds → RvAs c F io (v :: vs) (d :: ds)
section
variable {c : Ct} {F F' H H' : Hp} {io io' : List Addr}
theorem RvA.of {v : V} {d : D} (h : Rv c F io v d) : RvA c F io v d := by
  cases d with
  | clo t cs => cases h
  | _ => exact h
theorem RvA.step {v : V} {d : D} (h : RvA c F io v d) (S : Stp c F io H F' io' H') (hs : ∀ a o, F a = some o → H a = some o) : RvA c F' io' v d := by
  cases d with
  | clo t cs => exact Rc.step h S hs
  | _ => exact Rv.step S hs h
theorem RvAs.of : ∀ {vs : List V} {ds : List D}, RvAll c F io vs ds → RvAs c F io vs ds
  | _, _, .nil => .nil
  | _, _, .cons h r => .cons (RvA.of h) (RvAs.of r)
theorem RvAs.step (S : Stp c F io H F' io' H') (hs : ∀ a o, F a = some o → H a = some o) : ∀ {vs : List V} {ds : List D}, RvAs c F io vs ds → RvAs c F' io' vs ds
  | _, _, .nil => .nil
  | _, _, .cons h r => .cons (RvA.step h S hs) (RvAs.step S hs r)
theorem RvAs.length : ∀ {vs : List V} {ds : List D}, RvAs c F io vs ds → vs.length = ds.length
  | _, _, .nil => rfl
  | _, _, .cons _ r => by rw [List.length_cons, List.length_cons, r.length]
theorem RvAs.get : ∀ {vs : List V} {ds : List D} {i : Nat} {d : D}, RvAs c F io vs ds → ds[i]? = some d → ∃ v, vs[i]? = some v ∧ RvA c F io v d
  | _, _, 0, _, .cons h _, e => by simp at e; subst e; exact ⟨_, rfl, h⟩
  | _, _, i + 1, d, .cons _ r, e => by
    obtain ⟨v, e1, e2⟩ := RvAs.get (i := i) (d := d) r (by simpa using e)
    exact ⟨v, by simpa using e1, e2⟩
  | _, _, _, _, .nil, e => by simp at e
end

/-! ### the frame -/
structure Bs where
  F : Hp
  io : List Addr
  H : Hp
structure Good (c : Ct) (B : Bs) (F : Hp) (io : List Addr) (st : Sto) (rh : Rho) (σ : St) (H : Hp) : Prop where
  bsub : ∀ a o, B.F a = some o → B.H a = some o
  btab : LamX.Tabs c.T B.H
  bnt : NT B.F
  len : rh.length = σ.length
  stp : Stp c B.F B.io B.H F io H
  sim : Sim c F io st
  val : ∀ (i : Nat) (d : D), rh[i]? = some (some (.val d)) → ∃ v, σ[i]? = some (some v) ∧ Rv c F io v d
  own : ∀ (i : Nat) (ds : List D), rh[i]? = some (some (.own ds)) → ∃ a vs, σ[i]? = some (some (.ref a)) ∧ H a = some (.lst vs) ∧ F a = none ∧ B.H a = none ∧ RvAll c F io vs ds
  dis : ∀ (i j : Nat) (ds es : List D) (v : V), rh[i]? = some (some (.own ds)) → rh[j]? = some (some (.own es)) → σ[i]? = some (some v) → σ[j]? = some (some v) → i = j
  clo : ∀ (i t : Nat) (ds : List D), rh[i]? = some (some (.clo t ds)) → ∃ v, σ[i]? = some (some v) ∧ Rc c F io v t ds
section
variable {c : Ct} {B : Bs} {F F' H H' : Hp} {io io' : List Addr} {st st' : Sto} {rh : Rho} {σ : St}
theorem Good.sub (g : Good c B F io st rh σ H) : ∀ a o, F a = some o → H a = some o := g.stp.sub
theorem Good.step (g : Good c B F io st rh σ H) (S : Stp c F io H F' io' H') (s' : Sim c F' io' st') : Good c B F' io' st' rh σ H' := by
  refine ⟨g.bsub, g.btab, g.bnt, g.len, g.stp.trans g.bsub S, s', fun i d e => ?_, fun i ds e => ?_, g.dis, fun i t ds e => let ⟨v, e1, r⟩ := g.clo i t ds e; ⟨v, e1, r.step S g.sub⟩⟩
  · obtain ⟨v, e1, r⟩ := g.val i d e
    exact ⟨v, e1, r.step S g.sub⟩
  · obtain ⟨a, vs, e1, e2, e3, e4, r⟩ := g.own i ds e
    have nio : a ∉ io := fun h => g.sim.dom h e3
    refine ⟨a, vs, e1, S.fr a _ e2 nio (fun ps z => by cases z), ?_, e4, r.step S g.sub⟩
    cases q : F' a with
    | none => rfl
    | some o =>
      rcases S.new a (by rw [q]; simp) with z | z
      · exact absurd e3 z
      · rw [e2] at z; cases z
theorem Good.fresh (g : Good c B F io st rh σ H) {p : Addr} (h : H p = none) : F p = none ∧ p ∉ io ∧ B.H p = none := by
  have h1 : F p = none := by
    cases q : F p with
    | none => rfl
    | some o => rw [g.sub p o q] at h; cases h
  exact ⟨h1, fun z => g.sim.dom z h1, g.stp.gro p h⟩
/-- a new object that is leant on from now on -/
theorem Stp.add {p : Addr} {o : HO} (hs : ∀ a o, F a = some o → H a = some o) (h : H p = none) (ht : ∀ ps, o ≠ .tbl ps := by intro _ z; cases z) : Stp c F io H (upd F p o) io (upd H p o) := by
  have ne : ∀ a u, H a = some u → a ≠ p := fun a u e z => by subst z; rw [h] at e; cases e
  refine ⟨fun a u e => ?_, ⟨[], by simp⟩, fun a u e _ => ?_, fun a e => ?_, fun a u e _ _ => ?_, fun a e => ?_, fun _ h => .inl h, fun h0 => h0.ext fun a u e => by rw [upd_ne (ne a u e)]; exact e, fun h => h.upd ht, fun a o u e => by rw [upd_ne (ne a _ (hs a _ e))]; exact e⟩
  · by_cases z : a = p
    · subst z; rw [upd_same] at e ⊢; exact e
    · rw [upd_ne z] at e ⊢; exact hs a u e
  · rw [upd_ne (ne a u (hs a u e))]; exact e
  · by_cases z : a = p
    · subst z; exact .inr h
    · rw [upd_ne z] at e; exact .inl e
  · rw [upd_ne (ne a u e)]; exact e
  · by_cases z : a = p
    · subst z; exact h
    · rw [upd_ne z] at e; exact e
/-- a new object that is not leant on yet -/
theorem Stp.lay {p : Addr} {o : HO} (hs : ∀ a o, F a = some o → H a = some o) (h : H p = none) : Stp c F io H F io (upd H p o) := by
  have ne : ∀ a u, H a = some u → a ≠ p := fun a u e z => by subst z; rw [h] at e; cases e
  refine ⟨fun a u e => ?_, ⟨[], by simp⟩, fun a u e _ => e, fun a e => .inl e, fun a u e _ _ => ?_, fun a e => ?_, fun _ h => .inl h, fun h0 => h0.ext fun a u e => by rw [upd_ne (ne a u e)]; exact e, fun h => h, fun _ _ _ h => h⟩
  · rw [upd_ne (ne a u (hs a u e))]; exact hs a u e
  · rw [upd_ne (ne a u e)]; exact e
  · by_cases z : a = p
    · subst z; exact h
    · rw [upd_ne z] at e; exact e
/-- what was new at the start of a step is leant on behind it -/
theorem Stp.lean {p : Addr} {o : HO} (S : Stp c F io H F' io' H') (h : H p = none) (h' : H' p = some o) (hn : F' p = none) (ht : ∀ ps, o ≠ .tbl ps := by intro _ z; cases z) : Stp c F io H (upd F' p o) io' H' := by
  refine ⟨fun a u e => ?_, S.ext, fun a u e n => ?_, fun a e => ?_, S.fr, S.gro, S.nio, S.tab, fun h => (S.ntb h).upd ht, fun a o u e => by
    have q := S.lck a o u e
    rw [upd_ne (fun z => by subst z; rw [hn] at q; cases q)]; exact q⟩
  · by_cases z : a = p
    · subst z; rw [upd_same] at e; rw [h']; exact e
    · rw [upd_ne z] at e; exact S.sub a u e
  · have q := S.per a u e n
    rw [upd_ne (fun z => by subst z; rw [hn] at q; cases q)]; exact q
  · by_cases z : a = p
    · subst z; exact .inr h
    · rw [upd_ne z] at e; exact S.new a e
mutual
theorem Rv.more {v : V} {d : D} (hm : ∀ a o, F a = some o → F' a = some o) : Rv c F io v d → Rv c F' io v d
  | .non => .non
  | .bl b => .bl b
  | .int i => .int i
  | .str x => .str x
  | .tup h r => .tup (h.imp (fun ⟨o, h1, h2, h3⟩ => ⟨o, hm _ _ h1, h2, h3⟩) id) (RvAll.more hm r)
  | .raw h n r => .raw (hm _ _ h) n (RvAll.more hm r)
  | .lst h n r => .lst (hm _ _ h) n (RvAll.more hm r)
  | .loc h => .loc h
  | .scr h => .scr (h.imp (fun ⟨h, n⟩ => by
      rcases h with h | ⟨o, h⟩
      · exact ⟨.inl (hm _ _ h), n⟩
      · exact ⟨.inr ⟨o, hm _ _ h⟩, n⟩) id)
theorem RvAll.more {vs : List V} {ds : List D} (hm : ∀ a o, F a = some o → F' a = some o) : RvAll c F io vs ds → RvAll c F' io vs ds
  | .nil => .nil
  | .cons h r => .cons (Rv.more hm h) (RvAll.more hm r)
end
theorem RvF.more {κ : Type} (hm : ∀ a o, F a = some o → F' a = some o) : ∀ {vs : List (κ × V)} {ds : List (κ × D)}, RvF c F io vs ds → RvF c F' io vs ds
  | _, _, .nil => .nil
  | _, _, .cons h r => .cons (h.more hm) (RvF.more hm r)
theorem Sim.more (h : Sim c F io st) (hm : ∀ a o, F a = some o → F' a = some o) : Sim c F' io st := by
  refine ⟨h.len, h.nd, fun n a o e1 e2 => ?_⟩
  have q := h.ob n a o e1 e2
  cases o with
  | lst ds => obtain ⟨vs, e, r⟩ := q; exact ⟨vs, hm _ _ e, r.more hm⟩
  | dct lk kvs => cases lk with
    | false => obtain ⟨vs, e, r⟩ := q; exact ⟨vs, hm _ _ e, r.more hm⟩
    | true => obtain ⟨ob, vs, e, r⟩ := q; exact ⟨ob, vs, hm _ _ e, r.more hm⟩
  | lsk ds => obtain ⟨ob, vs, e, r⟩ := q; exact ⟨ob, vs, hm _ _ e, r.more hm⟩
  | dcT lk kvs => obtain ⟨ob, xs, vs, e, z, p, rk, r⟩ := q; exact ⟨ob, xs, vs, hm _ _ e, z, p, rk.more hm, r.more hm⟩
  | ins C fs => obtain ⟨dx, vs, e, e2, e3, k, r⟩ := q; exact ⟨dx, vs, hm _ _ e, hm _ _ e2, e3, k, r.more hm⟩
theorem upd_more {p : Addr} {o : HO} (h : F p = none) : ∀ a u, F a = some u → upd F p o a = some u := fun a u e => by
  rw [upd_ne (fun z => by subst z; rw [h] at e; cases e)]; exact e
end

/-- the tables stay where another object is written -/
theorem tabs_upd {T : List (Addr × Str)} {H : Hp} {p : Addr} {u o : HO} (h : LamX.Tabs T H) (hp : H p = some u) (h1 : ∀ ps, u ≠ .tbl ps) (h2 : ∀ φ, u ≠ .ext φ) : LamX.Tabs T (upd H p o) := by
  intro q hq
  obtain ⟨ps, a1, a2, a3⟩ := h q hq
  refine ⟨ps, ?_, a2, fun pos cv hc => ?_⟩
  · rw [upd_ne (fun z => h1 ps (by rw [z, hp] at a1; exact Option.some.inj a1))]
    exact a1
  · obtain ⟨c, e1, e2⟩ := a3 pos cv hc
    refine ⟨c, e1, ?_⟩
    rw [upd_ne (fun z => h2 _ (by rw [z, hp] at e2; exact Option.some.inj e2))]
    exact e2

/-! ### what an expression gives, seen in the heap -/
/-- right behind its making: H0 the heap ahead -/
def Tvs (c : Ct) (H0 F : Hp) (io : List Addr) (rh : Rho) (σ : St) (H : Hp) (v : V) : TV → Prop
  | .d d => Rv c F io v d
  | .o i => (∃ ds, rh[i]? = some (some (.own ds))) ∧ σ[i]? = some (some v)
  | .fr ds => ∃ p vs, v = .ref p ∧ H0 p = none ∧ H p = some (.lst vs) ∧ F p = none ∧ RvAll c F io vs ds
/-- later on -/
def Tvr (c : Ct) (F : Hp) (io : List Addr) (rh : Rho) (σ : St) (H : Hp) (v : V) : TV → Prop
  | .d d => Rv c F io v d
  | .o i => (∃ ds, rh[i]? = some (some (.own ds))) ∧ σ[i]? = some (some v)
  | .fr ds => ∃ p vs, v = .ref p ∧ H p = some (.lst vs) ∧ p ∉ io ∧ RvAll c F io vs ds
section
variable {c : Ct} {B : Bs} {F F' H H' H0 : Hp} {io io' : List Addr} {st st' : Sto} {rh : Rho} {σ : St} {v : V} {t : TV}
theorem Tvs.r (h : Tvs c H0 F io rh σ H v t) (hs : Sim c F io st) : Tvr c F io rh σ H v t := by
  cases t with
  | d d => exact h
  | o i => exact h
  | fr ds => obtain ⟨p, vs, e, _, h1, h2, r⟩ := h; exact ⟨p, vs, e, h1, fun z => hs.dom z h2, r⟩
theorem Tvr.step (h : Tvr c F io rh σ H v t) (S : Stp c F io H F' io' H') (hs : ∀ a o, F a = some o → H a = some o) : Tvr c F' io' rh σ H' v t := by
  cases t with
  | d d => exact Rv.step S hs h
  | o i => exact h
  | fr ds =>
    obtain ⟨p, vs, e, h1, h2, r⟩ := h
    refine ⟨p, vs, e, S.fr p _ h1 h2 (fun ps z => by cases z), fun z => ?_, r.step S hs⟩
    rcases S.nio p z with q | q
    · exact h2 q
    · rw [h1] at q; cases q
end

/-! ### an expression's reading -/
def Pst (c : Ct) (W : WX) (F : Hp) (io : List Addr) (rh : Rho) (σ : St) (H : Hp) (Q : VK) : R TV → Prop
  | .ok t st' => ∀ v H' F' io', Stp c F io H F' io' H' → Sim c F' io' st' → Tvs c H F' io' rh σ H' v t → Q v H'
  | .ex e st' => ∀ H' F' io', Stp c F io H F' io' H' → Sim c F' io' st' → W (c.xc e) none σ H'
  | .no => False
def den (c : Ct) (W : WX) (f : Sm) : TE := fun σ H Q => ∃ B F io st rh, Good c B F io st rh σ H ∧ Pst c W F io rh σ H Q (f rh st)
section
variable {c : Ct} {W : WX} {B : Bs} {F F1 H H1 : Hp} {io io1 : List Addr} {st st1 : Sto} {rh : Rho} {σ : St} {Q Q1 : VK}
theorem Tvs.back {H0 H1 F : Hp} {io : List Addr} {H : Hp} {v : V} {t : TV} (h : Tvs c H1 F io rh σ H v t) (hg : ∀ a, H1 a = none → H0 a = none) : Tvs c H0 F io rh σ H v t := by
  cases t with
  | d d => exact h
  | o i => exact h
  | fr ds => obtain ⟨p, vs, e, h0, r⟩ := h; exact ⟨p, vs, e, hg p h0, r⟩
theorem Pst.step {r : R TV} (g : Good c B F io st rh σ H) (S : Stp c F io H F1 io1 H1) (h : Pst c W F io rh σ H Q r) : Pst c W F1 io1 rh σ H1 Q r := by
  cases r with
  | ok t st' => exact fun v H' F' io' S' s' T' => h v H' F' io' (S.trans g.sub S') s' (T'.back S.gro)
  | ex e st' => exact fun H' F' io' S' s' => h H' F' io' (S.trans g.sub S') s'
  | no => exact h
/-- first one part, then what is done with it -/
theorem Pst.bind {r : R TV} {k : TV → Sto → R TV} (g : Good c B F io st rh σ H) (h : Pst c W F io rh σ H Q (r.bind k))
    (hk : ∀ (t : TV) (st1 : Sto) (v : V) (H1 F1 : Hp) (io1 : List Addr), r = .ok t st1 → Stp c F io H F1 io1 H1 → Good c B F1 io1 st1 rh σ H1 → Tvs c H F1 io1 rh σ H1 v t → Pst c W F1 io1 rh σ H1 Q (k t st1) → Q1 v H1) : Pst c W F io rh σ H Q1 r := by
  cases r with
  | ok t st' => exact fun v H' F' io' S s' T => hk t st' v H' F' io' rfl S (g.step S s') T (Pst.step (r := k t st') g S h)
  | ex e st' => exact h
  | no => exact h
end
theorem PE.weak {X : Cx} {e : Expr} {t t' : TE} (h : PE X e t) (hw : ∀ σ H Q, t' σ H Q → t σ H Q) : PE X e t' := ⟨fun pins s σ H Q I q => h.run pins s σ H Q I (hw σ H Q q)⟩
theorem PT.weak {X : Cx} {e : Expr} {t t' : TT} (h : PT X e t) (hw : ∀ σ H Q, t' σ H Q → t σ H Q) : PT X e t' := ⟨fun pins s σ H Q I q => h.run pins s σ H Q I (hw σ H Q q)⟩
theorem PE.or {X : Cx} {e : Expr} {t t' : TE} (h : PE X e t) (h' : PE X e t') : PE X e (fun σ H Q => t σ H Q ∨ t' σ H Q) := ⟨fun pins s σ H Q I q => q.elim (h.run pins s σ H Q I) (h'.run pins s σ H Q I)⟩
end KL

namespace KL
open PySem PySem.Spec PyProof.Rows L2
/-! ### new tuples, known to have no dict of their own -/
section
variable {X : Cx} {pins : List (Addr × Obj)} {σ : L2.St} {H : Hp} {s : Shared}
theorem laidF {h' : Heap} {a : Addr} {its : List Value} {xs : List V} {t' : Nat} (I : Inv X pins σ H s) (k : ∀ b u, s.heap.get? b = some u → h'.get? b = some u) (hp : s.heap.objs.size ≤ a) (e : h'.get? a = some { cls := .type "tuple", data := .seq its.toArray }) (r : Vals xs its) (hz : xs.length ≤ sizeLine) :
    Inv X pins σ (upd H a (.frz { cls := .type "tuple", data := .seq its.toArray } (.tup xs))) { s with heap := h', toks := t' } :=
  I.laid k hp ⟨e, hz, its, r, ⟨_, e, rfl, _, rfl⟩⟩
/-- what follows a new tuple -/
def NewF (H : Hp) (xs : List V) (Q : VK) : Prop := ∀ p o, H p = none → o.dict = none → Q (.ref p) (upd H p (.frz o (.tup xs)))
def tTupF (t : TA) : TE := fun σ H Q => t σ H fun xs H1 => xs.length ≤ sizeLine ∧ NewF H1 xs Q
theorem pe_tupF {es : List Expr} {t : TA} {pos : Pos} {x1 : Nat} (h : PA X es t) : PE X (.Tuple es x1 pos) (tTupF t) := by
  refine ⟨fun pins s σ H Q I hq => ?_⟩
  refine wpAny_Tuple_spliced (thn (h.run pos pins s σ H _ I hq) fun us s1 ⟨xs, H1, I1, r, z, q⟩ => ⟨by rw [← r.length]; exact z, ?_⟩)
  have hf : H1 s1.heap.objs.size = none := I1.hok.fresh (Nat.le_refl _)
  exact ⟨.ref s1.heap.objs.size, _, laidF (t' := s1.toks) I1 (fun b u e => Heap.get?_push_of_some _ e) (Nat.le_refl _) (Heap.get?_push_size _ rfl) r z, rfl, q _ _ hf rfl⟩
theorem call_tupleF : CallR X (.type "tuple") (fun xs H Q => ∃ p ys, xs = [.ref p] ∧ ((SqL X.K H p ys ∧ NewF H ys Q) ∨ (SqT X.K H p ys ∧ Q (.ref p) H))) := by
  intro pins s σ H xs us Q I r h
  obtain ⟨p, ys, rfl, h⟩ := h
  obtain ⟨u, rfl, rx⟩ := vals1 r
  cases rx
  rcases h with ⟨hq, q⟩ | ⟨hq, q⟩
  · obtain ⟨its, r', pl, hz⟩ := I.list hq
    have hlen := r'.length
    refine call_tuple_list pl.isList (fun h' kp => ?_) (by simp only [List.size_toArray] <;> omega)
    have I1 : Inv X pins σ H { s with heap := h' } := I.kept (t' := s.toks) kp
    have I2 := laidF (t' := s.toks) (h' := h'.push { cls := .type "tuple", data := .seq its.toArray }) (a := h'.objs.size) I1 (fun b o e => Heap.get?_push_of_some _ e) (Nat.le_refl _) (Heap.get?_push_size _ rfl) r' hz
    exact ⟨.ref h'.objs.size, _, I2, rfl, q h'.objs.size _ (I1.hok.fresh (Nat.le_refl _)) rfl⟩
  · obtain ⟨its, r', pl, hz⟩ := I.tuple hq
    exact call_tuple_same pl ⟨.ref p, H, I, rfl, q⟩
/-- t + u -/
def rCatF (K : PySem.W.Frag) : R2 := fun x y H Q => ∃ a b xs ys, x = .ref a ∧ y = .ref b ∧ SqT K H a xs ∧ SqT K H b ys ∧ xs.length + ys.length ≤ sizeLine ∧
  (xs = [] → Q (.ref b) H) ∧ (xs ≠ [] → ys = [] → Q (.ref a) H) ∧ (xs ≠ [] → ys ≠ [] → NewF H (xs ++ ys) Q)
theorem op_catF : OpR X (binaryOp .Add) (rCatF X.K) := by
  intro pins s σ H x y v u Q I rx ry h
  obtain ⟨a, b, xs, ys, rfl, rfl, ha, hb, hz, q0, q1, q2⟩ := h
  cases rx
  cases ry
  obtain ⟨its, r1, p1, _⟩ := I.tuple ha
  obtain ⟨its2, r2, p2, _⟩ := I.tuple hb
  by_cases hx : xs = []
  · subst hx
    cases r1
    exact cat_tup0 p1 p2 ⟨.ref b, H, I, rfl, q0 rfl⟩
  · refine HT.cat_tup p1 p2 (fun z => hx (r1.nil_iff.mp z)) (fun z => ⟨.ref a, H, I, rfl, q1 hx (r2.nil_iff.mp z)⟩) (fun z => ?_) (by rw [← r1.length, ← r2.length]; exact hz)
    exact ⟨.ref s.heap.objs.size, _, laidF (t' := s.toks) I (fun b ob q => Heap.get?_push_of_some _ q) (Nat.le_refl _) (Heap.get?_push_size _ rfl) (r1.append r2) (by rw [List.length_append]; exact hz), rfl, q2 hx (fun w => z (r2.nil_iff.mpr w)) _ _ (I.hok.fresh (Nat.le_refl _)) rfl⟩
/-- t[lo:hi]: the whole of it is t itself -/
def rSlF (K : PySem.W.Frag) : V → Option Int → Option Int → Hp → VK → Prop := fun x lo hi H Q => ∃ a xs, x = .ref a ∧ SqT K H a xs ∧
  (HT.sIx xs.length 0 lo = 0 ∧ HT.sIx xs.length xs.length hi = xs.length → Q (.ref a) H) ∧ (¬ (HT.sIx xs.length 0 lo = 0 ∧ HT.sIx xs.length xs.length hi = xs.length) → NewF H (cutV xs lo hi) Q)
theorem sl_tupF : SlR X (rSlF X.K) := by
  intro pins s σ H x v vl vu lo hi sl Q I rx hs pl pu h
  obtain ⟨a, xs, rfl, hx, q1, q2⟩ := h
  cases rx
  obtain ⟨its, r, ht, hz⟩ := I.tuple hx
  have hlen : its.toArray.size = xs.length := by rw [List.size_toArray]; exact r.length.symm
  refine ⟨"tuple", _, PyProof.Rows.slot_tuple_getitem.lookup, ht.typeIs, ?_⟩
  by_cases hw : HT.sIx xs.length 0 lo = 0 ∧ HT.sIx xs.length xs.length hi = xs.length
  · exact getItem_tuple_whole ht hs pl pu (by rw [hlen]; exact hw) ⟨.ref a, H, I, rfl, q1 hw⟩
  · refine HT.getItem_tuple_cut ht hs pl pu (by rw [hlen]; exact hw) ?_ (by rw [hlen]; exact hz)
    rw [hlen]
    exact ⟨.ref s.heap.objs.size, _, laidF (t' := s.toks) I (fun b ob q => Heap.get?_push_of_some _ q) (Nat.le_refl _) (Heap.get?_push_size _ rfl) ((r.drop (HT.sIx xs.length 0 lo)).take (HT.sIx xs.length xs.length hi - HT.sIx xs.length 0 lo)) (Nat.le_trans (cutV_length xs lo hi) hz), rfl, q2 hw _ _ (I.hok.fresh (Nat.le_refl _)) rfl⟩
end
end KL

namespace KL
open PySem L2

/-! ### looking at what an expression gave -/
def view (rh : Rho) (st : Sto) : TV → Option D
  | .d (.loc n) => (match st[n]? with
    | some (.lst ds) => some (.lst ds)
    | some _ => some (.loc n)
    | none => none)
  | .d d => some d
  | .o i => (match rh[i]? with
    | some (some (.own ds)) => some (.lst ds)
    | _ => none)
  | .fr ds => some (.lst ds)
def Vw (c : Ct) (F : Hp) (io : List Addr) (H : Hp) (v : V) : D → Prop
  | .lst ds => ∃ a vs, v = .ref a ∧ H a = some (.lst vs) ∧ RvAll c F io vs ds
  | d => Rv c F io v d
section
variable {c : Ct} {B : Bs} {F F' H H' : Hp} {io io' : List Addr} {st st' : Sto} {rh : Rho} {σ : St} {v : V} {t : TV} {d : D}
theorem Vw.of (hs : ∀ a o, F a = some o → H a = some o) (h : Rv c F io v d) : Vw c F io H v d := by
  cases d with
  | lst ds => cases h with | lst e n r => exact ⟨_, _, rfl, hs _ _ e, r⟩
  | _ => exact h
theorem view_ok (g : Good c B F io st rh σ H) (h : Tvr c F io rh σ H v t) (e : view rh st t = some d) : Vw c F io H v d := by
  cases t with
  | d d' =>
    cases d' with
    | loc n =>
      simp only [view] at e
      cases h with
      | loc hn =>
        have hl : n < st.length := by rw [← g.sim.len]; exact (List.getElem?_eq_some_iff.mp hn).1
        cases q : st[n]? with
        | none => rw [q] at e; cases e
        | some o =>
          rw [q] at e
          cases o with
          | lst ds =>
            simp only [Option.some.injEq] at e
            subst e
            obtain ⟨vs, e1, r⟩ := g.sim.ob n _ _ hn q
            exact ⟨_, vs, rfl, g.sub _ _ e1, r⟩
          | dct lk kvs => simp only [Option.some.injEq] at e; subst e; exact Rv.loc hn
          | dcT lk kvs => simp only [Option.some.injEq] at e; subst e; exact Rv.loc hn
          | lsk ds => simp only [Option.some.injEq] at e; subst e; exact Rv.loc hn
          | ins C fs => simp only [Option.some.injEq] at e; subst e; exact Rv.loc hn
    | _ => simp only [view, Option.some.injEq] at e; subst e; exact Vw.of g.sub h
  | o i =>
    obtain ⟨⟨ds, e1⟩, e2⟩ := h
    simp only [view, e1, Option.some.injEq] at e
    subst e
    obtain ⟨a, vs, e3, e4, e5, e6, r⟩ := g.own i ds e1
    rw [e2] at e3
    cases e3
    exact ⟨a, vs, rfl, e4, r⟩
  | fr ds =>
    simp only [view, Option.some.injEq] at e
    subst e
    obtain ⟨p, vs, e1, e2, e3, r⟩ := h
    exact ⟨p, vs, e1, e2, r⟩
/-- a tuple, as the layer reads it -/
theorem Rv.sqT {a : Addr} {ds : List D} (hs : ∀ a o, F a = some o → H a = some o) (h : Rv c F io v (.tup ds)) : ∃ a vs, v = .ref a ∧ SqT c.K H a vs ∧ RvAll c F io vs ds := by
  cases h with
  | tup h r =>
    refine ⟨_, _, rfl, ?_, r⟩
    rcases h with ⟨o, h, _⟩ | ⟨o, its, n, h1, h2, _, h3⟩
    · exact .inl (.inr ⟨o, hs _ _ h⟩)
    · exact .inr ⟨o, its, n, h1, h2, h3⟩
/-- what follows an operation that leaves the store -/
def Out (c : Ct) (F : Hp) (io : List Addr) (rh : Rho) (σ : St) (H : Hp) (Q : VK) (t : TV) : Prop :=
  ∀ v H' F', Stp c F io H F' io H' → (∀ a ∈ io, F' a = F a) → Tvs c H F' io rh σ H' v t → Q v H'
theorem Pst.out {W : WX} {Q : VK} (g : Good c B F io st rh σ H) (h : Pst c W F io rh σ H Q (.ok t st)) : Out c F io rh σ H Q t :=
  fun v H' F' S k T => h v H' F' io S (g.sim.step S g.sub rfl k) T
theorem Out.same {Q : VK} (hs : ∀ a o, F a = some o → H a = some o) (h : Out c F io rh σ H Q (.d d)) (r : Rv c F io v d) : Q v H := h v H F (Stp.refl hs) (fun _ _ => rfl) r
theorem Out.tup {Q : VK} {ds : List D} {vs : List V} (g : Good c B F io st rh σ H) (h : Out c F io rh σ H Q (.d (.tup ds))) (r : RvAll c F io vs ds) : NewF H vs Q := by
  intro p o hp hd
  obtain ⟨f1, f2, f3⟩ := g.fresh hp
  refine h _ _ (upd F p (.frz o (.tup vs))) (Stp.add g.sub hp) (fun a ha => ?_) (Rv.tup (.inl ⟨o, upd_same, f2, hd⟩) (r.more (upd_more f1)))
  rw [upd_ne (fun z => by subst z; exact f2 ha)]
theorem Out.raw {Q : VK} {ds : List D} {vs : List V} (g : Good c B F io st rh σ H) (h : Out c F io rh σ H Q (.d (.raw ds))) (r : RvAll c F io vs ds) (p : Addr) (hp : H p = none) : Q (.ref p) (upd H p (.tup vs)) := by
  obtain ⟨f1, f2, f3⟩ := g.fresh hp
  refine h _ _ (upd F p (.tup vs)) (Stp.add g.sub hp) (fun a ha => ?_) (Rv.raw upd_same f2 (r.more (upd_more f1)))
  rw [upd_ne (fun z => by subst z; exact f2 ha)]
theorem Out.lst {Q : VK} {ds : List D} {vs : List V} (g : Good c B F io st rh σ H) (h : Out c F io rh σ H Q (.fr ds)) (r : RvAll c F io vs ds) (p : Addr) (hp : H p = none) : Q (.ref p) (upd H p (.lst vs)) := by
  obtain ⟨f1, f2, f3⟩ := g.fresh hp
  exact h _ _ F (Stp.lay g.sub hp) (fun a ha => rfl) ⟨p, vs, rfl, hp, upd_same, f1, r⟩
end

/-! ### operators on data -/
instance decCMul (i j : Int) : Decidable (CMul i j) := by unfold CMul; infer_instance
instance decCDiv (i j : Int) : Decidable (CDiv i j) := by unfold CDiv; infer_instance
def binD : Operator → D → D → Option TV
  | .Add, .int i, .int j => some (.d (.int (i + j)))
  | .Add, .str i, .str j => if i.length + j.length ≤ sizeLine then some (.d (.str (i ++ j))) else none
  | .Add, .tup ds, .tup es => if ds.length + es.length ≤ sizeLine then some (.d (.tup (ds ++ es))) else none
  | .Add, .lst ds, .lst es => if ds.length + es.length ≤ sizeLine then some (.fr (ds ++ es)) else none
  | .Sub, .int i, .int j => some (.d (.int (i - j)))
  | .Mult, .int i, .int j => if CMul i j then some (.d (.int (i * j))) else none
  | .Mult, .lst ds, .int k => if -(2 ^ 63) ≤ k ∧ k < 2 ^ 63 ∧ ds.length * k.toNat ≤ sizeLine then some (.fr (List.replicate k.toNat ds).flatten) else none
  | .Mult, .tup ds, .int k => if ds.isEmpty = false ∧ 2 ≤ k ∧ k ≤ 1000 ∧ ds.length ≤ 1000 then some (.d (.raw (List.replicate k.toNat ds).flatten)) else none
  | .Mult, .str x, .int k => if x.length ≤ 1000 ∧ 0 ≤ k ∧ k ≤ 1000 then some (.d (.str (Txt.mul x k))) else none
  | .Mod, .int i, .int j => if 0 < j then some (.d (.int (i % j))) else none
  | .FloorDiv, .int i, .int j => if CDiv i j then some (.d (.int (i / j))) else none
  | _, _, _ => none
def rRepS : R2 := fun x y H Q => ∃ a k, x = .str a ∧ y = .int k ∧ (a.length ≤ 1000 ∧ 0 ≤ k ∧ k ≤ 1000) ∧ Q (.str (Txt.mul a k)) H
theorem op_repS {X : Cx} : OpR X (binaryOp .Mult) rRepS := by
  intro pins s σ H x y v u Q I rx ry h
  obtain ⟨a, k, rfl, rfl, hb, q⟩ := h
  obtain ⟨t, rfl⟩ := rx
  obtain ⟨t2, rfl⟩ := ry
  refine SB.mul (PyProof.Rows.mulOk_of 1000 1000 hb.1 (by omega) (by omega) (by decide) (by decide)) fun t' n => ?_
  exact ⟨.str (Txt.mul a k), H, I.tok _, ⟨_, rfl⟩, q⟩
theorem opR_false {X : Cx} {f : Value → Value → PySem.Sem Value} : OpR X f (fun _ _ _ _ => False) := fun _ _ _ _ _ _ _ _ _ _ _ _ h => h.elim
section
variable {X : Cx} {c : Ct} {B : Bs} {F H : Hp} {io : List Addr} {st : Sto} {rh : Rho} {σ : St}
theorem RvAll.flat : ∀ (k : Nat) {vs : List V} {ds : List D}, RvAll c F io vs ds → RvAll c F io (List.replicate k vs).flatten (List.replicate k ds).flatten
  | 0, _, _, _ => by simp; exact .nil
  | k + 1, vs, ds, h => by
    rw [List.replicate_succ, List.replicate_succ, List.flatten_cons, List.flatten_cons]
    exact h.append (RvAll.flat k h)
/-- an operator keeps to its data -/
def OpOk (c : Ct) (r : R2) (f : Sto → D → D → Option TV) : Prop := ∀ {B : Bs} {F H : Hp} {io : List Addr} {st : Sto} {rh : Rho} {σ : St} {x y : V} {d e : D} {t : TV} {Q : VK}, Good c B F io st rh σ H → Vw c F io H x d → Vw c F io H y e → f st d e = some t → Out c F io rh σ H Q t → r x y H Q
theorem bin_ok (hK : X.K = c.K) (op : Operator) : ∃ r, OpR X (binaryOp op) r ∧ OpOk c r (fun _ => binD op) := by
  cases op with
  | Add =>
    refine ⟨_, (op_add.or op_add_str).or (op_catF.or op_cat), ?_⟩
    intro B F H io st rh σ x y d e t Q g hx hy hf ho
    cases d <;> cases e <;> simp only [binD] at hf <;> try (cases hf; done)
    · rename_i i j
      cases hf
      cases hx; cases hy
      exact .inl (.inl ⟨i, j, rfl, rfl, ho.same g.sub (.int _)⟩)
    · rename_i i j
      split at hf
      · rename_i hl
        cases hf
        cases hx; cases hy
        exact .inl (.inr ⟨i, j, rfl, rfl, hl, ho.same g.sub (.str _)⟩)
      · cases hf
    · rename_i ds es
      split at hf
      · rename_i hl
        cases hf
        have hx' : Rv c F io x (.tup ds) := hx
        have hy' : Rv c F io y (.tup es) := hy
        obtain ⟨a, vs, rfl, q1, r1⟩ := Rv.sqT (a := 0) g.sub hx'
        obtain ⟨b, ws, rfl, q2, r2⟩ := Rv.sqT (a := 0) g.sub hy'
        refine .inr (.inl ⟨a, b, vs, ws, rfl, rfl, by rw [hK]; exact q1, by rw [hK]; exact q2, by rw [r1.length, r2.length]; exact hl, fun z => ?_, fun _ z => ?_, fun _ _ => ?_⟩)
        · subst z
          cases r1
          exact ho.same g.sub hy'
        · subst z
          cases r2
          rw [List.append_nil] at ho
          exact ho.same g.sub hx'
        · exact ho.tup g (r1.append r2)
      · cases hf
    · rename_i ds es
      split at hf
      · rename_i hl
        cases hf
        obtain ⟨a, vs, rfl, q1, r1⟩ := hx
        obtain ⟨b, ws, rfl, q2, r2⟩ := hy
        exact .inr (.inr ⟨a, b, vs, ws, rfl, rfl, q1, q2, by rw [r1.length, r2.length]; exact hl, fun p hp => ho.lst g (r1.append r2) p hp⟩)
      · cases hf
  | Sub =>
    refine ⟨_, op_sub, ?_⟩
    intro B F H io st rh σ x y d e t Q g hx hy hf ho
    cases d <;> cases e <;> simp only [binD] at hf <;> try (cases hf; done)
    cases hf; cases hx; cases hy
    exact ⟨_, _, rfl, rfl, ho.same g.sub (.int _)⟩
  | Mult =>
    refine ⟨_, ((op_mul.or op_rep).or op_repS).or op_repT, ?_⟩
    intro B F H io st rh σ x y d e t Q g hx hy hf ho
    cases d <;> cases e <;> simp only [binD] at hf <;> try (cases hf; done)
    · split at hf
      · rename_i hl
        cases hf; cases hx; cases hy
        exact .inl (.inl (.inl ⟨_, _, rfl, rfl, hl, ho.same g.sub (.int _)⟩))
      · cases hf
    · split at hf
      · rename_i hl
        cases hf; cases hx; cases hy
        exact .inl (.inr ⟨_, _, rfl, rfl, hl, ho.same g.sub (.str _)⟩)
      · cases hf
    · rename_i ds k
      split at hf
      · rename_i hl
        cases hf; cases hy
        have hx' : Rv c F io x (.tup ds) := hx
        obtain ⟨a, vs, rfl, q1, r1⟩ := Rv.sqT (a := 0) g.sub hx'
        refine .inr ⟨a, k, vs, rfl, rfl, by rw [hK]; exact q1, fun z => ?_, hl.2.1, hl.2.2.1, by rw [r1.length]; exact hl.2.2.2, fun p hp => ho.raw g (r1.flat _) p hp⟩
        subst z
        cases r1
        cases hl.1
      · cases hf
    · split at hf
      · rename_i hl
        cases hf; cases hy
        obtain ⟨a, vs, rfl, q1, r1⟩ := hx
        exact .inl (.inl (.inr ⟨a, _, vs, rfl, rfl, q1, hl.1, hl.2.1, by rw [r1.length]; exact hl.2.2, fun p hp => ho.lst g (r1.flat _) p hp⟩))
      · cases hf
  | Mod =>
    refine ⟨_, op_mod, ?_⟩
    intro B F H io st rh σ x y d e t Q g hx hy hf ho
    cases d <;> cases e <;> simp only [binD] at hf <;> try (cases hf; done)
    split at hf
    · rename_i hl
      cases hf; cases hx; cases hy
      exact ⟨_, _, rfl, rfl, hl, ho.same g.sub (.int _)⟩
    · cases hf
  | FloorDiv =>
    refine ⟨_, op_fdiv, ?_⟩
    intro B F H io st rh σ x y d e t Q g hx hy hf ho
    cases d <;> cases e <;> simp only [binD] at hf <;> try (cases hf; done)
    split at hf
    · rename_i hl
      cases hf; cases hx; cases hy
      exact ⟨_, _, rfl, rfl, hl, ho.same g.sub (.int _)⟩
    · cases hf
  | _ => exact ⟨_, opR_false, fun _ _ _ hf _ => by simp [binD] at hf⟩
end
end KL

namespace KL
open PySem L2

mutual
def toPy : D → Option PyData
  | .non => some .none
  | .bl b => some (.bool b)
  | .int i => some (.int i)
  | .str x => some (.str x)
  | .tup ds => (toPys ds).map .tuple
  | .lst ds => (toPys ds).map .list
  | .loc _ => none
  | .scr _ => none
  | .clo _ _ => none
  | .raw ds => (toPys ds).map .tuple
def toPys : List D → Option (List PyData)
  | [] => some []
  | d :: ds => (toPy d).bind fun p => (toPys ds).map fun ps => p :: ps
end
def eqG (d e : D) : Option Bool := (toPy d).bind fun p => (toPy e).bind fun q => if SeqAt.shaped p && SeqAt.shaped q then some (PyData.eqv p q) else none
def eqD : D → D → Option Bool
  | .int i, .int j => some (decide (i = j))
  | .str a, .str b => some (decide (a = b))
  | d, e => eqG d e
def flatD : D → Bool
  | .non => true
  | .bl _ => true
  | .int _ => true
  | .str _ => true
  | _ => false
def eqF : D → D → Bool
  | .non, .non => true
  | .bl a, .bl b => a == b
  | .bl a, .int b => (if a then 1 else 0) == b
  | .int a, .bl b => a == (if b then 1 else 0)
  | .int a, .int b => a == b
  | .str a, .str b => a == b
  | _, _ => false
def vget {κ : Type} [DecidableEq κ] (kvs : List (κ × D)) (k : κ) : Option D := (kvs.find? fun kv => decide (kv.1 = k)).map (·.2)
def keyI : List D → Option (List Int)
  | [] => some []
  | .int i :: ds => (keyI ds).map (i :: ·)
  | _ :: _ => none
/-- what a dict of the store has for a key; none: no such dict or key -/
def dget (st : Sto) (n : Nat) (k : D) : Option (Option D) := match st[n]?, k with
  | some (.dct _ kvs), .str x => some (vget kvs x)
  | some (.dcT _ kvs), .tup ds => (keyI ds).map (vget kvs)
  | _, _ => none
/-- in a list: by the values -/
def inG (d : D) (ds : List D) : Option Bool := (toPy d).bind fun p => (toPys ds).bind fun ps => if SeqAt.shaped p && SeqAt.shaped (.list ps) then some (ps.any fun z => PyData.eqv z p) else none
def inD (st : Sto) : D → D → Option Bool
  | d, .loc n => (dget st n d).map (·.isSome)
  | .str x, .str z => (match x.cps.toList with
    | [c] => some (decide (c ∈ z.cps.toList))
    | _ => none)
  | d, .tup ds => if flatD d && ds.all flatD then some (ds.any fun y => eqF y d) else none
  | d, .lst ds => if flatD d && ds.all flatD then some (ds.any fun y => eqF y d) else inG d ds
  | _, _ => none
def isD : D → D → Option Bool
  | .non, .non => some true
  | _, .non => some false
  | .bl a, .bl b => some (decide (a = b))
  | _, _ => none
def cmpD (st : Sto) : CmpOp → D → D → Option Bool
  | .Eq, d, e => eqD d e
  | .NotEq, d, e => (eqD d e).map (!·)
  | .Lt, .int i, .int j => some (decide (i < j))
  | .Lt, .str i, .str j => some (decide (i.cps.toList < j.cps.toList))
  | .LtE, .int i, .int j => some (decide (i ≤ j))
  | .Gt, .int i, .int j => some (decide (j < i))
  | .Gt, .str i, .str j => some (decide (j.cps.toList < i.cps.toList))
  | .GtE, .int i, .int j => some (decide (j ≤ i))
  | .In, d, e => inD st d e
  | .NotIn, d, e => (inD st d e).map (!·)
  | .Is, d, e => isD d e
  | .IsNot, d, e => (isD d e).map (!·)
  | _, _, _ => none

section
variable {X : Cx} {c : Ct} {B : Bs} {F H : Hp} {io : List Addr} {st : Sto} {rh : Rho} {σ : St}
mutual
theorem Rv.dp (hs : ∀ a o, F a = some o → H a = some o) : ∀ {v : V} {d : D} {p : PyData}, Rv c F io v d → toPy d = some p → Dp c.K H v p
  | _, _, _, .non, e => by cases e; exact .non
  | _, _, _, .bl b, e => by cases e; exact .bl b
  | _, _, _, .int b, e => by cases e; exact .int b
  | _, _, _, .str b, e => by cases e; exact .str b
  | _, _, _, .tup (vs := vs) (ds := ds) h r, e => by
    simp only [toPy, Option.map_eq_some_iff] at e
    obtain ⟨ps, e1, rfl⟩ := e
    refine .tup (xs := vs) ?_ (RvAll.dp hs r e1)
    rcases h with ⟨o, h, _⟩ | ⟨o, its, n, h1, h2, _, h3⟩
    · exact .inl (.inr ⟨o, hs _ _ h⟩)
    · exact .inr ⟨o, its, n, h1, h2, h3⟩
  | _, _, _, .raw (vs := vs) h _ r, e => by
    simp only [toPy, Option.map_eq_some_iff] at e
    obtain ⟨ps, e1, rfl⟩ := e
    exact .tup (xs := vs) (.inl (.inl (hs _ _ h))) (RvAll.dp hs r e1)
  | _, _, _, .lst (vs := vs) h n r, e => by
    simp only [toPy, Option.map_eq_some_iff] at e
    obtain ⟨ps, e1, rfl⟩ := e
    exact .lst (xs := vs) (.inl (.inl (hs _ _ h))) (RvAll.dp hs r e1)
  | _, _, _, .loc h, e => by cases e
  | _, _, _, .scr h, e => by cases e
theorem RvAll.dp (hs : ∀ a o, F a = some o → H a = some o) : ∀ {vs : List V} {ds : List D} {ps : List PyData}, RvAll c F io vs ds → toPys ds = some ps → DpAll c.K H vs ps
  | _, _, _, .nil, e => by cases e; exact .nil
  | _, _, _, .cons h r, e => by
    simp only [toPys, Option.bind_eq_some_iff, Option.map_eq_some_iff] at e
    obtain ⟨p, e1, ps, e2, rfl⟩ := e
    exact .cons (Rv.dp hs h e1) (RvAll.dp hs r e2)
end
theorem Vw.dp (hs : ∀ a o, F a = some o → H a = some o) {v : V} {d : D} {p : PyData} (h : Vw c F io H v d) (e : toPy d = some p) : Dp c.K H v p := by
  cases d with
  | lst ds =>
    obtain ⟨a, vs, rfl, h1, r⟩ := h
    simp only [toPy, Option.map_eq_some_iff] at e
    obtain ⟨ps, e1, rfl⟩ := e
    exact .lst (.inl (.inl h1)) (RvAll.dp hs r e1)
  | _ => exact Rv.dp hs h e
theorem Vw.non_iff {v : V} {d : D} (h : Vw c F io H v d) : (v = .non) ↔ (d = .non) := by
  cases d with
  | lst ds => obtain ⟨a, vs, rfl, _⟩ := h; simp
  | _ => cases h <;> simp
theorem Rv.flat {v : V} {d : D} (h : Rv c F io v d) (e : flatD d = true) : flatV v = true := by
  cases h <;> simp_all [flatD, flatV]
theorem Rv.eqf {v w : V} {d e : D} (h : Rv c F io v d) (h' : Rv c F io w e) (q : flatD d = true) (q' : flatD e = true) : eqV v w = eqF d e := by
  cases h <;> simp [flatD] at q <;> cases h' <;> simp [flatD] at q' <;> simp [eqV, eqF]
theorem RvAll.flats : ∀ {vs : List V} {ds : List D}, RvAll c F io vs ds → ds.all flatD = true → vs.all flatV = true
  | _, _, .nil, _ => rfl
  | _, _, .cons h r, e => by
    simp only [List.all_cons, Bool.and_eq_true] at e ⊢
    exact ⟨h.flat e.1, r.flats e.2⟩
theorem RvAll.inv {x : V} {d : D} (hx : Rv c F io x d) (fx : flatD d = true) : ∀ {vs : List V} {ds : List D}, RvAll c F io vs ds → ds.all flatD = true → inV x vs = ds.any fun y => eqF y d
  | _, _, .nil, _ => rfl
  | _, _, .cons h r, e => by
    simp only [List.all_cons, Bool.and_eq_true] at e
    have q := RvAll.inv hx fx r e.2
    unfold inV at q ⊢
    rw [List.any_cons, List.any_cons, q, h.eqf hx e.1 fx]
theorem Vw.flat {v : V} {d : D} (h : Vw c F io H v d) (e : flatD d = true) : Rv c F io v d := by
  cases d <;> first | exact h | (simp [flatD] at e)
def CmpOk (c : Ct) (r : R2) (f : Sto → D → D → Option Bool) : Prop := ∀ {B : Bs} {F H : Hp} {io : List Addr} {st : Sto} {rh : Rho} {σ : St} {x y : V} {d e : D} {b : Bool} {Q : VK}, Good c B F io st rh σ H → Vw c F io H x d → Vw c F io H y e → f st d e = some b → Q (.bl b) H → r x y H Q
theorem eq_ok (hK : X.K = c.K) (g : Good c B F io st rh σ H) {x y : V} {d e : D} {b : Bool} (hx : Vw c F io H x d) (hy : Vw c F io H y e) (hf : eqG d e = some b) :
    ∃ p q, Dp X.K H x p ∧ Dp X.K H y q ∧ SeqAt.shaped p = true ∧ SeqAt.shaped q = true ∧ b = PyData.eqv p q := by
  simp only [eqG, Option.bind_eq_some_iff] at hf
  obtain ⟨p, e1, q, e2, hf⟩ := hf
  split at hf
  · rename_i hs
    rw [Bool.and_eq_true] at hs
    cases hf
    exact ⟨p, q, by rw [hK]; exact hx.dp g.sub e1, by rw [hK]; exact hy.dp g.sub e2, hs.1, hs.2, rfl⟩
  · cases hf
theorem eqd_ok (g : Good c B F io st rh σ H) {x y : V} {d e : D} {b : Bool} (hx : Vw c F io H x d) (hy : Vw c F io H y e) (hf : eqD d e = some b) :
    (scal x y = true ∧ b = decide (x = y)) ∨ eqG d e = some b := by
  unfold eqD at hf
  split at hf
  · cases hf; cases hx; cases hy
    exact .inl ⟨rfl, by simp⟩
  · cases hf; cases hx; cases hy
    exact .inl ⟨rfl, by simp⟩
  · exact .inr hf
/-! ### dicts of the store, read -/
/-- what the dict at a has for the key y -/
def DG (K : PySem.W.Frag) (H : Hp) (a : Addr) (y : V) (p : Option V) : Prop := (∃ kvs k, Rd H a (.dK kvs) ∧ y = kV k ∧ p = valV kvs k) ∨ ∃ o xs k b, H a = some (.frz o (.own 0)) ∧ DzP a o xs ∧ (∀ x ∈ xs, SqT K H x.2.1 (x.1.map kV)) ∧ y = .ref b ∧ SqT K H b (k.map kV) ∧ RelO p ((atKey xs k).map (·.2))
def OptR (c : Ct) (F : Hp) (io : List Addr) : Option V → Option D → Prop
  | some v, some d => Rv c F io v d
  | none, none => True
  | _, _ => False
theorem key_sq {pins : List (Addr × Obj)} {s : Shared} {b : Addr} {ks : List Key} (I : Inv X pins σ H s) (e : SqT X.K H b (ks.map kV)) : (tupleKind (mixKind X.prog X.w)).is s.heap ks b := by
  obtain ⟨its, r, ⟨o, h1, h2, n, h3⟩, _⟩ := I.tuple e
  exact ⟨o, its.toArray, n, h1, h2, h3, by simpa using items_are r⟩
theorem dz_of {pins : List (Addr × Obj)} {s : Shared} {a : Addr} {o : Obj} {xs : List (List Key × Addr × Value)} (I : Inv X pins σ H s) (e : H a = some (.frz o (.own 0))) (z : DzP a o xs) (hk : ∀ x ∈ xs, SqT X.K H x.2.1 (x.1.map kV)) : s.heap.DictOfH (tupleKind (mixKind X.prog X.w)) a xs := by
  obtain ⟨h1, _⟩ := I.hok a _ e
  obtain ⟨z1, z2, z3, z4, es, ep, z5, z6⟩ := z
  exact ⟨o, es, ep, h1, z1, z5, z6 _ _, fun x hx => key_sq I (hk x hx), z4⟩
def rDIn (K : PySem.W.Frag) (neg : Bool) : R2 := fun y x H Q => ∃ a p, x = .ref a ∧ DG K H a y p ∧ Q (.bl (if neg then !p.isSome else p.isSome)) H
theorem op_din (hu : X.A.units + 1 < cLine) : OpR X (compareOp .In) (rDIn X.K false) := by
  intro pins s σ H y x u v Q I ry rx h
  obtain ⟨a, p, rfl, g, q⟩ := h
  obtain rfl : v = Value.ref a := rx
  rcases g with ⟨kvs, k, e, ey, l⟩ | ⟨o, xs, k, b, e, z, hk, ey, eb, l⟩
  · exact d_in hu I (.inl ⟨kvs, k, e, ey, l⟩) ry fun s' I' => ⟨.bl p.isSome, H, I', rfl, q⟩
  · subst ey
    cases (show u = Value.ref b from ry)
    have dd := dz_of I e z hk
    refine wpAny_in_heap (tupleKind_room_in1 hu) (key_sq I eb) z.2.1 dd ?_
    have z := l.isSome_eq
    rw [Option.isSome_map] at z
    rw [← z]
    exact ⟨.bl p.isSome, H, I.tok _, rfl, q⟩
theorem op_dnin (hu : X.A.units + 1 < cLine) : OpR X (compareOp .NotIn) (rDIn X.K true) := by
  intro pins s σ H y x u v Q I ry rx h
  obtain ⟨a, p, rfl, g, q⟩ := h
  obtain rfl : v = Value.ref a := rx
  rcases g with ⟨kvs, k, e, ey, l⟩ | ⟨o, xs, k, b, e, z, hk, ey, eb, l⟩
  · exact d_notIn hu I (.inl ⟨kvs, k, e, ey, l⟩) ry fun s' I' => ⟨.bl (!p.isSome), H, I', rfl, q⟩
  · subst ey
    cases (show u = Value.ref b from ry)
    have dd := dz_of I e z hk
    refine PyProof.Rows.wpAny_notIn_heap (tupleKind_room_in1 hu) (key_sq I eb) z.2.1 dd ?_
    have z := l.isSome_eq
    rw [Option.isSome_map] at z
    rw [← z]
    exact ⟨.bl (!p.isSome), H, I.tok _, rfl, q⟩
theorem RvF.val {κ κ' : Type} [DecidableEq κ] [DecidableEq κ'] {f : κ → κ'} (hf : ∀ a b, f a = f b → a = b) (k : κ) : ∀ {vs : List (κ × V)} {kvs : List (κ × D)}, RvF c F io vs kvs → OptR c F io (valV (vs.map fun p => (f p.1, p.2)) (f k)) (vget kvs k)
  | _, _, .nil => True.intro
  | _, _, .cons (x := x) (v := v) (vs := vs) (d := d) (ds := ds) h r => by
    rw [List.map_cons]
    by_cases e : x = k
    · subst e
      rw [valV_pos rfl]
      unfold vget
      rw [List.find?_cons, decide_eq_true rfl]
      exact h
    · rw [valV_neg (fun z => e (hf _ _ z))]
      have q := RvF.val hf k r
      unfold vget at q ⊢
      rw [List.find?_cons, decide_eq_false e]
      exact q
theorem inr_inj : ∀ a b : Str, (Sum.inr a : Key) = Sum.inr b → a = b := fun _ _ h => Sum.inr.inj h
theorem inls_inj : ∀ a b : List Int, a.map (Sum.inl : Int → Key) = b.map Sum.inl → a = b
  | [], [], _ => rfl
  | [], _ :: _, h => by simp at h
  | _ :: _, [], h => by simp at h
  | x :: xs, y :: ys, h => by
    rw [List.map_cons, List.map_cons] at h
    injection h with h1 h2
    rw [Sum.inl.inj h1, inls_inj xs ys h2]
theorem keyI_ok : ∀ {vs : List V} {ds : List D} {ks : List Int}, RvAll c F io vs ds → keyI ds = some ks → vs = (ks.map (Sum.inl : Int → Key)).map kV
  | _, _, _, .nil, h => by cases h; rfl
  | _, _, _, .cons (d := d) h r, e => by
    cases d <;> simp only [keyI, Option.map_eq_some_iff, reduceCtorEq] at e
    obtain ⟨ks, e1, rfl⟩ := e
    cases h
    rw [List.map_cons, List.map_cons, keyI_ok r e1]
    rfl
theorem RvAll.uncons {v : V} {vs : List V} {d : D} {ds : List D} (h : RvAll c F io (v :: vs) (d :: ds)) : Rv c F io v d ∧ RvAll c F io vs ds := by
  cases h with
  | cons a b => exact ⟨a, b⟩
theorem keyI_ints : ∀ ks : List Int, keyI (ks.map D.int) = some ks
  | [] => rfl
  | k :: ks => by
    rw [List.map_cons]
    unfold keyI
    rw [keyI_ints ks]
    rfl
theorem dz_keys (hs : ∀ a o, F a = some o → H a = some o) : ∀ {vs : List (List Int × V)} {xs : List (List Key × Addr × Value)} {kvs : List (List Int × D)}, Paired (fun (p : List Int × V) (q : List Key × Addr × Value) => q.1 = p.1.map Sum.inl ∧ RelV p.2 q.2.2) vs xs → RvAll c F io (xs.map fun q => V.ref q.2.1) (kvs.map fun p => tI p.1) → RvF c F io vs kvs → ∀ x ∈ xs, SqT c.K H x.2.1 (x.1.map kV)
  | _, _, _, .nil, _, _ => fun x hx => by cases hx
  | _, _, _, .cons (b := q) h t, rk, .cons hv r => fun x hx => by
    rw [List.map_cons, List.map_cons] at rk
    obtain ⟨hd, rk⟩ := rk.uncons
    rcases List.mem_cons.mp hx with e | e
    · subst e
      obtain ⟨b, ws, e1, q1, r1⟩ := Rv.sqT (a := 0) hs hd
      cases e1
      have ew := keyI_ok r1 (keyI_ints _)
      subst ew
      rw [h.1]
      exact q1
    · exact dz_keys hs t rk r x e
theorem dz_val {vs : List (List Int × V)} {xs : List (List Key × Addr × Value)} (r : Paired (fun (p : List Int × V) (q : List Key × Addr × Value) => q.1 = p.1.map Sum.inl ∧ RelV p.2 q.2.2) vs xs) (k : List Key) : RelO (valV (vs.map fun p => (p.1.map Sum.inl, p.2)) k) ((atKey xs k).map (·.2)) := by
  induction r with
  | nil => exact True.intro
  | @cons p q ps qs h t ih =>
    obtain ⟨h1, h2⟩ := h
    rw [List.map_cons]
    by_cases e : p.1.map Sum.inl = k
    · have e' : q.1 = k := h1.trans e
      have b : atKey (q :: qs) k = some q.2 := by simp [atKey, List.find?_cons, e']
      rw [valV_pos e, b]; exact h2
    · have e' : ¬ q.1 = k := fun z => e (h1.symm.trans z)
      have b : atKey (q :: qs) k = atKey qs k := by simp [atKey, List.find?_cons, e']
      rw [valV_neg e, b]; exact ih
theorem dget_ok (hK : X.K = c.K) (g : Good c B F io st rh σ H) {n : Nat} {x y : V} {k : D} {o : Option D} (hx : Rv c F io x (.loc n)) (hy : Vw c F io H y k) (h : dget st n k = some o) : ∃ a p, x = .ref a ∧ DG X.K H a y p ∧ OptR c F io p o := by
  cases hx with
  | loc hn =>
    rename_i a
    unfold dget at h
    split at h
    · rename_i lk kvs x hs
      cases h
      cases hy
      have q := g.sim.ob n a _ hn hs
      cases lk with
      | false => obtain ⟨vs, e, r⟩ := q; exact ⟨a, _, rfl, .inl ⟨_, Sum.inr x, .inl (g.sub _ _ e), rfl, rfl⟩, r.val inr_inj x⟩
      | true => obtain ⟨ob, vs, e, r⟩ := q; exact ⟨a, _, rfl, .inl ⟨_, Sum.inr x, .inr ⟨ob, g.sub _ _ e⟩, rfl, rfl⟩, r.val inr_inj x⟩
    · rename_i lk kvs ds hs
      rw [Option.map_eq_some_iff] at h
      obtain ⟨ks, e1, rfl⟩ := h
      have hy' : Rv c F io y (.tup ds) := hy
      obtain ⟨b, ws, rfl, q1, r1⟩ := Rv.sqT (a := 0) g.sub hy'
      have ew := keyI_ok r1 e1
      subst ew
      have q := g.sim.ob n a _ hn hs
      obtain ⟨ob, xs, vs, e, z, pr, rk, r⟩ := q
      exact ⟨a, _, rfl, .inr ⟨ob, xs, ks.map Sum.inl, b, g.sub _ _ e, z, by rw [hK]; exact dz_keys g.sub pr rk r, rfl, by rw [hK]; exact q1, dz_val pr _⟩, r.val inls_inj ks⟩
    · cases h
theorem OptR.some_eq {p : Option V} {o : Option D} (h : OptR c F io p o) : p.isSome = o.isSome := by
  cases p <;> cases o <;> first | rfl | exact h.elim
theorem in_ok (hK : X.K = c.K) (g : Good c B F io st rh σ H) {x y : V} {d e : D} {b : Bool} (hx : Vw c F io H x d) (hy : Vw c F io H y e) (hf : inD st d e = some b) :
    (∃ a p, y = .ref a ∧ DG X.K H a x p ∧ b = p.isSome) ∨ (∃ (k : Nat) (z : Str), x = .str ⟨#[k]⟩ ∧ y = .str z ∧ b = decide (k ∈ z.cps.toList)) ∨
    (∃ p xs, y = .ref p ∧ (SqL X.K H p xs ∨ SqT X.K H p xs) ∧ flatV x = true ∧ xs.all flatV = true ∧ b = inV x xs) ∨
    (∃ p ps, Dp X.K H x p ∧ Dp X.K H y (.list ps) ∧ SeqAt.shaped p = true ∧ SeqAt.shaped (.list ps) = true ∧ b = ps.any fun z => PyData.eqv z p) := by
  have seq : ∀ ds : List D, (∃ p xs, y = .ref p ∧ (SqL X.K H p xs ∨ SqT X.K H p xs) ∧ RvAll c F io xs ds) → (if flatD d && ds.all flatD then some (ds.any fun y => eqF y d) else none) = some b →
      ∃ p xs, y = .ref p ∧ (SqL X.K H p xs ∨ SqT X.K H p xs) ∧ flatV x = true ∧ xs.all flatV = true ∧ b = inV x xs := by
    intro ds ⟨p, xs, e1, e2, r⟩ hf
    split at hf
    · rename_i hc
      rw [Bool.and_eq_true] at hc
      cases hf
      have hx' := hx.flat hc.1
      exact ⟨p, xs, e1, e2, hx'.flat hc.1, r.flats hc.2, (RvAll.inv hx' hc.1 r hc.2).symm⟩
    · cases hf
  cases e with
  | loc n =>
    have hf : (dget st n d).map (·.isSome) = some b := by cases d <;> exact hf
    rw [Option.map_eq_some_iff] at hf
    obtain ⟨o, h1, rfl⟩ := hf
    obtain ⟨a, p, e1, e2, e3⟩ := dget_ok hK g hy hx h1
    exact .inl ⟨a, p, e1, e2, e3.some_eq.symm⟩
  | str z =>
    cases d with
    | str s =>
      simp only [inD] at hf
      cases hx; cases hy
      split at hf
      · rename_i k hk
        cases hf
        refine .inr (.inl ⟨k, z, ?_, rfl, rfl⟩)
        congr 1
        cases s
        rename_i a
        congr 1
        exact Array.toList_inj.mp (by simpa using hk)
      · cases hf
    | _ => simp [inD] at hf
  | tup ds =>
    refine .inr (.inr (.inl (seq ds ?_ (by cases d <;> exact hf))))
    have hy' : Rv c F io y (.tup ds) := hy
    obtain ⟨a, vs, e1, q1, r1⟩ := Rv.sqT (a := 0) g.sub hy'
    exact ⟨a, vs, e1, .inr (by rw [hK]; exact q1), r1⟩
  | lst ds =>
    have hf : (if flatD d && ds.all flatD then some (ds.any fun y => eqF y d) else inG d ds) = some b := by cases d <;> exact hf
    by_cases hfl : (flatD d && ds.all flatD) = true
    · rw [if_pos hfl] at hf
      refine .inr (.inr (.inl (seq ds ?_ (by rw [if_pos hfl]; exact hf))))
      obtain ⟨a, vs, e1, q1, r1⟩ := hy
      exact ⟨a, vs, e1, .inl (.inl (.inl q1)), r1⟩
    · rw [if_neg hfl] at hf
      unfold inG at hf
      rw [Option.bind_eq_some_iff] at hf
      obtain ⟨p, h1, hf⟩ := hf
      rw [Option.bind_eq_some_iff] at hf
      obtain ⟨ps, h2, hf⟩ := hf
      split at hf
      · rename_i hc
        rw [Bool.and_eq_true] at hc
        cases hf
        refine .inr (.inr (.inr ⟨p, ps, by rw [hK]; exact hx.dp g.sub h1, by rw [hK]; exact Vw.dp (d := .lst ds) g.sub hy (by simp [toPy, h2]), hc.1, hc.2, rfl⟩))
      · cases hf
  | _ => cases d <;> simp [inD] at hf
theorem is_ok (g : Good c B F io st rh σ H) {x y : V} {d e : D} {b : Bool} (hx : Vw c F io H x d) (hy : Vw c F io H y e) (hf : isD d e = some b) :
    (y = .non ∧ b = decide (x = .non)) ∨ ∃ a k : Bool, x = .bl a ∧ y = .bl k ∧ b = decide (a = k) := by
  cases e with
  | non =>
    refine .inl ⟨hy.non_iff.mpr rfl, ?_⟩
    have q := hx.non_iff
    cases d with
    | non => simp [isD] at hf; subst hf; symm; simp [q]
    | _ => simp [isD] at hf; subst hf; symm; simp [q]
  | bl k =>
    cases d with
    | bl a =>
      simp only [isD, Option.some.injEq] at hf
      cases hx; cases hy
      exact .inr ⟨a, k, rfl, rfl, hf.symm⟩
    | _ => simp [isD] at hf
  | _ => cases d <;> simp [isD] at hf
theorem cmp_ok (hK : X.K = c.K) (hu : X.A.units + 65 < cLine) (op : CmpOp) : ∃ r, OpR X (compareOp op) r ∧ CmpOk c r (fun st => cmpD st op) := by
  cases op with
  | Eq =>
    refine ⟨_, op_eq.or (op_eqD (by omega)), ?_⟩
    intro B F H io st rh σ x y d e b Q g hx hy hf q
    rcases eqd_ok g hx hy hf with ⟨h1, rfl⟩ | hf
    · exact .inl ⟨h1, q⟩
    · obtain ⟨p, z, h1, h2, h3, h4, rfl⟩ := eq_ok hK g hx hy hf
      exact .inr ⟨p, z, h1, h2, h3, h4, q⟩
  | NotEq =>
    refine ⟨_, op_ne.or (op_neD (by omega)), ?_⟩
    intro B F H io st rh σ x y d e b Q g hx hy hf q
    simp only [cmpD, Option.map_eq_some_iff] at hf
    obtain ⟨b', hf, rfl⟩ := hf
    rcases eqd_ok g hx hy hf with ⟨h1, rfl⟩ | hf
    · exact .inl ⟨h1, q⟩
    · obtain ⟨p, z, h1, h2, h3, h4, rfl⟩ := eq_ok hK g hx hy hf
      exact .inr ⟨p, z, h1, h2, h3, h4, q⟩
  | Lt =>
    refine ⟨_, op_lt.or op_lt_str, ?_⟩
    intro B F H io st rh σ x y d e b Q g hx hy hf q
    cases d <;> cases e <;> simp only [cmpD] at hf <;> try (cases hf; done)
    · cases hf; cases hx; cases hy
      exact .inl ⟨_, _, rfl, rfl, q⟩
    · cases hf; cases hx; cases hy
      exact .inr ⟨_, _, rfl, rfl, q⟩
  | LtE =>
    refine ⟨_, op_le, ?_⟩
    intro B F H io st rh σ x y d e b Q g hx hy hf q
    cases d <;> cases e <;> simp only [cmpD] at hf <;> try (cases hf; done)
    cases hf; cases hx; cases hy
    exact ⟨_, _, rfl, rfl, q⟩
  | Gt =>
    refine ⟨_, op_gt.or op_gt_str, ?_⟩
    intro B F H io st rh σ x y d e b Q g hx hy hf q
    cases d <;> cases e <;> simp only [cmpD] at hf <;> try (cases hf; done)
    · cases hf; cases hx; cases hy
      exact .inl ⟨_, _, rfl, rfl, q⟩
    · cases hf; cases hx; cases hy
      exact .inr ⟨_, _, rfl, rfl, q⟩
  | GtE =>
    refine ⟨_, op_ge, ?_⟩
    intro B F H io st rh σ x y d e b Q g hx hy hf q
    cases d <;> cases e <;> simp only [cmpD] at hf <;> try (cases hf; done)
    cases hf; cases hx; cases hy
    exact ⟨_, _, rfl, rfl, q⟩
  | In =>
    refine ⟨_, (op_din (by omega)).or (op_in_sign.or (op_in_seq.or (op_inD hu))), ?_⟩
    intro B F H io st rh σ x y d e b Q g hx hy hf q
    rcases in_ok hK g hx hy hf with ⟨a, p, e1, e2, rfl⟩ | ⟨k, z, rfl, rfl, rfl⟩ | ⟨p, xs, rfl, h1, h2, h3, rfl⟩ | ⟨p, ps, h1, h2, h3, h4, rfl⟩
    · exact .inl ⟨a, p, e1, e2, q⟩
    · exact .inr (.inl ⟨k, z, rfl, rfl, q⟩)
    · exact .inr (.inr (.inl ⟨p, xs, rfl, h1, h2, h3, q⟩))
    · exact .inr (.inr (.inr ⟨p, ps, h1, h2, h3, h4, q⟩))
  | NotIn =>
    refine ⟨_, (op_dnin (by omega)).or (op_notIn_sign.or (op_notIn_seq.or (op_notInD hu))), ?_⟩
    intro B F H io st rh σ x y d e b Q g hx hy hf q
    simp only [cmpD, Option.map_eq_some_iff] at hf
    obtain ⟨b', hf, rfl⟩ := hf
    rcases in_ok hK g hx hy hf with ⟨a, p, e1, e2, rfl⟩ | ⟨k, z, rfl, rfl, rfl⟩ | ⟨p, xs, rfl, h1, h2, h3, rfl⟩ | ⟨p, ps, h1, h2, h3, h4, rfl⟩
    · exact .inl ⟨a, p, e1, e2, q⟩
    · exact .inr (.inl ⟨k, z, rfl, rfl, q⟩)
    · exact .inr (.inr (.inl ⟨p, xs, rfl, h1, h2, h3, q⟩))
    · exact .inr (.inr (.inr ⟨p, ps, h1, h2, h3, h4, q⟩))
  | Is =>
    refine ⟨_, op_isN.or op_is_bl, ?_⟩
    intro B F H io st rh σ x y d e b Q g hx hy hf q
    rcases is_ok g hx hy hf with ⟨rfl, rfl⟩ | ⟨a, k, rfl, rfl, rfl⟩
    · exact .inl ⟨rfl, q⟩
    · exact .inr ⟨a, k, rfl, rfl, q⟩
  | IsNot =>
    refine ⟨_, op_notN.or op_isnot_bl, ?_⟩
    intro B F H io st rh σ x y d e b Q g hx hy hf q
    simp only [cmpD, Option.map_eq_some_iff] at hf
    obtain ⟨b', hf, rfl⟩ := hf
    rcases is_ok g hx hy hf with ⟨rfl, rfl⟩ | ⟨a, k, rfl, rfl, rfl⟩
    · exact .inl ⟨rfl, q⟩
    · exact .inr ⟨a, k, rfl, rfl, q⟩
end
end KL

namespace KL
open PySem L2

/-! ### what a context has -/
structure Cok (X : Cx) (c : Ct) (W : WX) : Prop where
  hK : X.K = c.K
  nd : X.N.Nodup
  calm : X.calm = true
  hu : X.A.units + 65 < cLine
  tk : L2N.Takes X W

/-! ### names, constants, arguments -/
def eVar (i : Nat) : Sm := fun rh st => match rh[i]? with
  | some (some (.val d)) => .ok (.d d) st
  | some (some (.own _)) => .ok (.o i) st
  | _ => .no
def eC (d : D) : Sm := fun _ st => .ok (.d d) st
def toDv : TV → Option D
  | .d d => some d
  | .fr ds => some (.lst ds)
  | .o _ => none
def eArgs : List Sm → Rho → Sto → R (List D)
  | [], _, st => .ok [] st
  | f :: fs, rh, st => (f rh st).bind fun t st1 => match toDv t with
    | none => .no
    | some d => (eArgs fs rh st1).bind fun ds st2 => .ok (d :: ds) st2
def eTup (fs : List Sm) : Sm := fun rh st => (eArgs fs rh st).bind fun ds st1 => .ok (.d (.tup ds)) st1
def eLst (fs : List Sm) : Sm := fun rh st => (eArgs fs rh st).bind fun ds st1 => .ok (.fr ds) st1
def PstA (c : Ct) (W : WX) (F : Hp) (io : List Addr) (σ : St) (H : Hp) (Q : List V → Hp → Prop) : R (List D) → Prop
  | .ok ds st' => ∀ vs H' F' io', Stp c F io H F' io' H' → Sim c F' io' st' → RvAll c F' io' vs ds → Q vs H'
  | .ex e st' => ∀ H' F' io', Stp c F io H F' io' H' → Sim c F' io' st' → W (c.xc e) none σ H'
  | .no => False
def denA (c : Ct) (W : WX) (fs : List Sm) : TA := fun σ H Q => ∃ B F io st rh, Good c B F io st rh σ H ∧ PstA c W F io σ H Q (eArgs fs rh st)
section
variable {X : Cx} {c : Ct} {W : WX} {B : Bs} {F F1 H H1 : Hp} {io io1 : List Addr} {st st1 : Sto} {rh : Rho} {σ : St} {Q : VK} {v : V} {t : TV} {d : D}
theorem pe_den_var {i : Nat} {x : Str} {pos : Pos} (hN : X.N[i]? = some x) (hv : Vis X.env.scope x) (hd : (x == ("__debug__" : Str)) = false) (hcd : (x == ("__classdict__" : Str)) = false) : PE X (.Name x pos) (den c W (eVar i)) := by
  refine PE.weak (pe_var (i := i) hN hv hd hcd) fun σ H Q ⟨B, F, io, st, rh, g, p⟩ => ?_
  unfold eVar at p
  cases q : rh[i]? with
  | none => rw [q] at p; exact p.elim
  | some o =>
    cases o with
    | none => rw [q] at p; exact p.elim
    | some k =>
      cases k with
      | val d =>
        rw [q] at p
        obtain ⟨v, e1, r⟩ := g.val i d q
        exact ⟨v, e1, p v H F io (Stp.refl g.sub) g.sim r⟩
      | own ds =>
        rw [q] at p
        obtain ⟨a, vs, e1, _⟩ := g.own i ds q
        exact ⟨.ref a, e1, p _ H F io (Stp.refl g.sub) g.sim ⟨⟨ds, q⟩, e1⟩⟩
      | clo t ds => rw [q] at p; exact p.elim
theorem pe_den_c {e : Expr} (h : PE X e (tC v)) (r : ∀ F io, Rv c F io v d) : PE X e (den c W (eC d)) :=
  PE.weak h fun σ H Q ⟨B, F, io, st, rh, g, p⟩ => p v H F io (Stp.refl g.sub) g.sim (r F io)
/-- what was just made is given away: it is leant on -/
theorem Tvs.give (S : Stp c F io H F1 io1 H1) (s1 : Sim c F1 io1 st1) (T : Tvs c H F1 io1 rh σ H1 v t) (e : toDv t = some d) : ∃ F2, Stp c F io H F2 io1 H1 ∧ Sim c F2 io1 st1 ∧ Rv c F2 io1 v d := by
  cases t with
  | d d' => cases e; exact ⟨F1, S, s1, T⟩
  | o i => cases e
  | fr ds =>
    cases e
    obtain ⟨p, vs, rfl, h0, h1, h2, r⟩ := T
    exact ⟨upd F1 p (.lst vs), S.lean h0 h1 h2, s1.more (upd_more h2), .lst upd_same (fun z => s1.dom z h2) (r.more (upd_more h2))⟩
theorem PstA.step {r : R (List D)} {Q : List V → Hp → Prop} (g : Good c B F io st rh σ H) (S : Stp c F io H F1 io1 H1) (h : PstA c W F io σ H Q r) : PstA c W F1 io1 σ H1 Q r := by
  cases r with
  | ok t st' => exact fun v H' F' io' S' s' T' => h v H' F' io' (S.trans g.sub S') s' T'
  | ex e st' => exact fun H' F' io' S' s' => h H' F' io' (S.trans g.sub S') s'
  | no => exact h
def notStar : Expr → Bool
  | .Starred _ _ => false
  | _ => true
theorem star_cons {e : Expr} {es : List Expr} {env : Env} (h : notStar e = true) : starEach (e :: es) env = (false, eval e env) :: starEach es env := by
  cases e <;> first | rfl | cases h
theorem star_any {pos : Pos} {env : Env} : ∀ {es : List Expr}, es.all notStar = true → (backTo pos (starEach es env)).any (·.1) = false
  | [], _ => rfl
  | e :: es, h => by
    rw [List.all_cons, Bool.and_eq_true] at h
    rw [star_cons h.1]
    show (false || (backTo pos (starEach es env)).any (·.1)) = false
    rw [star_any h.2]
    rfl
theorem pa_den_nil : PA X [] (denA c W []) := ⟨fun pos pins s σ H Q I ⟨B, F, io, st, rh, g, p⟩ => pa_nil.run pos pins s σ H Q I (p [] H F io (Stp.refl g.sub) g.sim .nil)⟩
theorem pa_den_cons {e : Expr} {es : List Expr} {f : Sm} {fs : List Sm} (he : PE X e (den c W f)) (hs : PA X es (denA c W fs)) (hn : notStar e = true) : PA X (e :: es) (denA c W (f :: fs)) := by
  refine ⟨fun pos pins s σ H Q I ⟨B, F, io, st, rh, g, p⟩ => (pa_cons he hs (star_cons hn)).run pos pins s σ H Q I ?_⟩
  refine ⟨B, F, io, st, rh, g, ?_⟩
  unfold eArgs at p
  cases hr : f rh st with
  | no => rw [hr] at p; exact p.elim
  | ex x st' => rw [hr] at p; exact p
  | ok t st1 =>
    rw [hr] at p
    intro v H1 F1 io1 S s1 T
    have p : PstA c W F io σ H Q (match toDv t with
      | none => .no
      | some d => (eArgs fs rh st1).bind fun ds st2 => .ok (d :: ds) st2) := p
    cases ht : toDv t with
    | none => rw [ht] at p; exact p.elim
    | some d =>
      rw [ht] at p
      obtain ⟨F2, S2, s2, r2⟩ := Tvs.give S s1 T ht
      have g2 := g.step S2 s2
      refine ⟨B, F2, io1, st1, rh, g2, ?_⟩
      have p : PstA c W F io σ H Q ((eArgs fs rh st1).bind fun ds st2 => .ok (d :: ds) st2) := p
      have p := PstA.step g S2 p
      cases hq : eArgs fs rh st1 with
      | no => rw [hq] at p; exact p.elim
      | ex x st' => rw [hq] at p; exact p
      | ok ds st2 =>
        rw [hq] at p
        intro vs H3 F3 io3 S3 s3 T3
        exact p (v :: vs) H3 F3 io3 S3 s3 (.cons (r2.step S3 g2.sub) T3)
/-- from arguments on -/
theorem PstA.bind {r : R (List D)} {k : List D → Sto → R TV} {Q1 : List V → Hp → Prop} (g : Good c B F io st rh σ H) (h : Pst c W F io rh σ H Q (r.bind k))
    (hk : ∀ (ds : List D) (st1 : Sto) (vs : List V) (H1 F1 : Hp) (io1 : List Addr), r = .ok ds st1 → Stp c F io H F1 io1 H1 → Good c B F1 io1 st1 rh σ H1 → RvAll c F1 io1 vs ds → Pst c W F1 io1 rh σ H1 Q (k ds st1) → Q1 vs H1) : PstA c W F io σ H Q1 r := by
  cases r with
  | ok ds st' => exact fun vs H' F' io' S s' T => hk ds st' vs H' F' io' rfl S (g.step S s') T (Pst.step (r := k ds st') g S h)
  | ex e st' => exact h
  | no => exact h
theorem eArgs_length : ∀ {fs : List Sm} {rh : Rho} {st st1 : Sto} {ds : List D}, eArgs fs rh st = .ok ds st1 → ds.length = fs.length
  | [], _, _, _, _, h => by cases h; rfl
  | f :: fs, rh, st, st1, ds, h => by
    unfold eArgs at h
    cases hr : f rh st with
    | no => rw [hr] at h; cases h
    | ex x st' => rw [hr] at h; cases h
    | ok t st2 =>
      rw [hr] at h
      simp only [R.bind] at h
      cases ht : toDv t with
      | none => rw [ht] at h; cases h
      | some d =>
        rw [ht] at h
        simp only at h
        cases hq : eArgs fs rh st2 with
        | no => rw [hq] at h; cases h
        | ex x st' => rw [hq] at h; cases h
        | ok ds' st3 =>
          rw [hq] at h
          simp only [R.ok.injEq] at h
          obtain ⟨rfl, rfl⟩ := h
          rw [List.length_cons, List.length_cons, eArgs_length hq]
theorem pe_den_tup {es : List Expr} {fs : List Sm} {k : Nat} {pos : Pos} (h : PA X es (denA c W fs)) (hl : fs.length ≤ sizeLine) : PE X (.Tuple es k pos) (den c W (eTup fs)) := by
  refine PE.weak (pe_tupF h) fun σ H Q ⟨B, F, io, st, rh, g, p⟩ => ?_
  refine ⟨B, F, io, st, rh, g, PstA.bind g p fun ds st1 vs H1 F1 io1 e S g1 r p1 => ⟨by rw [r.length, eArgs_length e]; exact hl, (p1.out g1).tup g1 r⟩⟩
theorem pe_den_lst {es : List Expr} {fs : List Sm} {pos : Pos} (h : PA X es (denA c W fs)) (hl : fs.length ≤ sizeLine) : PE X (.List es pos) (den c W (eLst fs)) := by
  refine PE.weak (pe_lst h) fun σ H Q ⟨B, F, io, st, rh, g, p⟩ => ?_
  refine ⟨B, F, io, st, rh, g, PstA.bind g p fun ds st1 vs H1 F1 io1 e S g1 r p1 => ⟨by rw [r.length, eArgs_length e]; exact hl, fun q hq => (p1.out g1).lst g1 r q hq⟩⟩
end

/-! ### operators -/
def eOp2 (f : Sto → D → D → Option TV) (fa fb : Sm) : Sm := fun rh st => (fa rh st).bind fun t1 st1 => (fb rh st1).bind fun t2 st2 =>
  match view rh st2 t1, view rh st2 t2 with
  | some d, some e => (match f st2 d e with
    | some t => .ok t st2
    | none => .no)
  | _, _ => .no
def bV (o : Option Bool) : Option TV := o.map fun b => .d (.bl b)
def eBin (op : Operator) : Sm → Sm → Sm := eOp2 fun _ => binD op
def eCmp (op : CmpOp) : Sm → Sm → Sm := eOp2 fun st d e => bV (cmpD st op d e)
section
variable {X : Cx} {c : Ct} {W : WX} {B : Bs} {F F1 H H1 : Hp} {io io1 : List Addr} {st st1 : Sto} {rh : Rho} {σ : St} {Q : VK} {v : V} {t : TV} {d : D} {a b : Expr} {fa fb : Sm} {pos : Pos}
theorem op2_of {f : Sto → D → D → Option TV} {r : R2} (ok : OpOk c r f) {σ : St} {H : Hp} {Q : VK} (h : den c W (eOp2 f fa fb) σ H Q) : tOp r (den c W fa) (den c W fb) σ H Q := by
  obtain ⟨B, F, io, st, rh, g, p⟩ := h
  refine ⟨B, F, io, st, rh, g, Pst.bind g p fun t1 st1 x H1 F1 io1 e1 S1 g1 T1 p1 => ⟨B, F1, io1, st1, rh, g1, Pst.bind g1 p1 fun t2 st2 y H2 F2 io2 e2 S2 g2 T2 p2 => ?_⟩⟩
  cases h1 : view rh st2 t1 with
  | none => rw [h1] at p2; exact p2.elim
  | some d =>
    cases h2 : view rh st2 t2 with
    | none => rw [h1, h2] at p2; exact p2.elim
    | some e =>
      rw [h1, h2] at p2
      have p2 : Pst c W F2 io2 rh σ H2 Q (match f st2 d e with
        | some t => .ok t st2
        | none => .no) := p2
      cases h3 : f st2 d e with
      | none => rw [h3] at p2; exact p2.elim
      | some t =>
        rw [h3] at p2
        exact ok g2 (view_ok g2 ((T1.r g1.sim).step S2 g1.sub) h1) (view_ok g2 (T2.r g2.sim) h2) h3 (p2.out g2)
theorem pe_den_bin (C : Cok X c W) {op : Operator} (ha : PE X a (den c W fa)) (hb : PE X b (den c W fb)) : PE X (.BinOp a op b pos) (den c W (eBin op fa fb)) := by
  obtain ⟨r, ho, ok⟩ := bin_ok (X := X) C.hK op
  exact PE.weak (pe_op ho ha hb) fun σ H Q h => op2_of ok h
theorem cmpOk_op {r : R2} {f : Sto → D → D → Option Bool} (ok : CmpOk c r f) : OpOk c r (fun st d e => bV (f st d e)) := by
  intro B F H io st rh σ x y d e t Q g hx hy hf ho
  unfold bV at hf
  rw [Option.map_eq_some_iff] at hf
  obtain ⟨b, hb, rfl⟩ := hf
  exact ok g hx hy hb (ho.same g.sub (.bl b))
theorem pe_den_cmp (C : Cok X c W) {op : CmpOp} (ha : PE X a (den c W fa)) (hb : PE X b (den c W fb)) (hm : behindInMarks op b = false) : PE X (.Compare a [op] [b] pos) (den c W (eCmp op fa fb)) := by
  obtain ⟨r, ho, ok⟩ := cmp_ok (X := X) C.hK C.hu op
  exact PE.weak (pe_cmpR ho ha hb hm) fun σ H Q h => op2_of (cmpOk_op ok) h
end
/-! ### tests -/
def denT (c : Ct) (W : WX) (f : Sm) : TT := fun σ H Q => den c W f σ H fun v H' => ∃ b, v = .bl b ∧ Q b H'
/-- it gives a truth or nothing -/
def tyB (r : R TV) : R TV := r.bind fun t st => match t with
  | .d (.bl b) => .ok (.d (.bl b)) st
  | _ => .no
section
variable {X : Cx} {c : Ct} {W : WX} {a b e : Expr} {fa fb : Sm} {pos : Pos}
theorem pt_den_cmp (C : Cok X c W) {op : CmpOp} (ha : PE X a (den c W fa)) (hb : PE X b (den c W fb)) (hm : behindInMarks op b = false) : PT X (.Compare a [op] [b] pos) (denT c W (eCmp op fa fb)) := by
  obtain ⟨r, ho, ok⟩ := cmp_ok (X := X) C.hK C.hu op
  exact PT.weak (pt_cmpR ho ha hb hm) fun σ H Q h => op2_of (cmpOk_op ok) h
end
def eCmp2 (op op' : CmpOp) (fa fb fc : Sm) : Sm := fun rh st => (fa rh st).bind fun t1 st1 => (fb rh st1).bind fun t2 st2 =>
  match view rh st2 t1, view rh st2 t2 with
  | some d, some e => (match cmpD st2 op d e with
    | some true => (fc rh st2).bind fun t3 st3 => (match view rh st3 t2, view rh st3 t3 with
      | some e', some f' => (match cmpD st3 op' e' f' with
        | some b => .ok (.d (.bl b)) st3
        | none => .no)
      | _, _ => .no)
    | some false => .ok (.d (.bl false)) st2
    | none => .no)
  | _, _ => .no
section
variable {X : Cx} {c : Ct} {W : WX} {a b e : Expr} {fa fb fc : Sm} {pos : Pos}
theorem chain_of {op op' : CmpOp} {r r' : R2} (ok : CmpOk c r (fun st => cmpD st op)) (ok' : CmpOk c r' (fun st => cmpD st op')) {σ : St} {H : Hp} {Q : VK} (h : den c W (eCmp2 op op' fa fb fc) σ H Q) : tChain r r' (den c W fa) (den c W fb) (den c W fc) σ H Q := by
  obtain ⟨B, F, io, st, rh, g, p⟩ := h
  refine ⟨B, F, io, st, rh, g, Pst.bind g p fun t1 st1 x H1 F1 io1 e1 S1 g1 T1 p1 => ⟨B, F1, io1, st1, rh, g1, Pst.bind g1 p1 fun t2 st2 y H2 F2 io2 e2 S2 g2 T2 p2 => ?_⟩⟩
  cases h1 : view rh st2 t1 with
  | none => rw [h1] at p2; exact p2.elim
  | some d =>
    cases h2 : view rh st2 t2 with
    | none => rw [h1, h2] at p2; exact p2.elim
    | some e =>
      rw [h1, h2] at p2
      have p2 : Pst c W F2 io2 rh σ H2 Q (match cmpD st2 op d e with
        | some true => (fc rh st2).bind fun t3 st3 => (match view rh st3 t2, view rh st3 t3 with
          | some e', some f' => (match cmpD st3 op' e' f' with
            | some b => .ok (.d (.bl b)) st3
            | none => .no)
          | _, _ => .no)
        | some false => .ok (.d (.bl false)) st2
        | none => .no) := p2
      cases h3 : cmpD st2 op d e with
      | none => rw [h3] at p2; exact p2.elim
      | some k =>
        rw [h3] at p2
        refine ok g2 (view_ok g2 ((T1.r g1.sim).step S2 g1.sub) h1) (view_ok g2 (T2.r g2.sim) h2) h3 ⟨k, rfl, ?_⟩
        cases k with
        | false => exact iteF ((p2.out g2).same g2.sub (.bl false))
        | true =>
          refine iteT ⟨B, F2, io2, st2, rh, g2, Pst.bind g2 p2 fun t3 st3 z H3 F3 io3 e3 S3 g3 T3 p3 => ?_⟩
          cases h4 : view rh st3 t2 with
          | none => rw [h4] at p3; exact p3.elim
          | some e' =>
            cases h5 : view rh st3 t3 with
            | none => rw [h4, h5] at p3; exact p3.elim
            | some f' =>
              rw [h4, h5] at p3
              have p3 : Pst c W F3 io3 rh σ H3 Q (match cmpD st3 op' e' f' with
                | some b => .ok (.d (.bl b)) st3
                | none => .no) := p3
              cases h6 : cmpD st3 op' e' f' with
              | none => rw [h6] at p3; exact p3.elim
              | some b =>
                rw [h6] at p3
                exact ok' g3 (view_ok g3 ((T2.r g2.sim).step S3 g2.sub) h4) (view_ok g3 (T3.r g3.sim) h5) h6 ((p3.out g3).same g3.sub (.bl b))
theorem pe_den_cmp2 (C : Cok X c W) {op op' : CmpOp} {c' : Expr} (ha : PE X a (den c W fa)) (hb : PE X b (den c W fb)) (hc : PE X c' (den c W fc)) (hm : lastMarks [op, op'] [b, c'] = false) : PE X (.Compare a [op, op'] [b, c'] pos) (den c W (eCmp2 op op' fa fb fc)) := by
  obtain ⟨r, ho, ok⟩ := cmp_ok (X := X) C.hK C.hu op
  obtain ⟨r', ho', ok'⟩ := cmp_ok (X := X) C.hK C.hu op'
  exact PE.weak (pe_chain ho ho' ha hb hc hm) fun σ H Q h => chain_of ok ok' h
theorem pt_den_cmp2 (C : Cok X c W) {op op' : CmpOp} {c' : Expr} (ha : PE X a (den c W fa)) (hb : PE X b (den c W fb)) (hc : PE X c' (den c W fc)) (hm : lastMarks [op, op'] [b, c'] = false) : PT X (.Compare a [op, op'] [b, c'] pos) (denT c W (eCmp2 op op' fa fb fc)) := by
  obtain ⟨r, ho, ok⟩ := cmp_ok (X := X) C.hK C.hu op
  obtain ⟨r', ho', ok'⟩ := cmp_ok (X := X) C.hK C.hu op'
  exact PT.weak (pt_chain ho ho' ha hb hc hm) fun σ H Q h => chain_of ok ok' h
end
end KL

namespace KL
open PySem L2

/-! ### one operand -/
def eOp1 (f : Sto → D → Option TV) (fa : Sm) : Sm := fun rh st => (fa rh st).bind fun t1 st1 =>
  match view rh st1 t1 with
  | some d => (match f st1 d with
    | some t => .ok t st1
    | none => .no)
  | none => .no
/-- an operation on one value keeps to its data -/
def Op1Ok (c : Ct) (r : V → Hp → VK → Prop) (f : Sto → D → Option TV) : Prop := ∀ {B : Bs} {F H : Hp} {io : List Addr} {st : Sto} {rh : Rho} {σ : St} {x : V} {d : D} {t : TV} {Q : VK}, Good c B F io st rh σ H → Vw c F io H x d → f st d = some t → Out c F io rh σ H Q t → r x H Q
section
variable {X : Cx} {c : Ct} {W : WX} {a b e : Expr} {fa fb fc : Sm} {pos : Pos}
theorem op1_of {f : Sto → D → Option TV} {r : V → Hp → VK → Prop} (ok : Op1Ok c r f) {σ : St} {H : Hp} {Q : VK} (h : den c W (eOp1 f fa) σ H Q) : den c W fa σ H fun x H1 => r x H1 Q := by
  obtain ⟨B, F, io, st, rh, g, p⟩ := h
  refine ⟨B, F, io, st, rh, g, Pst.bind g p fun t1 st1 x H1 F1 io1 e1 S1 g1 T1 p1 => ?_⟩
  cases h1 : view rh st1 t1 with
  | none => rw [h1] at p1; exact p1.elim
  | some d =>
    rw [h1] at p1
    have p1 : Pst c W F1 io1 rh σ H1 Q (match f st1 d with
      | some t => .ok t st1
      | none => .no) := p1
    cases h3 : f st1 d with
    | none => rw [h3] at p1; exact p1.elim
    | some t =>
      rw [h3] at p1
      exact ok g1 (view_ok g1 (T1.r g1.sim) h1) h3 (p1.out g1)
end

/-! ### truth, not, and, or, if-else -/
def truD (st : Sto) : D → Option Bool
  | .non => some false
  | .bl b => some b
  | .int i => some (i != 0)
  | .str x => if x.length ≤ sizeLine then some ((x.length : Int) != 0) else none
  | .tup ds => some (!ds.isEmpty)
  | .lst ds => some (!ds.isEmpty)
  | .loc n => (match st[n]? with
    | some (.dct false kvs) => some (!kvs.isEmpty)
    | _ => none)
  | _ => none
def eTru : Sm → Sm := eOp1 fun st d => bV (truD st d)
def notD : D → Option Bool
  | .bl b => some (!b)
  | _ => none
def eNot : Sm → Sm := eOp1 fun _ d => bV (notD d)
def eAnd (fa fb : Sm) : Sm := fun rh st => (fa rh st).bind fun t st1 => match t with
  | .d (.bl true) => fb rh st1
  | .d (.bl false) => .ok (.d (.bl false)) st1
  | _ => .no
def eOr (fa fb : Sm) : Sm := fun rh st => (fa rh st).bind fun t st1 => match t with
  | .d (.bl false) => fb rh st1
  | .d (.bl true) => .ok (.d (.bl true)) st1
  | _ => .no
def eIf (fc fa fb : Sm) : Sm := fun rh st => (fc rh st).bind fun t st1 => match t with
  | .d (.bl true) => fa rh st1
  | .d (.bl false) => fb rh st1
  | _ => .no
section
variable {X : Cx} {c : Ct} {W : WX} {a b e : Expr} {rest : List Expr} {fa fb fc : Sm} {pos : Pos} {B : Bs} {F F1 H H1 : Hp} {io io1 : List Addr} {st st1 : Sto} {rh : Rho} {σ : St} {Q : VK}
theorem RvAll.emp {c : Ct} {F : Hp} {io : List Addr} {vs : List V} {ds : List D} (r : RvAll c F io vs ds) : vs.isEmpty = ds.isEmpty := by cases r <;> rfl
theorem tru_of (hK : X.K = c.K) {x : V} {d : D} {k : Bool} (g : Good c B F io st rh σ H) (h : Vw c F io H x d) (e : truD st d = some k) : TruV X.K x H k := by
  cases d with
  | non => cases h; cases e; rfl
  | bl b => cases h; cases e; rfl
  | int i => cases h; cases e; rfl
  | str s =>
    cases h
    simp only [truD] at e
    split at e
    · rename_i hl
      cases e
      exact ⟨hl, rfl⟩
    · cases e
  | tup ds =>
    cases e
    have h' : Rv c F io x (.tup ds) := h
    obtain ⟨a, vs, rfl, q1, r1⟩ := Rv.sqT (a := 0) g.sub h'
    exact .inr (.inl ⟨vs, by rw [hK]; exact q1, by rw [r1.emp]⟩)
  | lst ds =>
    cases e
    obtain ⟨a, vs, rfl, q1, r1⟩ := h
    exact .inl ⟨vs, .inl (.inl q1), by rw [r1.emp]⟩
  | loc n =>
    cases h with
    | loc hn =>
      rename_i a
      simp only [truD] at e
      split at e
      · rename_i kvs hs
        cases e
        obtain ⟨vs, e, r⟩ := g.sim.ob n a _ hn hs
        exact .inr (.inr ⟨_, g.sub _ _ e, by cases r <;> rfl⟩)
      · cases e
  | scr n => cases e
  | clo t ds => cases e
  | raw ds => cases e
/-- a test whose own rule is its value's truth -/
def plainT : Expr → Bool
  | .UnaryOp .Not _ _ => false
  | .BoolOp _ _ _ => false
  | .IfExp _ _ _ _ => false
  | .Compare _ _ _ _ => false
  | _ => true
theorem plainT_eq {e : Expr} {env : Env} (h : plainT e = true) (whole : PySem.Sem Value) : isTrue e env whole = (do let v ← whole; standAt e.pos; holding [v] (truthy v)) := by
  cases e with
  | UnaryOp op x p => cases op <;> first | rfl | cases h
  | BoolOp => cases h
  | IfExp => cases h
  | Compare => cases h
  | _ => rfl
theorem den_mono {f : Sm} {σ : St} {H : Hp} {Q Q' : VK} (h : den c W f σ H Q) (hq : ∀ v H', Q v H' → Q' v H') : den c W f σ H Q' := by
  obtain ⟨B, F, io, st, rh, g, p⟩ := h
  refine ⟨B, F, io, st, rh, g, ?_⟩
  cases hr : f rh st with
  | no => rw [hr] at p; exact p
  | ex x s => rw [hr] at p; exact p
  | ok t s => rw [hr] at p; exact fun v H' F' io' S s' T => hq v H' (p v H' F' io' S s' T)
theorem tru_ok1 (hK : X.K = c.K) : Op1Ok c (fun x H1 Q' => ∃ k, TruV X.K x H1 k ∧ Q' (.bl k) H1) (fun st d => bV (truD st d)) := by
  intro B F H io st rh σ x d t Q g hx hf ho
  unfold bV at hf
  rw [Option.map_eq_some_iff] at hf
  obtain ⟨k, hk, rfl⟩ := hf
  exact ⟨k, tru_of hK g hx hk, ho.same g.sub (.bl k)⟩
theorem pt_den_tru (C : Cok X c W) (ha : PE X a (den c W fa)) (hp : plainT a = true) : PT X a (denT c W (eTru fa)) := by
  refine PT.weak (pt_truth ha (plainT_eq hp)) fun σ H Q h => ?_
  refine den_mono (op1_of (tru_ok1 C.hK) h) fun v H' ⟨k, h1, b, h2, h3⟩ => ?_
  cases h2
  exact ⟨k, h1, h3⟩
theorem not_of {σ : St} {H : Hp} {Q : VK} (h : den c W (eNot fa) σ H Q) : den c W fa σ H fun x H1 => ∃ k, x = .bl k ∧ Q (.bl (!k)) H1 := by
  refine op1_of (r := fun x H1 Q' => ∃ k, x = .bl k ∧ Q' (.bl (!k)) H1) ?_ h
  intro B F H io st rh σ x d t Q g hx hf ho
  unfold bV at hf
  rw [Option.map_eq_some_iff] at hf
  obtain ⟨k, hk, rfl⟩ := hf
  cases d <;> simp only [notD] at hk <;> try (cases hk; done)
  cases hk
  cases hx
  exact ⟨_, rfl, ho.same g.sub (.bl _)⟩
theorem pe_den_not (ha : PE X a (den c W fa)) : PE X (.UnaryOp .Not a pos) (den c W (eNot fa)) := PE.weak (pe_not ha) fun σ H Q h => not_of h
theorem pt_den_not (ha : PT X a (denT c W fa)) : PT X (.UnaryOp .Not a pos) (denT c W (eNot fa)) := by
  refine PT.weak (pt_not ha) fun σ H Q h => den_mono (not_of h) fun v H' ⟨k, e, b, e2, q⟩ => ⟨k, e, ?_⟩
  cases e2
  exact q
/-- a truth, then what is done by it -/
theorem bl_then {r : R TV} {kt kf : Sto → R TV} {Q1 : VK} (g : Good c B F io st rh σ H) (h : Pst c W F io rh σ H Q (r.bind fun t st1 => match t with
    | .d (.bl true) => kt st1
    | .d (.bl false) => kf st1
    | _ => .no))
    (hk : ∀ (b : Bool) (st1 : Sto) (H1 F1 : Hp) (io1 : List Addr), Good c B F1 io1 st1 rh σ H1 → Pst c W F1 io1 rh σ H1 Q (if b then kt st1 else kf st1) → Q1 (.bl b) H1) : Pst c W F io rh σ H Q1 r := by
  refine Pst.bind g h fun t st1 v H1 F1 io1 e S g1 T p => ?_
  cases t with
  | d d =>
    cases d with
    | bl b =>
      cases T
      cases b with
      | true => exact hk true st1 H1 F1 io1 g1 p
      | false => exact hk false st1 H1 F1 io1 g1 p
    | _ => exact p.elim
  | _ => exact p.elim
theorem and_flip {fa fb : Sm} : eAnd fa fb rh st = (fa rh st).bind fun t st1 => match t with
    | .d (.bl true) => fb rh st1
    | .d (.bl false) => .ok (.d (.bl false)) st1
    | _ => .no := rfl
theorem or_flip {fa fb : Sm} : eOr fa fb rh st = (fa rh st).bind fun t st1 => match t with
    | .d (.bl true) => .ok (.d (.bl true)) st1
    | .d (.bl false) => fb rh st1
    | _ => .no := by
  unfold eOr
  congr 1
  funext t s
  cases t with
  | d d => cases d with
    | bl b => cases b <;> rfl
    | _ => rfl
  | _ => rfl
theorem pe_den_and (ha : PE X a (den c W fa)) (hb : PE X (.BoolOp .And (b :: rest) pos) (den c W fb)) : PE X (.BoolOp .And (a :: b :: rest) pos) (den c W (eAnd fa fb)) := by
  refine PE.weak (pe_and ha hb) fun σ H Q ⟨B, F, io, st, rh, g, p⟩ => ⟨B, F, io, st, rh, g, bl_then g p fun k st1 H1 F1 io1 g1 p1 => ⟨k, rfl, ?_⟩⟩
  cases k with
  | true => exact iteT ⟨B, F1, io1, st1, rh, g1, p1⟩
  | false => exact iteF ((Pst.out (t := .d (.bl false)) g1 p1).same g1.sub (.bl false))
theorem pe_den_or (ha : PE X a (den c W fa)) (hb : PE X (.BoolOp .Or (b :: rest) pos) (den c W fb)) : PE X (.BoolOp .Or (a :: b :: rest) pos) (den c W (eOr fa fb)) := by
  refine PE.weak (pe_or ha hb) fun σ H Q ⟨B, F, io, st, rh, g, p⟩ => ⟨B, F, io, st, rh, g, ?_⟩
  rw [or_flip] at p
  refine bl_then g p fun k st1 H1 F1 io1 g1 p1 => ⟨k, rfl, ?_⟩
  cases k with
  | false => exact iteF ⟨B, F1, io1, st1, rh, g1, p1⟩
  | true => exact iteT ((Pst.out (t := .d (.bl true)) g1 p1).same g1.sub (.bl true))
theorem PW.weak {t t' : TT} (h : PW X e t) (hw : ∀ σ H Q, t' σ H Q → t σ H Q) : PW X e t' := ⟨fun wh pins s σ H Q I q => h.run wh pins s σ H Q I (hw σ H Q q)⟩
theorem pw_den_and (ha : PT X a (denT c W fa)) (hb : PW X (.BoolOp .And (b :: rest) pos) (denT c W fb)) : PW X (.BoolOp .And (a :: b :: rest) pos) (denT c W (eAnd fa fb)) := by
  refine PW.weak (pw_and ha hb) fun σ H Q ⟨B, F, io, st, rh, g, p⟩ => ⟨B, F, io, st, rh, g, bl_then g p fun k st1 H1 F1 io1 g1 p1 => ⟨k, rfl, ?_⟩⟩
  cases k with
  | true => exact iteT ⟨B, F1, io1, st1, rh, g1, p1⟩
  | false =>
    obtain ⟨b, e, q⟩ := (Pst.out (t := .d (.bl false)) g1 p1).same g1.sub (.bl false)
    cases e
    exact iteF q
theorem pw_den_or (ha : PT X a (denT c W fa)) (hb : PW X (.BoolOp .Or (b :: rest) pos) (denT c W fb)) : PW X (.BoolOp .Or (a :: b :: rest) pos) (denT c W (eOr fa fb)) := by
  refine PW.weak (pw_or ha hb) fun σ H Q ⟨B, F, io, st, rh, g, p⟩ => ⟨B, F, io, st, rh, g, ?_⟩
  rw [or_flip] at p
  refine bl_then g p fun k st1 H1 F1 io1 g1 p1 => ⟨k, rfl, ?_⟩
  cases k with
  | false => exact iteF ⟨B, F1, io1, st1, rh, g1, p1⟩
  | true =>
    obtain ⟨b, e, q⟩ := (Pst.out (t := .d (.bl true)) g1 p1).same g1.sub (.bl true)
    cases e
    exact iteT q
theorem pe_den_if {t : Expr} (hc : PT X t (denT c W fc)) (ha : PE X a (den c W fa)) (hb : PE X b (den c W fb)) : PE X (.IfExp t a b pos) (den c W (eIf fc fa fb)) := by
  refine PE.weak (pe_ifExp hc ha hb) fun σ H Q ⟨B, F, io, st, rh, g, p⟩ => ⟨B, F, io, st, rh, g, bl_then g p fun k st1 H1 F1 io1 g1 p1 => ⟨k, rfl, ?_⟩⟩
  cases k with
  | true => exact iteT ⟨B, F1, io1, st1, rh, g1, p1⟩
  | false => exact iteF ⟨B, F1, io1, st1, rh, g1, p1⟩
end

/-! ### items, slices, minus -/
def dV (o : Option D) : Option TV := o.map .d
def idxD (st : Sto) : D → D → Option D
  | .tup ds, .int i => atI ds i
  | .lst ds, .int i => atI ds i
  | .scr ns, .int i => (atI ns i).map .int
  | .str z, .int i => if z.length ≤ sizeLine then (atI z.cps.toList i).map fun k => .str ⟨#[k]⟩ else none
  | .loc n, k => (dget st n k).bind id
  | _, _ => none
def eIdx : Sm → Sm → Sm := eOp2 fun st d e => dV (idxD st d e)
def cutD (xs : List D) (lo hi : Option Int) : List D := (xs.drop (HT.sIx xs.length 0 lo)).take (HT.sIx xs.length xs.length hi - HT.sIx xs.length 0 lo)
def slcD (lo hi : Option Int) : D → Option TV
  | .tup ds => some (.d (.tup (cutD ds lo hi)))
  | .lst ds => some (.fr (cutD ds lo hi))
  | .str z => if z.length ≤ sizeLine then some (.d (.str (cutS z lo hi))) else none
  | _ => none
/-- a part of a slice: left out, or an int -/
def ePart (o : Option Sm) (rh : Rho) (st : Sto) : R (Option Int) := match o with
  | none => .ok none st
  | some f => (f rh st).bind fun t st1 => match t with
    | .d (.int i) => .ok (some i) st1
    | _ => .no
def eSlc (fa : Sm) (lo hi : Option Sm) : Sm := fun rh st => (fa rh st).bind fun t st1 => (ePart lo rh st1).bind fun l st2 => (ePart hi rh st2).bind fun u st3 =>
  match view rh st3 t with
  | some d => (match slcD l u d with
    | some t => .ok t st3
    | none => .no)
  | none => .no
def negD : D → Option D
  | .int i => some (.int (-i))
  | _ => none
def eNeg : Sm → Sm := eOp1 fun _ d => dV (negD d)
section
variable {X : Cx} {c : Ct} {W : WX} {a b e : Expr} {rest : List Expr} {fa fb fc : Sm} {pos : Pos} {B : Bs} {F F1 H H1 : Hp} {io io1 : List Addr} {st st1 : Sto} {rh : Rho} {σ : St} {Q : VK}
theorem RvAll.atI {c : Ct} {F : Hp} {io : List Addr} {vs : List V} {ds : List D} {i : Int} {d : D} (r : RvAll c F io vs ds) (h : L2.atI ds i = some d) : ∃ v, L2.atI vs i = some v ∧ Rv c F io v d := by
  unfold L2.atI at h ⊢
  rw [Option.bind_eq_some_iff] at h
  obtain ⟨j, e1, e2⟩ := h
  obtain ⟨v, e3, q⟩ := r.get e2
  exact ⟨v, by rw [r.length, e1]; exact e3, q⟩
theorem atI_ints {ns : List Int} {i k : Int} (h : L2.atI ns i = some k) : L2.atI (ns.map V.int) i = some (.int k) := by
  unfold L2.atI at h ⊢
  rw [Option.bind_eq_some_iff] at h
  obtain ⟨j, e1, e2⟩ := h
  rw [List.length_map, e1]
  show (ns.map V.int)[j]? = _
  rw [List.getElem?_map, e2]
  rfl
def rDGet (K : PySem.W.Frag) : R2 := fun x y H Q => ∃ a v, x = .ref a ∧ DG K H a y (some v) ∧ Q v H
theorem ix_dict (hu : X.A.units + 1 < cLine) : IxR X (rDGet X.K) := by
  intro value slice pins s σ H x y o i Q I rx ry h hs
  obtain ⟨a, v, rfl, g, q⟩ := h
  obtain rfl : o = Value.ref a := rx
  have hT : s.TypeIs (.ref a) "dict" := by
    rcases g with ⟨kvs, k, e, _, _⟩ | ⟨o, xs, k, b, e, z, hk, _, _, _⟩
    · obtain ⟨_, _, vs, _, dd⟩ := dk_rd I.hok e
      exact dd.typeIs
    · exact (dz_of I e z hk).typeIs
  have h₂ : wpAny (model X.prog X.w) X.A (getItem (.ref a) i) (EP X pins σ Q) X.xe s := by
    rcases g with ⟨kvs, k, e, ey, l⟩ | ⟨o, xs, k, b, e, z, hk, ey, eb, l⟩
    · exact d_getItem hu I (.inl ⟨kvs, k, e, ey, l⟩) ry fun w' s' I' rw' => ⟨v, H, I', rw', q⟩
    · subst ey
      cases (show i = Value.ref b from ry)
      have dd := dz_of I e z hk
      obtain ⟨w', hw, rw'⟩ := RelO.some_of (v := v) (o := (atKey xs k).map (·.2)) l
      obtain ⟨p, hp, hp2⟩ := Option.map_eq_some_iff.mp hw
      refine wpAny_getItem_heap (tupleKind_room_in1 hu) (key_sq I eb) dd hp ?_
      rw [hp2]
      exact ⟨v, H, I.tok _, rw', q⟩
  unfold PyProof.Rows.subscriptTail
  refine wpAny_bind ?_
  rw [getitemInPython_of_ne hT.not_modules]
  refine wpAny_bind (wpAny_specialOf hT PySem.F.slot_dict_getitem.lookup ?_)
  have fin : wpAny (model X.prog X.w) X.A (subscripted slice false (.ref a) i) (fun r s₃ => wpAny (model X.prog X.w) X.A (letTemporaryGo value (.ref a) r >>= fun _ => pure r) (EP X pins σ Q) X.xe s₃) X.xe s := by
    rw [hs]
    exact wpAny_operating (wpAny_mono h₂ (fun r s₃ h₃ => wpAny_bind (wpAny_letTemporaryGo (wpAny_pure h₃))) fun _ _ x => x)
  first
    | exact wpAny_pure (wpAny_bind fin)
    | exact wpAny_bind (wpAny_pure (wpAny_bind fin))
    | exact wpAny_bind fin
theorem idx_ok (hK : X.K = c.K) : OpOk c (fun x y H Q => rIx X.K x y H Q ∨ rDGet X.K x y H Q) (fun st d e => dV (idxD st d e)) := by
  intro B F H io st rh σ x y d e t Q g hx hy hf ho
  unfold dV at hf
  rw [Option.map_eq_some_iff] at hf
  obtain ⟨r, hr, rfl⟩ := hf
  cases d with
  | tup ds =>
    cases e <;> simp only [idxD] at hr <;> try (cases hr; done)
    cases hy
    have hx' : Rv c F io x (.tup ds) := hx
    obtain ⟨a, vs, rfl, q1, r1⟩ := Rv.sqT (a := 0) g.sub hx'
    obtain ⟨v, e1, rv⟩ := r1.atI hr
    exact .inl (.inr (.inl ⟨a, vs, _, v, rfl, rfl, by rw [hK]; exact q1, e1, ho.same g.sub rv⟩))
  | lst ds =>
    cases e <;> simp only [idxD] at hr <;> try (cases hr; done)
    cases hy
    obtain ⟨a, vs, rfl, q1, r1⟩ := hx
    obtain ⟨v, e1, rv⟩ := r1.atI hr
    exact .inl (.inl ⟨a, vs, _, v, rfl, rfl, .inl (.inl q1), e1, ho.same g.sub rv⟩)
  | scr ns =>
    cases e <;> simp only [idxD] at hr <;> try (cases hr; done)
    rw [Option.map_eq_some_iff] at hr
    obtain ⟨k, hk, rfl⟩ := hr
    cases hy
    cases hx with
    | scr h =>
      refine .inl (.inl ⟨_, ns.map V.int, _, .int k, rfl, rfl, ?_, atI_ints hk, ho.same g.sub (.int k)⟩)
      rcases h with ⟨h, _⟩ | h
      · rcases h with h | ⟨o, h⟩
        · exact .inl (.inl (g.sub _ _ h))
        · exact .inl (.inr ⟨o, g.sub _ _ h⟩)
      · rw [hK]; exact .inr h
  | str z =>
    cases e <;> simp only [idxD] at hr <;> try (cases hr; done)
    cases hy; cases hx
    split at hr
    · rename_i hl
      rw [Option.map_eq_some_iff] at hr
      obtain ⟨k, hk, rfl⟩ := hr
      exact .inl (.inr (.inr ⟨z, _, k, rfl, rfl, hl, hk, ho.same g.sub (.str _)⟩))
    · cases hr
  | loc n =>
    have hr : (dget st n e).bind id = some r := by cases e <;> exact hr
    rw [Option.bind_eq_some_iff] at hr
    obtain ⟨o, h1, h2⟩ := hr
    have h2 : o = some r := h2
    subst h2
    obtain ⟨a, p, e1, e2, e3⟩ := dget_ok hK g hx hy h1
    cases p with
    | none => exact e3.elim
    | some v => exact .inr ⟨a, v, e1, e2, ho.same g.sub e3⟩
  | _ => cases e <;> simp [idxD] at hr
def plainIx : Expr → Bool
  | .Slice _ _ _ _ => false
  | _ => true
theorem plainIx_ok {b : Expr} (h : plainIx b = true) : PlainIx b := fun o i => by
  cases b <;> first | rfl | cases h
theorem pe_den_idx (C : Cok X c W) (ha : PE X a (den c W fa)) (hb : PE X b (den c W fb)) (hp : plainIx b = true) : PE X (.Subscript a b pos) (den c W (eIdx fa fb)) :=
  PE.weak (pe_ix (ix_seq.or (ix_dict (Nat.lt_of_le_of_lt (Nat.add_le_add_left (by decide) _) C.hu))) ha hb (plainIx_ok hp)) fun σ H Q h => op2_of (idx_ok C.hK) h
def PstO (c : Ct) (W : WX) (F : Hp) (io : List Addr) (σ : St) (H : Hp) (Q : Option Int → Hp → Prop) : R (Option Int) → Prop
  | .ok o st' => ∀ H' F' io', Stp c F io H F' io' H' → Sim c F' io' st' → Q o H'
  | .ex e st' => ∀ H' F' io', Stp c F io H F' io' H' → Sim c F' io' st' → W (c.xc e) none σ H'
  | .no => False
def denO (c : Ct) (W : WX) (o : Option Sm) : TO := fun σ H Q => ∃ B F io st rh, Good c B F io st rh σ H ∧ PstO c W F io σ H Q (ePart o rh st)
theorem po_den_none : PO X none (denO c W none) := ⟨fun pins s σ H Q I ⟨B, F, io, st, rh, g, p⟩ => po_none.run pins s σ H Q I (p H F io (Stp.refl g.sub) g.sim)⟩
theorem po_den_some (h : PE X e (den c W fa)) : PO X (some e) (denO c W (some fa)) := by
  refine ⟨fun pins s σ H Q I ⟨B, F, io, st, rh, g, p⟩ => (po_some h).run pins s σ H Q I ⟨B, F, io, st, rh, g, ?_⟩⟩
  unfold ePart at p
  simp only at p
  cases hr : fa rh st with
  | no => rw [hr] at p; exact p.elim
  | ex x s => rw [hr] at p; exact p
  | ok t s =>
    rw [hr] at p
    intro v H' F' io' S s' T
    cases t with
    | d d =>
      cases d with
      | int i => cases T; exact ⟨i, rfl, p H' F' io' S s'⟩
      | _ => exact p.elim
    | _ => exact p.elim
theorem PstO.bind {r : R (Option Int)} {k : Option Int → Sto → R TV} {Q1 : Option Int → Hp → Prop} (g : Good c B F io st rh σ H) (h : Pst c W F io rh σ H Q (r.bind k))
    (hk : ∀ (o : Option Int) (st1 : Sto) (H1 F1 : Hp) (io1 : List Addr), r = .ok o st1 → Stp c F io H F1 io1 H1 → Good c B F1 io1 st1 rh σ H1 → Pst c W F1 io1 rh σ H1 Q (k o st1) → Q1 o H1) : PstO c W F io σ H Q1 r := by
  cases r with
  | ok o st' => exact fun H' F' io' S s' => hk o st' H' F' io' rfl S (g.step S s') (Pst.step (r := k o st') g S h)
  | ex e st' => exact h
  | no => exact h
theorem RvAll.cut {c : Ct} {F : Hp} {io : List Addr} {vs : List V} {ds : List D} (r : RvAll c F io vs ds) (lo hi : Option Int) : RvAll c F io (cutV vs lo hi) (cutD ds lo hi) := by
  unfold cutV cutD
  rw [r.length]
  exact (r.drop _).take _
theorem slc_ok (hK : X.K = c.K) {lo hi : Option Int} : Op1Ok c (fun x H Q => (rSlF X.K x lo hi H Q ∨ rSlL X.K x lo hi H Q) ∨ rSlS x lo hi H Q) (fun _ => slcD lo hi) := by
  intro B F H io st rh σ x d t Q g hx hf ho
  cases d with
  | tup ds =>
    simp only [slcD, Option.some.injEq] at hf
    subst hf
    have hx' : Rv c F io x (.tup ds) := hx
    obtain ⟨a, vs, rfl, q1, r1⟩ := Rv.sqT (a := 0) g.sub hx'
    refine .inl (.inl ⟨a, vs, rfl, by rw [hK]; exact q1, fun z => ?_, fun _ => ho.tup g (r1.cut lo hi)⟩)
    rw [r1.length] at z
    have e : cutD ds lo hi = ds := by
      unfold cutD
      rw [z.1, z.2]
      simp
    rw [e] at ho
    exact ho.same g.sub hx'
  | lst ds =>
    simp only [slcD, Option.some.injEq] at hf
    subst hf
    obtain ⟨a, vs, rfl, q1, r1⟩ := hx
    exact .inl (.inr ⟨a, vs, rfl, .inl (.inl q1), fun p hp => ho.lst g (r1.cut lo hi) p hp⟩)
  | str z =>
    simp only [slcD] at hf
    split at hf
    · rename_i hl
      cases hf
      cases hx
      exact .inr ⟨z, rfl, hl, ho.same g.sub (.str _)⟩
    · cases hf
  | _ => simp [slcD] at hf
theorem pe_den_slc (C : Cok X c W) {lo hi : Option Expr} {fl fh : Option Sm} {p2 : Pos} (ha : PE X a (den c W fa)) (hl : PO X lo (denO c W fl)) (hh : PO X hi (denO c W fh)) : PE X (.Subscript a (.Slice lo hi none p2) pos) (den c W (eSlc fa fl fh)) := by
  refine PE.weak (pe_slice ((sl_tupF.or sl_list).or sl_str) ha hl hh) fun σ H Q ⟨B, F, io, st, rh, g, p⟩ => ?_
  refine ⟨B, F, io, st, rh, g, Pst.bind g p fun t st1 x H1 F1 io1 e1 S1 g1 T1 p1 => ⟨B, F1, io1, st1, rh, g1, PstO.bind g1 p1 fun l st2 H2 F2 io2 e2 S2 g2 p2 => ⟨B, F2, io2, st2, rh, g2, PstO.bind g2 p2 fun u st3 H3 F3 io3 e3 S3 g3 p3 => ?_⟩⟩⟩
  cases h1 : view rh st3 t with
  | none => rw [h1] at p3; exact p3.elim
  | some d =>
    rw [h1] at p3
    have p3 : Pst c W F3 io3 rh σ H3 Q (match slcD l u d with
      | some t => .ok t st3
      | none => .no) := p3
    cases h3 : slcD l u d with
    | none => rw [h3] at p3; exact p3.elim
    | some t' =>
      rw [h3] at p3
      exact slc_ok C.hK g3 (view_ok g3 (((T1.r g1.sim).step S2 g1.sub).step S3 g2.sub) h1) h3 (p3.out g3)
theorem pe_den_neg (ha : PE X a (den c W fa)) : PE X (.UnaryOp .USub a pos) (den c W (eNeg fa)) := by
  refine PE.weak (pe_un un_neg ha) fun σ H Q h => op1_of (r := rU fun i => .int (-i)) ?_ h
  intro B F H io st rh σ x d t Q g hx hf ho
  unfold dV at hf
  rw [Option.map_eq_some_iff] at hf
  obtain ⟨r, hr, rfl⟩ := hf
  cases d <;> simp only [negD] at hr <;> try (cases hr; done)
  cases hr
  cases hx
  exact ⟨_, rfl, ho.same g.sub (.int _)⟩
end
end KL

namespace KL
open PySem L2

/-! ### calls of the program's own defs -/
abbrev Tbl := Str → List D → Sto → R D
/-- an argument: an expression, or a name that holds a closure -/
inductive Ag where
  | e (f : Sm) | k (i : Nat)
def cloAt (rh : Rho) (i : Nat) : Option D := match rh[i]? with
  | some (some (.clo t cs)) => some (.clo t cs)
  | _ => none
def eArgsC : List Ag → Rho → Sto → R (List D)
  | [], _, st => .ok [] st
  | .e f :: fs, rh, st => (f rh st).bind fun t st1 => match toDv t with
    | none => .no
    | some d => (eArgsC fs rh st1).bind fun ds st2 => .ok (d :: ds) st2
  | .k i :: fs, rh, st => match cloAt rh i with
    | none => .no
    | some d => (eArgsC fs rh st).bind fun ds st2 => .ok (d :: ds) st2
def PstAC (c : Ct) (W : WX) (F : Hp) (io : List Addr) (σ : St) (H : Hp) (Q : List V → Hp → Prop) : R (List D) → Prop
  | .ok ds st' => ∀ vs H' F' io', Stp c F io H F' io' H' → Sim c F' io' st' → RvAs c F' io' vs ds → Q vs H'
  | .ex e st' => ∀ H' F' io', Stp c F io H F' io' H' → Sim c F' io' st' → W (c.xc e) none σ H'
  | .no => False
def denAC (c : Ct) (W : WX) (fs : List Ag) : TA := fun σ H Q => ∃ B F io st rh, Good c B F io st rh σ H ∧ PstAC c W F io σ H Q (eArgsC fs rh st)
section
variable {X : Cx} {c : Ct} {W : WX} {B : Bs} {F F1 H H1 : Hp} {io io1 : List Addr} {st st1 : Sto} {rh : Rho} {σ : St} {Q : VK} {v : V} {t : TV} {d : D}
theorem PstAC.step {r : R (List D)} {Q : List V → Hp → Prop} (g : Good c B F io st rh σ H) (S : Stp c F io H F1 io1 H1) (h : PstAC c W F io σ H Q r) : PstAC c W F1 io1 σ H1 Q r := by
  cases r with
  | ok t st' => exact fun v H' F' io' S' s' T' => h v H' F' io' (S.trans g.sub S') s' T'
  | ex e st' => exact fun H' F' io' S' s' => h H' F' io' (S.trans g.sub S') s'
  | no => exact h
theorem PstAC.bind {r : R (List D)} {k : List D → Sto → R TV} {Q1 : List V → Hp → Prop} (g : Good c B F io st rh σ H) (h : Pst c W F io rh σ H Q (r.bind k))
    (hk : ∀ (ds : List D) (st1 : Sto) (vs : List V) (H1 F1 : Hp) (io1 : List Addr), r = .ok ds st1 → Stp c F io H F1 io1 H1 → Good c B F1 io1 st1 rh σ H1 → RvAs c F1 io1 vs ds → Pst c W F1 io1 rh σ H1 Q (k ds st1) → Q1 vs H1) : PstAC c W F io σ H Q1 r := by
  cases r with
  | ok ds st' => exact fun vs H' F' io' S s' T => hk ds st' vs H' F' io' rfl S (g.step S s') T (Pst.step (r := k ds st') g S h)
  | ex e st' => exact h
  | no => exact h
theorem pa_c_nil : PA X [] (denAC c W []) := ⟨fun pos pins s σ H Q I ⟨B, F, io, st, rh, g, p⟩ => pa_nil.run pos pins s σ H Q I (p [] H F io (Stp.refl g.sub) g.sim .nil)⟩
theorem pa_c_e {e : Expr} {es : List Expr} {f : Sm} {fs : List Ag} (he : PE X e (den c W f)) (hs : PA X es (denAC c W fs)) (hn : notStar e = true) : PA X (e :: es) (denAC c W (.e f :: fs)) := by
  refine ⟨fun pos pins s σ H Q I ⟨B, F, io, st, rh, g, p⟩ => (pa_cons he hs (star_cons hn)).run pos pins s σ H Q I ?_⟩
  refine ⟨B, F, io, st, rh, g, ?_⟩
  unfold eArgsC at p
  cases hr : f rh st with
  | no => rw [hr] at p; exact p.elim
  | ex x st' => rw [hr] at p; exact p
  | ok t st1 =>
    rw [hr] at p
    intro v H1 F1 io1 S s1 T
    have p : PstAC c W F io σ H Q (match toDv t with
      | none => .no
      | some d => (eArgsC fs rh st1).bind fun ds st2 => .ok (d :: ds) st2) := p
    cases ht : toDv t with
    | none => rw [ht] at p; exact p.elim
    | some d =>
      rw [ht] at p
      obtain ⟨F2, S2, s2, r2⟩ := Tvs.give S s1 T ht
      have g2 := g.step S2 s2
      refine ⟨B, F2, io1, st1, rh, g2, ?_⟩
      have p : PstAC c W F io σ H Q ((eArgsC fs rh st1).bind fun ds st2 => .ok (d :: ds) st2) := p
      have p := PstAC.step g S2 p
      cases hq : eArgsC fs rh st1 with
      | no => rw [hq] at p; exact p.elim
      | ex x st' => rw [hq] at p; exact p
      | ok ds st2 =>
        rw [hq] at p
        intro vs H3 F3 io3 S3 s3 T3
        exact p (v :: vs) H3 F3 io3 S3 s3 (.cons (RvA.of (r2.step S3 g2.sub)) T3)
theorem pa_c_k {x : Str} {p : Pos} {i : Nat} {es : List Expr} {fs : List Ag} (hN : X.N[i]? = some x) (hv : Vis X.env.scope x) (hd : (x == ("__debug__" : Str)) = false) (hcd : (x == ("__classdict__" : Str)) = false) (hs : PA X es (denAC c W fs)) : PA X (.Name x p :: es) (denAC c W (.k i :: fs)) := by
  refine ⟨fun pos pins s σ H Q I ⟨B, F, io, st, rh, g, q⟩ => (pa_cons (pe_var (i := i) (pos := p) hN hv hd hcd) hs (star_cons rfl)).run pos pins s σ H Q I ?_⟩
  unfold eArgsC at q
  cases hc : cloAt rh i with
  | none => rw [hc] at q; exact q.elim
  | some d =>
    rw [hc] at q
    unfold cloAt at hc
    split at hc
    · rename_i t cs hr
      cases hc
      obtain ⟨v, e1, r⟩ := g.clo i t cs hr
      refine ⟨v, e1, B, F, io, st, rh, g, ?_⟩
      have q : PstAC c W F io σ H Q ((eArgsC fs rh st).bind fun ds st2 => .ok (.clo t cs :: ds) st2) := q
      cases hq : eArgsC fs rh st with
      | no => rw [hq] at q; exact q.elim
      | ex x st' => rw [hq] at q; exact q
      | ok ds st2 =>
        rw [hq] at q
        intro vs H3 F3 io3 S3 s3 T3
        exact q (v :: vs) H3 F3 io3 S3 s3 (.cons (show RvA c F3 io3 v (.clo t cs) from r.step S3 g.sub) T3)
    · cases hc
theorem eArgsC_length : ∀ {fs : List Ag} {rh : Rho} {st st1 : Sto} {ds : List D}, eArgsC fs rh st = .ok ds st1 → ds.length = fs.length
  | [], _, _, _, _, h => by cases h; rfl
  | .e f :: fs, rh, st, st1, ds, h => by
    unfold eArgsC at h
    cases hr : f rh st with
    | no => rw [hr] at h; cases h
    | ex x st' => rw [hr] at h; cases h
    | ok t st2 =>
      rw [hr] at h
      simp only [R.bind] at h
      cases ht : toDv t with
      | none => rw [ht] at h; cases h
      | some d =>
        rw [ht] at h
        simp only at h
        cases hq : eArgsC fs rh st2 with
        | no => rw [hq] at h; cases h
        | ex x st' => rw [hq] at h; cases h
        | ok ds' st3 =>
          rw [hq] at h
          simp only [R.ok.injEq] at h
          obtain ⟨rfl, rfl⟩ := h
          rw [List.length_cons, List.length_cons, eArgsC_length hq]
  | .k i :: fs, rh, st, st1, ds, h => by
    unfold eArgsC at h
    cases hc : cloAt rh i with
    | none => rw [hc] at h; cases h
    | some d =>
      rw [hc] at h
      simp only at h
      cases hq : eArgsC fs rh st with
      | no => rw [hq] at h; cases h
      | ex x st' => rw [hq] at h; cases h
      | ok ds' st3 =>
        rw [hq] at h
        simp only [R.bind, R.ok.injEq] at h
        obtain ⟨rfl, rfl⟩ := h
        rw [List.length_cons, List.length_cons, eArgsC_length hq]
end
def eCall (G : Tbl) (g : Str) (fs : List Ag) : Sm := fun rh st => (eArgsC fs rh st).bind fun ds st1 => (G g ds st1).bind fun d st2 => .ok (.d d) st2
def PstC (c : Ct) (F : Hp) (io : List Addr) (H : Hp) (Q : VK) (E : XK) : R D → Prop
  | .ok d st' => ∀ v H' F' io', Stp c F io H F' io' H' → Sim c F' io' st' → Rv c F' io' v d → Q v H'
  | .ex e st' => ∀ H' F' io', Stp c F io H F' io' H' → Sim c F' io' st' → E (c.xc e) none H'
  | .no => False
/-- a def's promise, by its function on data -/
def spM (c : Ct) (n : Nat) (G : List D → Sto → R D) : Sp := fun vs H Q E => vs.length = n ∧ ∃ F io st ds, (∀ a o, F a = some o → H a = some o) ∧ LamX.Tabs c.T H ∧ NT F ∧ Sim c F io st ∧ RvAs c F io vs ds ∧ PstC c F io H Q E (G ds st)
structure FnAt (X : Cx) (c : Ct) (G : Tbl) (g : Str) (n : Nat) (k : Nat) (f : Addr) (fd : FuncData) (ps : List Str) : Prop where
  ok : FnOk X.prog X.w X.K X.mg X.base (L2N.CX X.prog X.w) k f fd ps (spM c n (G g))
  room : Room k X.A
  glo : X.mg g = some (.ref f)
  keep : PySem.W.keepIn X.K (.ref f) = true
  bnd : Binds X.K fd ps []
section
variable {X : Cx} {c : Ct} {W : WX} {a b e : Expr} {es : List Expr} {fa fb fc : Sm} {fs : List Ag} {pos p : Pos} {G : Tbl} {g : Str} {n k : Nat} {f : Addr} {fd : FuncData} {ps : List Str}
theorem call_den {σ : St} {H : Hp} {Q : VK} (hl : fs.length = n) (h : den c W (eCall G g fs) σ H Q) : tCallS (spM c n (G g)) (WE W) (denAC c W fs) σ H Q := by
  obtain ⟨B, F, io, st, rh, g0, p0⟩ := h
  refine ⟨B, F, io, st, rh, g0, PstAC.bind g0 p0 fun ds st1 vs H1 F1 io1 e1 S1 g1 r1 p1 => ?_⟩
  refine ⟨by rw [r1.length, eArgsC_length e1, hl], F1, io1, st1, ds, g1.sub, g1.stp.tab g1.btab, g1.stp.ntb g1.bnt, g1.sim, r1, ?_⟩
  cases hr : G g ds st1 with
  | no => rw [hr] at p1; exact p1.elim
  | ex x s => rw [hr] at p1; exact p1
  | ok d s => rw [hr] at p1; exact fun v H' F' io' S s' T => p1 v H' F' io' S s' T
theorem pe_den_call (C : Cok X c W) (A : FnAt X c G g n k f fd ps) (hg : Gl X g) (ha : PA X (e :: es) (denAC c W fs)) (hl : fs.length = n) (hdb : (g == ("__debug__" : Str)) = false) (hs : (e :: es).all notStar = true) :
    PE X (.Call (.Name g p) (e :: es) [] pos) (den c W (eCall G g fs)) := by
  rw [List.all_cons, Bool.and_eq_true] at hs
  exact PE.weak (pe_callS A.ok A.room hg A.glo A.keep A.bnd (L2N.passAt C.tk) ha hdb (star_cons hs.1) (star_any hs.2)) fun σ H Q h => call_den hl h
theorem pe_den_call0 (C : Cok X c W) (A : FnAt X c G g 0 k f fd ps) (hg : Gl X g) (hdb : (g == ("__debug__" : Str)) = false) :
    PE X (.Call (.Name g p) [] [] pos) (den c W (eCall G g [])) := by
  refine ⟨fun pins s σ H Q I h => ?_⟩
  have h2 : tCallS (spM c 0 (G g)) (WE W) (denAC c W []) σ H Q := call_den rfl h
  obtain ⟨B, F, io, st, rh, g0, p0⟩ := h2
  refine wpAny_Call_Name_kw (ld_glob I hg A.glo ?_ hdb)
  exact PySem.W.callWith_K0 I.kIn A.keep (run_fnS (us := []) A.ok A.room A.bnd (L2N.passAt C.tk σ) I .nil (p0 [] H F io (Stp.refl g0.sub) g0.sim .nil))
end

/-! ### built-in functions of one value -/
structure Glo (X : Cx) (bn : List Str) : Prop where
  free : ∀ x ∈ bn, X.mg x = none
def lenD (st : Sto) : D → Option D
  | .loc n => (match st[n]? with
    | some (.dct _ kvs) => some (.int kvs.length)
    | _ => none)
  | .tup ds => some (.int ds.length)
  | .lst ds => some (.int ds.length)
  | .scr ns => some (.int ns.length)
  | .str z => if z.length ≤ sizeLine then some (.int z.length) else none
  | _ => none
def blOf : D → Option Bool
  | .bl b => some b
  | _ => none
def blsOf : List D → Option (List Bool)
  | [] => some []
  | d :: ds => (blOf d).bind fun b => (blsOf ds).map (b :: ·)
def allD : D → Option D
  | .lst ds => (blsOf ds).map fun bs => .bl (bs.all id)
  | _ => none
def anyD : D → Option D
  | .lst ds => (blsOf ds).map fun bs => .bl (bs.any id)
  | _ => none
def tupD : D → Option D
  | .tup ds => some (.tup ds)
  | .lst ds => some (.tup ds)
  | _ => none
def lisD : D → Option TV
  | .tup ds => some (.fr ds)
  | .lst ds => some (.fr ds)
  | .str z => if z.length ≤ sizeLine then some (.fr (z.cps.toList.map fun k => .str ⟨#[k]⟩)) else none
  | _ => none
def intD : D → Option D
  | .int i => some (.int i)
  | .bl b => some (.int (if b then 1 else 0))
  | .str a => if a.length ≤ 640 then (PySem.intText? a).map .int else none
  | _ => none
def strD : D → Option D
  | .int i => if i.natAbs.log2 < 1920 then some (.str (toString i)) else none
  | .str a => some (.str a)
  | _ => none
inductive Bi where
  | len | all | any | tuple | list | int | str
def Bi.f : Bi → Sto → D → Option TV
  | .len, st, d => dV (lenD st d)
  | .all, _, d => dV (allD d)
  | .any, _, d => dV (anyD d)
  | .tuple, _, d => dV (tupD d)
  | .list, _, d => lisD d
  | .int, _, d => dV (intD d)
  | .str, _, d => dV (strD d)
def Bi.name : Bi → Str
  | .len => "len"
  | .all => "all"
  | .any => "any"
  | .tuple => "tuple"
  | .list => "list"
  | .int => "int"
  | .str => "str"
def eB1 (b : Bi) : Sm → Sm := eOp1 b.f
section
variable {X : Cx} {c : Ct} {W : WX} {a b e : Expr} {es : List Expr} {fa fb fc : Sm} {pos p : Pos} {B : Bs} {F H : Hp} {io : List Addr} {st : Sto} {rh : Rho} {σ : St}
theorem RvAll.bls {c : Ct} {F : Hp} {io : List Addr} : ∀ {vs : List V} {ds : List D} {bs : List Bool}, RvAll c F io vs ds → blsOf ds = some bs → vs = bs.map V.bl
  | _, _, _, .nil, e => by cases e; rfl
  | _, _, _, .cons h r, e => by
    simp only [blsOf, Option.bind_eq_some_iff, Option.map_eq_some_iff] at e
    obtain ⟨b, e1, bs, e2, rfl⟩ := e
    rename_i d _
    cases d <;> simp only [blOf] at e1 <;> try (cases e1; done)
    cases e1
    cases h
    rw [List.map_cons, RvAll.bls r e2]
theorem scr_sq {x : V} {ns : List Int} (hK : X.K = c.K) (g : Good c B F io st rh σ H) (h : Rv c F io x (.scr ns)) : ∃ a, x = .ref a ∧ SqL X.K H a (ns.map V.int) := by
  cases h with
  | scr h =>
    refine ⟨_, rfl, ?_⟩
    rcases h with ⟨h, _⟩ | h
    · rcases h with h | ⟨o, h⟩
      · exact .inl (.inl (g.sub _ _ h))
      · exact .inl (.inr ⟨o, g.sub _ _ h⟩)
    · rw [hK]; exact .inr h
theorem signs_vals {x : Str} {acc : Array Value} (h : ItemsOf (SignAt x) acc x.cps.size) : Vals (x.cps.toList.map fun k => V.str ⟨#[k]⟩) acc.toList := by
  have key : ∀ (l : List Nat) (us : List Value), us.length = l.length → (∀ (j : Nat) (v : Value), us[j]? = some v → ∃ k u, l[j]? = some k ∧ v = Value.str ⟨#[k]⟩ u) → Vals (l.map fun k => V.str ⟨#[k]⟩) us := by
    intro l
    induction l with
    | nil => intro us hl _; cases us with
      | nil => exact .nil
      | cons _ _ => simp at hl
    | cons k l ih =>
      intro us hl hj
      cases us with
      | nil => simp at hl
      | cons u us =>
        refine .cons ?_ (ih us (by simpa using hl) fun j v e => ?_)
        · obtain ⟨k', t, e1, e2⟩ := hj 0 u rfl
          simp at e1
          subst e1
          exact ⟨t, e2⟩
        · obtain ⟨k', t, e1, e2⟩ := hj (j + 1) v (by simpa using e)
          exact ⟨k', t, by simpa using e1, e2⟩
  refine key _ _ (by simp [h.1]) fun j v e => ?_
  obtain ⟨k, u, e1, e2⟩ := h.2 j v (by simpa using e)
  exact ⟨k, u, by simpa using e1, e2⟩
theorem call_list_text (hc : X.calm = true) : CallR X (.type "list") (fun xs H Q => ∃ z : Str, xs = [.str z] ∧ z.length ≤ sizeLine ∧ ∀ l, H l = none → Q (.ref l) (upd H l (.lst (z.cps.toList.map fun k => V.str ⟨#[k]⟩)))) := by
  intro pins s σ H xs us Q I r h
  obtain ⟨z, rfl, hl, q⟩ := h
  obtain ⟨u, rfl, rx⟩ := vals1 r
  obtain ⟨t, rfl⟩ := rx
  refine PySem.call_list_str (I.ok.hd hc) z t (fun h' tk acc' c' kp e it => ?_) hl
  have rv := signs_vals it
  refine ⟨.ref s.heap.objs.size, _, I.laid (t' := tk) kp (Nat.le_refl _) (show ObjOk X.prog X.w _ h' _ (.lst (z.cps.toList.map fun k => V.str ⟨#[k]⟩)) from ⟨by rw [List.length_map]; exact hl, acc'.toList, c', rv, by simpa using e⟩), rfl, q _ (I.hok.fresh (Nat.le_refl _))⟩
theorem dV_some {o : Option D} {t : TV} (h : dV o = some t) : ∃ d, o = some d ∧ t = .d d := by
  unfold dV at h
  rw [Option.map_eq_some_iff] at h
  obtain ⟨d, e1, e2⟩ := h
  exact ⟨d, e1, e2.symm⟩
theorem call_lenR : CallR X (.builtin "len") (fun xs H Q => ∃ a kvs, xs = [.ref a] ∧ Rd H a (.dK kvs) ∧ Q (.int kvs.length) H) := by
  intro pins s σ H xs us Q I r h
  obtain ⟨a, kvs, rfl, e, q⟩ := h
  obtain ⟨u, rfl, rx⟩ := vals1 r
  obtain rfl : u = Value.ref a := rx
  exact d_len I e fun t s' I' => ⟨.int kvs.length, H, I', ⟨t, rfl⟩, q⟩
/-- by the built-in's rule -/
theorem pe_b1 (b : Bi) (hK : X.K = c.K) (hc : X.calm = true) (hg : Gl X b.name) (hm : X.mg b.name = none) (ha : PE X a (den c W fa)) (hn : notStar a = true) : PE X (.Call (.Name b.name p) [a] [] pos) (den c W (eB1 b fa)) := by
  have A1 : PA X [a] (tCons (den c W fa) tNil) := pa_cons ha pa_nil (star_cons hn)
  have fin : ∀ {r : List V → Hp → VK → Prop}, PE X (.Call (.Name b.name p) [a] [] pos) (tCB r (tCons (den c W fa) tNil)) → Op1Ok c (fun x H Q => r [x] H Q) b.f → PE X (.Call (.Name b.name p) [a] [] pos) (den c W (eB1 b fa)) :=
    fun hp ok => PE.weak hp fun σ H Q h => op1_of ok h
  cases b with
  | len =>
    refine fin (pe_callB ((call_len_seq.or call_len_str).or call_lenR) hg hm PySem.boot_len A1 (he := star_cons hn)) ?_
    intro B F H io st rh σ x d t Q g hx hf ho
    obtain ⟨e, hf', rfl⟩ := dV_some hf
    cases d with
    | tup ds =>
      cases hf
      have hx' : Rv c F io x (.tup ds) := hx
      obtain ⟨a, vs, rfl, q1, r1⟩ := Rv.sqT (a := 0) g.sub hx'
      refine .inl (.inl ⟨a, vs, rfl, .inr (by rw [hK]; exact q1), ?_⟩)
      rw [r1.length]
      exact ho.same g.sub (.int _)
    | lst ds =>
      cases hf
      obtain ⟨a, vs, rfl, q1, r1⟩ := hx
      refine .inl (.inl ⟨a, vs, rfl, .inl (.inl (.inl q1)), ?_⟩)
      rw [r1.length]
      exact ho.same g.sub (.int _)
    | scr ns =>
      cases hf
      obtain ⟨a, rfl, q1⟩ := scr_sq hK g hx
      refine .inl (.inl ⟨a, _, rfl, .inl q1, ?_⟩)
      rw [List.length_map]
      exact ho.same g.sub (.int _)
    | str z =>
      have hf : (if z.length ≤ sizeLine then some (D.int z.length) else none) = some e := hf'
      split at hf
      · rename_i hl
        cases hf
        cases hx
        exact .inl (.inr ⟨z, rfl, hl, ho.same g.sub (.int _)⟩)
      · cases hf
    | loc n =>
      have hf : (match st[n]? with
        | some (.dct _ kvs) => some (D.int kvs.length)
        | _ => none) = some e := hf'
      split at hf
      · rename_i lk kvs hs
        cases hf
        cases hx with
        | loc hn =>
          rename_i a
          have q := g.sim.ob n a _ hn hs
          have hl : ∀ {κ : Type} {vs : List (κ × V)} {ds : List (κ × D)}, RvF c F io vs ds → vs.length = ds.length := by
            intro κ vs ds r
            induction r with
            | nil => rfl
            | cons _ _ ih => rw [List.length_cons, List.length_cons, ih]
          cases lk with
          | false => obtain ⟨vs, e, r⟩ := q; exact .inr ⟨a, _, rfl, .inl (g.sub _ _ e), by rw [List.length_map, hl r]; exact ho.same g.sub (.int _)⟩
          | true => obtain ⟨ob, vs, e, r⟩ := q; exact .inr ⟨a, _, rfl, .inr ⟨ob, g.sub _ _ e⟩, by rw [List.length_map, hl r]; exact ho.same g.sub (.int _)⟩
      · cases hf
    | _ => cases hf
  | all =>
    refine fin (pe_callB (cr_all hc) hg hm PyProof.Rows.boot_all A1 (he := star_cons hn)) ?_
    intro B F H io st rh σ x d t Q g hx hf ho
    obtain ⟨e, hf', rfl⟩ := dV_some hf
    cases d with
    | lst ds =>
      have hf : ((blsOf ds).map fun bs => D.bl (bs.all id)) = some e := hf'
      rw [Option.map_eq_some_iff] at hf
      obtain ⟨bs, e1, rfl⟩ := hf
      obtain ⟨a, vs, rfl, q1, r1⟩ := hx
      exact ⟨a, bs, rfl, by rw [← r1.bls e1]; exact .inl (.inl q1), ho.same g.sub (.bl _)⟩
    | _ => cases hf
  | any =>
    refine fin (pe_callB (cr_any hc) hg hm PyProof.Rows.boot_any A1 (he := star_cons hn)) ?_
    intro B F H io st rh σ x d t Q g hx hf ho
    obtain ⟨e, hf', rfl⟩ := dV_some hf
    cases d with
    | lst ds =>
      have hf : ((blsOf ds).map fun bs => D.bl (bs.any id)) = some e := hf'
      rw [Option.map_eq_some_iff] at hf
      obtain ⟨bs, e1, rfl⟩ := hf
      obtain ⟨a, vs, rfl, q1, r1⟩ := hx
      exact ⟨a, bs, rfl, by rw [← r1.bls e1]; exact .inl (.inl q1), ho.same g.sub (.bl _)⟩
    | _ => cases hf
  | tuple =>
    refine fin (pe_callTy call_tupleF hg hm PyProof.Rows.boot_tuple A1 (he := star_cons hn)) ?_
    intro B F H io st rh σ x d t Q g hx hf ho
    obtain ⟨e, hf', rfl⟩ := dV_some hf
    cases d with
    | tup ds =>
      cases hf
      have hx' : Rv c F io x (.tup ds) := hx
      obtain ⟨a, vs, rfl, q1, r1⟩ := Rv.sqT (a := 0) g.sub hx'
      exact ⟨a, vs, rfl, .inr ⟨by rw [hK]; exact q1, ho.same g.sub hx'⟩⟩
    | lst ds =>
      cases hf
      obtain ⟨a, vs, rfl, q1, r1⟩ := hx
      exact ⟨a, vs, rfl, .inl ⟨.inl (.inl q1), ho.tup g r1⟩⟩
    | _ => cases hf
  | list =>
    refine fin (pe_callTy (call_list_of.or (call_list_text hc)) hg hm PyProof.Rows.boot_list A1 (he := star_cons hn)) ?_
    intro B F H io st rh σ x d t Q g hx hf ho
    cases d with
    | tup ds =>
      cases hf
      have hx' : Rv c F io x (.tup ds) := hx
      obtain ⟨a, vs, rfl, q1, r1⟩ := Rv.sqT (a := 0) g.sub hx'
      exact .inl ⟨a, vs, rfl, .inr (by rw [hK]; exact q1), fun p hp => ho.lst g r1 p hp⟩
    | lst ds =>
      cases hf
      obtain ⟨a, vs, rfl, q1, r1⟩ := hx
      exact .inl ⟨a, vs, rfl, .inl (.inl (.inl q1)), fun p hp => ho.lst g r1 p hp⟩
    | str z =>
      simp only [Bi.f, lisD] at hf
      split at hf
      · rename_i hl
        cases hf
        cases hx
        refine .inr ⟨z, rfl, hl, fun p hp => ho.lst g ?_ p hp⟩
        have key : ∀ l : List Nat, RvAll c F io (l.map fun k => V.str ⟨#[k]⟩) (l.map fun k => D.str ⟨#[k]⟩) := by
          intro l
          induction l with
          | nil => exact .nil
          | cons k l ih => exact .cons (.str _) ih
        exact key _
      · cases hf
    | _ => cases hf
  | int =>
    refine fin (pe_callTy (call_int1.or call_int_str) hg hm PyProof.Rows.boot_int A1 (he := star_cons hn)) ?_
    intro B F H io st rh σ x d t Q g hx hf ho
    obtain ⟨e, hf', rfl⟩ := dV_some hf
    cases d with
    | int i => cases hf; cases hx; exact .inl (.inl ⟨i, rfl, ho.same g.sub (.int _)⟩)
    | bl b => cases hf; cases hx; exact .inl (.inr ⟨b, rfl, ho.same g.sub (.int _)⟩)
    | str z =>
      have hf : (if z.length ≤ 640 then (PySem.intText? z).map D.int else none) = some e := hf'
      split at hf
      · rename_i hl
        rw [Option.map_eq_some_iff] at hf
        obtain ⟨n, e1, rfl⟩ := hf
        cases hx
        exact .inr ⟨z, n, rfl, e1, hl, ho.same g.sub (.int _)⟩
      · cases hf
    | _ => cases hf
  | str =>
    refine fin (pe_callTy (call_str_int.or SkE.call_str_str) hg hm PyProof.Rows.boot_str A1 (he := star_cons hn)) ?_
    intro B F H io st rh σ x d t Q g hx hf ho
    obtain ⟨e, hf', rfl⟩ := dV_some hf
    cases d with
    | int i =>
      have hf : (if i.natAbs.log2 < 1920 then some (D.str (toString i)) else none) = some e := hf'
      split at hf
      · rename_i hl
        cases hf; cases hx
        exact .inl ⟨i, rfl, hl, ho.same g.sub (.str _)⟩
      · cases hf
    | str z => cases hf; cases hx; exact .inr ⟨z, rfl, ho.same g.sub (.str _)⟩
    | _ => cases hf
end

/-! ### isinstance of built-in classes -/
inductive Ty where
  | int | str | bool | tuple | list
def Ty.name : Ty → String
  | .int => "int"
  | .str => "str"
  | .bool => "bool"
  | .tuple => "tuple"
  | .list => "list"
def Ty.nm (t : Ty) : Str := PySem.Str.ofString t.name
def isi : Ty → D → Option Bool
  | _, .loc _ => none
  | _, .clo _ _ => none
  | _, .raw _ => none
  | _, .scr _ => none
  | .int, .int _ => some true
  | .int, .bl _ => some true
  | .str, .str _ => some true
  | .bool, .bl _ => some true
  | .tuple, .tup _ => some true
  | .list, .lst _ => some true
  | _, _ => some false
def tyD : D → Option String
  | .non => some "NoneType"
  | .bl _ => some "bool"
  | .int _ => some "int"
  | .str _ => some "str"
  | .tup _ => some "tuple"
  | .lst _ => some "list"
  | _ => none
def eIsi (t : Ty) : Sm → Sm := eOp1 fun _ d => bV (isi t d)
def eIsi2 (t u : Ty) : Sm → Sm := eOp1 fun _ d => bV ((isi t d).bind fun a => (isi u d).map fun b => a || b)
section
variable {X : Cx} {c : Ct} {W : WX} {a b e : Expr} {es : List Expr} {fa fb fc : Sm} {pos p p2 p3 p4 : Pos} {B : Bs} {F H : Hp} {io : List Addr} {st : Sto} {rh : Rho} {σ : St}
theorem Vw.ty (hK : X.K = c.K) (g : Good c B F io st rh σ H) {x : V} {d : D} {t : String} (h : Vw c F io H x d) (e : tyD d = some t) : TyX X.K H x (.type t) := by
  cases d with
  | non => cases e; cases h; exact .base .non
  | bl b => cases e; cases h; exact .base (.bl b)
  | int b => cases e; cases h; exact .base (.int b)
  | str b => cases e; cases h; exact .base (.str b)
  | tup ds =>
    cases e
    cases h with
    | tup h r =>
      rcases h with ⟨o, h, _⟩ | ⟨o, its, n, h1, h2, _⟩
      · exact .fTuple (g.sub _ _ h)
      · exact .kTuple (by rw [hK]; exact h1) h2
  | lst ds =>
    cases e
    obtain ⟨a, vs, rfl, q1, r1⟩ := h
    exact .base (.lst q1)
  | loc n => cases e
  | scr n => cases e
  | clo t ds => cases e
  | raw ds => cases e
theorem isi_kit (t : Ty) {d : D} {b : Bool} (h : isi t d = some b) : ∃ s, tyD d = some s ∧ kitB s t.name = some b := by
  cases t <;> cases d <;> simp only [isi] at h <;> first | (cases h; done) | (cases h; exact ⟨_, rfl, by decide +kernel⟩)
theorem boot_ty (t : Ty) : bootBuiltins t.nm = some (.type t.name) := by
  cases t <;> decide +kernel
theorem nm_ne (t : Ty) : t.nm ≠ "__name__" := by cases t <;> decide +kernel
theorem nm_db (t : Ty) : (t.nm == ("__debug__" : Str)) = false := by cases t <;> decide +kernel
theorem pe_ty (t : Ty) (hg : Gl X t.nm) (hm : X.mg t.nm = none) : PE X (.Name t.nm p) (tC (.ty t.name)) := pe_bltn hg hm (boot_ty t) (by cases t <;> rfl) (nm_ne t) (nm_db t)
theorem pe_isi (t : Ty) (hK : X.K = c.K) (hgi : Gl X "isinstance") (hmi : X.mg "isinstance" = none) (hg : Gl X t.nm) (hm : X.mg t.nm = none) (ha : PE X a (den c W fa)) (hn : notStar a = true) :
    PE X (.Call (.Name "isinstance" p) [a, .Name t.nm p2] [] pos) (den c W (eIsi t fa)) := by
  have A1 : PA X [a, .Name t.nm p2] (tCons (den c W fa) (tCons (tC (.ty t.name)) tNil)) := pa_cons ha (pa_cons (pe_ty t hg hm) pa_nil) (star_cons hn)
  refine PE.weak (pe_callB call_isi hgi hmi PyProof.Rows.boot_isinstance A1 (he := star_cons hn)) fun σ H Q h => op1_of (r := fun x H Q => rIsi X.K [x, .ty t.name] H Q) ?_ h
  intro B F H io st rh σ x d t' Q g hx hf ho
  unfold bV at hf
  rw [Option.map_eq_some_iff] at hf
  obtain ⟨k, hk, rfl⟩ := hf
  obtain ⟨s, e1, e2⟩ := isi_kit t hk
  exact ⟨x, .ty t.name, .type s, .type t.name, k, rfl, .ty t.name, hx.ty hK g e1, kit_ty e2, ho.same g.sub (.bl k)⟩
theorem pe_isi2 (t u : Ty) (hK : X.K = c.K) (hgi : Gl X "isinstance") (hmi : X.mg "isinstance" = none) (hg : Gl X t.nm) (hm : X.mg t.nm = none) (hg2 : Gl X u.nm) (hm2 : X.mg u.nm = none) (ha : PE X a (den c W fa)) (hn : notStar a = true) {k : Nat} :
    PE X (.Call (.Name "isinstance" p) [a, .Tuple [.Name t.nm p2, .Name u.nm p3] k p4] [] pos) (den c W (eIsi2 t u fa)) := by
  have A1 : PA X [a, .Tuple [.Name t.nm p2, .Name u.nm p3] k p4] (tCons (den c W fa) (tCons (tTup (tCons (tC (.ty t.name)) (tCons (tC (.ty u.name)) tNil))) tNil)) :=
    pa_cons ha (pa_cons (pe_tup (pa_cons (pe_ty t hg hm) (pa_cons (pe_ty u hg2 hm2) pa_nil))) pa_nil) (star_cons hn)
  refine PE.weak (pe_callB call_isiT hgi hmi PyProof.Rows.boot_isinstance A1 (he := star_cons hn)) fun σ H Q h => op1_of (r := fun x H Q => 2 ≤ sizeLine ∧ ∀ p, H p = none → rIsiT X.K [x, .ref p] (upd H p (.tup [.ty t.name, .ty u.name])) Q) ?_ h
  intro B F H io st rh σ x d t' Q g hx hf ho
  unfold bV at hf
  rw [Option.map_eq_some_iff] at hf
  obtain ⟨k, hk, rfl⟩ := hf
  rw [Option.bind_eq_some_iff] at hk
  obtain ⟨k1, e1, hk⟩ := hk
  rw [Option.map_eq_some_iff] at hk
  obtain ⟨k2, e2, rfl⟩ := hk
  obtain ⟨s, z1, z2⟩ := isi_kit t e1
  obtain ⟨s', z3, z4⟩ := isi_kit u e2
  have es : s' = s := by rw [z1] at z3; cases z3; rfl
  subst es
  refine ⟨by rw [sizeLine_eq]; decide, fun q hq => ?_⟩
  have S : Stp c F io H F io (upd H q (.tup [.ty t.name, .ty u.name])) := Stp.lay g.sub hq
  have g2 := g.step S g.sim
  have hx2 : Vw c F io (upd H q (.tup [.ty t.name, .ty u.name])) x d := by
    cases d with
    | lst ds =>
      obtain ⟨a, vs, rfl, q1, r1⟩ := hx
      exact ⟨a, vs, rfl, by rw [upd_ne (fun z => by subst z; rw [hq] at q1; cases q1)]; exact q1, r1⟩
    | _ => exact hx
  refine ⟨x, q, _, .type s', [.type t.name, .type u.name], k1 || k2, rfl, upd_same, .cons (.ty _) (.cons (.ty _) .nil), hx2.ty hK g2 z1, ?_, ?_⟩
  · refine kitAny_cons (kit_ty z2) (fun e => ?_) (fun e => by rw [e]; rfl)
    subst e
    refine kitAny_cons (kit_ty z4) (fun e => ?_) (fun e => by rw [e]; rfl)
    subst e
    rfl
  · exact ho _ _ F S (fun _ _ => rfl) (.bl _)
end
end KL

namespace KL
open PySem L2

/-! ### enumerate of a text -/
def IteS (x : Str) : It := ⟨fun i _ => i < x.cps.size, fun i H v H' => ∃ (T : Addr) (k : Nat), v = .ref T ∧ H T = none ∧ H' = upd H T (.tup [.int (i : Nat), .str ⟨#[k]⟩]) ∧ x.cps[i]? = some k, fun i _ => i = x.cps.size⟩
theorem turn_enumS {P : Program} {w : World} {K : PySem.W.Frag} {elts : List Expr} {kk : Nat} {tpos : Pos} (x : Str) (t : Tok) (e it : Addr) :
    Turn P w K (.Tuple elts kk tpos) (IteS x) [e, it] e (fun i h => (∃ old, IsEnum h e it ((i : Nat) : Int) old) ∧ h.IsStrIter it (strIterType x) x t i ∧ e ≠ it) where
  mem := by simp
  obj := fun i h st b hb => by
    obtain ⟨⟨old, he⟩, ⟨o, ho, hc, hd⟩, _⟩ := st
    have e' : b = e ∨ b = it := by simpa using hb
    rcases e' with z | z
    · rw [z]; exact ⟨_, he, fun v q => nomatch q⟩
    · rw [z]; exact ⟨o, ho, fun v q => by rw [hd] at q; cases q⟩
  keep := fun i h h' st k => let ⟨⟨old, he⟩, ⟨o, ho, r⟩, hne⟩ := st; ⟨⟨old, k e (by simp) _ he⟩, ⟨o, k it (by simp) o ho, r⟩, hne⟩
  item := by
    intro X hP hw hK hc i pins s σ H E I hf st hg
    subst hP hw hK
    obtain ⟨⟨old, he⟩, hit, hne⟩ := st
    have hel : e < s.heap.objs.size := Heap.lt_size he
    have hil : it < s.heap.objs.size := by obtain ⟨_, q, _⟩ := hit; exact Heap.lt_size q
    have hh : X.A.in1.handled = none := I.ok.hd hc
    refine wpAny_pyNext_enum_itemD (Draws.text hh it x t) he hit hg hne (by simpa using hne) fun u h' tk hu ho hit' hT hsz hk => ?_
    obtain ⟨k, t', hk1, rfl⟩ := hu
    refine ⟨_, rfl, wpAny_letOwnedTupleGo_enum (s := { s with heap := h', toks := tk + 1 }) ho fun h'' he' sb => ?_⟩
    have hT2 : h''.get? s.heap.objs.size = some { cls := .type "tuple", data := .seq #[.int i tk, .str ⟨#[k]⟩ t'] } := (sb.2 _ (Nat.ne_of_gt hel)).trans hT
    have new : ObjOk X.prog X.w (upd H s.heap.objs.size (.tup [.int (i : Nat), .str ⟨#[k]⟩])) h'' s.heap.objs.size (.tup [.int (i : Nat), .str ⟨#[k]⟩]) :=
      ⟨by show 2 ≤ sizeLine; decide, [.int i tk, .str ⟨#[k]⟩ t'], .cons ⟨_, rfl⟩ (.cons ⟨_, rfl⟩ .nil), ⟨_, hT2, rfl, _, rfl⟩⟩
    have I1 : L2.Inv X pins σ (upd H s.heap.objs.size (.tup [.int (i : Nat), .str ⟨#[k]⟩])) { s with heap := h'', toks := tk + 1 } :=
      I.turnedNew (ch := [e, it]) (fun b ob hb q => (sb.2 b (fun z => hb (by simp [z]))).trans (hk b ob (fun z => hb (by simp [z])) (fun z => hb (by simp [z])) q)) hf (Nat.le_refl _) new
    refine ⟨.ref s.heap.objs.size, _, I1, rfl, ⟨_, k, rfl, I.hok.fresh (Nat.le_refl _), rfl, hk1⟩, ⟨⟨.str ⟨#[k]⟩ t', ?_⟩, ?_, hne⟩, fun b hb => ?_⟩
    · have e1 : ((i + 1 : Nat) : Int) = (i : Int) + 1 := by omega
      rw [e1]; exact he'
    · obtain ⟨o, ho', r⟩ := hit'
      exact ⟨o, (sb.2 it (Ne.symm hne)).trans ho', r⟩
    · have hb' : b < s.heap.objs.size := by
        have e' : b = e ∨ b = it := by simpa using hb
        rcases e' with z | z
        · rw [z]; exact hel
        · rw [z]; exact hil
      rw [upd_ne (Nat.ne_of_lt hb')]
      exact (hf b hb).1
  done := by
    intro X hP hw hK hc i pins s σ H E I hf st hg
    subst hP hw hK
    obtain ⟨⟨old, he⟩, hit, hne⟩ := st
    obtain ⟨f0, f1, f2, f3, f4, f5⟩ := hf it (by simp)
    have hh : X.A.in1.handled = none := I.ok.hd hc
    have hi : i = x.cps.size := hg
    subst hi
    exact wpAny_pyNext_enum_endD (Draws.text hh it x t) he hit fun h' eb => ⟨rfl, I.turned (t' := s.toks) (fun b o hb q => eb b o hb q) f0 f1 f3 f4 f5⟩
  self := fun A i s Q E st h => let ⟨⟨_, he⟩, _⟩ := st; wpAny_pyIter_enum he h
def iEnumS (ta : TA) : TI := fun σ H R => ta σ H fun vs H1 => ∃ x, vs = [.str x] ∧ R (IteS x) H1
theorem pi_enumS {X : Cx} {e : Expr} {ta : TA} {p pos tpos : Pos} {elts : List Expr} {kk : Nat} (hg : Gl X "enumerate") (hm : X.mg "enumerate" = none) (ha : PA X [e] ta) (hs : starEach [e] X.env = [(false, eval e X.env)]) :
    PI X (.Tuple elts kk tpos) (.Call (.Name "enumerate" p) [e] [] pos) (iEnumS ta) := by
  refine ⟨fun pins s σ H R I h => ?_⟩
  refine PyProof.Rows.Call_ (ld_blt I hg hm PyProof.Rows.boot_enumerate (PyProof.Rows.callWith_type1 (thn (ha.run pos pins s σ H _ I h) fun us s1 ⟨vs, H1, I1, r1, q1⟩ => ?_) hs rfl))
  obtain ⟨x, ex, q⟩ := q1
  subst ex
  cases r1 with
  | cons r rr =>
    cases rr
    obtain ⟨t, rfl⟩ := r
    refine call_enumerate_str fun h' he hit hsz hk => wpAny_pyIter_enum he ?_
    have I2 : L2.Inv X pins σ H1 { s1 with heap := h' } := I1.kept (t' := s1.toks) hk
    refine ⟨s1.heap.objs.size + 1, [s1.heap.objs.size + 1, s1.heap.objs.size], _, _, H1, rfl, I2, turn_enumS x t (s1.heap.objs.size + 1) s1.heap.objs.size, ⟨⟨.none, he⟩, hit, Nat.succ_ne_self _⟩, fun b hb => ?_, q⟩
    have e' : b = s1.heap.objs.size + 1 ∨ b = s1.heap.objs.size := by simpa using hb
    have hle : s1.heap.objs.size ≤ b := by
      rcases e' with z | z
      · rw [z]; exact Nat.le_add_right _ _
      · rw [z]; exact Nat.le_refl _
    exact I1.fpOk hle (I1.hok.fresh hle)

/-! ### enumerate of a tuple -/
set_option maxHeartbeats 1000000 in
theorem meets_enumerate_newT {v : Value} {o : Obj} {H : Heap → Prop} (B : Begins v o H) :
    Meets (Builtin.«enumerate.__new__» ⟨[.type "enumerate", v], []⟩) (fun _ R s => H s.heap ∧
      R (.ok (.ret (.ref (s.heap.push o).objs.size))) { s with heap := (s.heap.push o).push { cls := .type "enumerate", data := .fields #[.none, .bool false, .ref s.heap.objs.size, rawInt 0, .none, .none] } }) :=
  .of_wp fun prog w A R s h => by
    obtain ⟨hp, g, d, tk, os⟩ := s; obtain ⟨h1, h⟩ := h
    have hsub := sub_enumerate
    have q1 : ∀ {A' : Around} {E : Value → Shared → Prop} {Q : Value → Shared → Prop}, Q (.ref hp.objs.size) ⟨hp.push o, g, d, tk, os⟩ → wpAny (model prog w) A' (pyIter v) Q E ⟨hp, g, d, tk, os⟩ :=
      fun q => B.iter prog w _ _ ⟨hp, g, d, tk, os⟩ _ h1 q
    wp_walk using q1
    refine wpAny_stack_any fun st => wpAny_pure ?_
    split
    · rename_i c _ _ _ _ _
      cases (c == Value.type "enumerate")
      · wp_walk using q1
        exact ⟨_, rfl, h⟩
      · wp_walk using q1
        exact ⟨_, rfl, h⟩
    · wp_walk using q1
      exact ⟨_, rfl, h⟩
theorem call_enumerate_begins {prog : Program} {w : World} {A : Around} {E : Value → Shared → Prop} {s : Shared} {v : Value} {o : Obj} {H : Heap → Prop} {Q : Value → Shared → Prop} (B : Begins v o H) (h1 : H s.heap)
    (h : ∀ h', IsEnum h' (s.heap.objs.size + 1) s.heap.objs.size 0 .none → h'.get? s.heap.objs.size = some o → h'.objs.size = s.heap.objs.size + 2 →
      (∀ b o, s.heap.get? b = some o → h'.get? b = some o) → Q (.ref (s.heap.objs.size + 1)) { s with heap := h' }) :
    wpAny (model prog w) A (call (.type "enumerate") [v]) Q E s := by
  refine callType_new F.called_enumerate (by decide) (F.typeCall_enumerate_1 _) (F.newCall_enumerate_1 _) (fun obj => F.args_object_init_2 obj _) F.entry_enumerate_new
    (meets_enumerate_newT B) ⟨h1, ?_⟩
  have hz : (s.heap.push o).objs.size = s.heap.objs.size + 1 := Heap.size_push ..
  show _ ∧ _
  rw [hz]
  have he : IsEnum ((s.heap.push o).push { cls := .type "enumerate", data := .fields #[.none, .bool false, .ref s.heap.objs.size, rawInt 0, .none, .none] }) (s.heap.objs.size + 1) s.heap.objs.size 0 .none := by
    have := Heap.get?_push_size (s.heap.push o) (o := { cls := .type "enumerate", data := .fields #[.none, .bool false, .ref s.heap.objs.size, rawInt 0, .none, .none] }) rfl
    rw [hz] at this; exact this
  refine ⟨⟨_, he, rfl⟩, h _ he (Heap.get?_push_of_some _ (Heap.get?_push_size _ B.free)) (by rw [Heap.size_push, hz]) fun b o x => Heap.get?_push_of_some _ (Heap.get?_push_of_some _ x)⟩
def IteT (K : PySem.W.Frag) (a : Addr) : It :=
  ⟨fun i H => ∃ (xs : List V) (x : V), SqT K H a xs ∧ xs[i]? = some x, fun i H v H' => ∃ T x, v = .ref T ∧ H T = none ∧ H' = upd H T (.tup [.int (i : Nat), x]) ∧ ∀ xs, SqT K H a xs → xs[i]? = some x, fun i H => ∃ xs : List V, SqT K H a xs ∧ xs.length = i⟩
theorem turn_enumT {P : Program} {w : World} {K : PySem.W.Frag} {elts : List Expr} {kk : Nat} {tpos : Pos} (a e it : Addr) :
    Turn P w K (.Tuple elts kk tpos) (IteT K a) [e, it] e (fun i h => (∃ old, IsEnum h e it ((i : Nat) : Int) old) ∧ h.IsTupleIter it a i ∧ e ≠ it ∧ a ≠ it ∧ e ≠ a) where
  mem := by simp
  obj := fun i h st b hb => by
    obtain ⟨⟨old, he⟩, ⟨o, ho, hc, hd⟩, _⟩ := st
    have e' : b = e ∨ b = it := by simpa using hb
    rcases e' with z | z
    · rw [z]; exact ⟨_, he, fun v q => nomatch q⟩
    · rw [z]; exact ⟨o, ho, fun v q => by rw [hd] at q; cases q⟩
  keep := fun i h h' st k => let ⟨⟨old, he⟩, hi, hne⟩ := st; ⟨⟨old, k e (by simp) _ he⟩, hi.at fun o q => k it (by simp) o q, hne⟩
  item := by
    intro X hP hw hK hc i pins s σ H E I hf st hg
    subst hP hw hK
    obtain ⟨⟨old, he⟩, hit, hne, hai, hea⟩ := st
    obtain ⟨xs, x, hq, hx⟩ := hg
    obtain ⟨its, rv, p, hz⟩ := I.tuple hq
    obtain ⟨u, hu, ru⟩ := rv.get hx
    have hel : e < s.heap.objs.size := Heap.lt_size he
    have hil : it < s.heap.objs.size := by obtain ⟨_, q, _⟩ := hit; exact Heap.lt_size q
    have hh : X.A.in1.handled = none := I.ok.hd hc
    have hlt : i < its.toArray.size := by have := (List.getElem?_eq_some_iff.mp hu).1; simpa using this
    refine wpAny_pyNext_enum_itemD (Draws.tuple hh it a hai its.toArray) he ⟨hit, (show s.heap.IsTuple a its.toArray from p)⟩ hlt hne (by simp [hne, hea]) fun u' h' tk hu' ho hst' hT hsz hk => ?_
    have euu : u' = u := by
      have : its[i]? = some u' := by simpa using hu'
      rw [hu] at this
      exact (Option.some.inj this).symm
    subst euu
    refine ⟨_, rfl, wpAny_letOwnedTupleGo_enum (s := { s with heap := h', toks := tk + 1 }) ho fun h'' he' sb => ?_⟩
    have hT2 : h''.get? s.heap.objs.size = some { cls := .type "tuple", data := .seq #[.int i tk, u'] } := (sb.2 _ (Nat.ne_of_gt hel)).trans hT
    have new : ObjOk X.prog X.w (upd H s.heap.objs.size (.tup [.int (i : Nat), x])) h'' s.heap.objs.size (.tup [.int (i : Nat), x]) :=
      ⟨by show 2 ≤ sizeLine; decide, [.int i tk, u'], .cons ⟨_, rfl⟩ (.cons ru .nil), ⟨_, hT2, rfl, _, rfl⟩⟩
    have I1 : L2.Inv X pins σ (upd H s.heap.objs.size (.tup [.int (i : Nat), x])) { s with heap := h'', toks := tk + 1 } :=
      I.turnedNew (ch := [e, it]) (fun b ob hb q => (sb.2 b (fun z => hb (by simp [z]))).trans (hk b ob (fun z => hb (by simp [z])) (fun z => hb (by simp [z])) q)) hf (Nat.le_refl _) new
    refine ⟨.ref s.heap.objs.size, _, I1, rfl, ⟨_, x, rfl, I.hok.fresh (Nat.le_refl _), rfl, fun ys hy => by rw [I.tuple_inj hy hq]; exact hx⟩, ⟨⟨u', ?_⟩, hst'.1.at fun o q => (sb.2 it (Ne.symm hne)).trans q, hne, hai, hea⟩, fun b hb => ?_⟩
    · have e1 : ((i + 1 : Nat) : Int) = (i : Int) + 1 := by omega
      rw [e1]; exact he'
    · have hb' : b < s.heap.objs.size := by
        have e' : b = e ∨ b = it := by simpa using hb
        rcases e' with z | z
        · rw [z]; exact hel
        · rw [z]; exact hil
      rw [upd_ne (Nat.ne_of_lt hb')]
      exact (hf b hb).1
  done := by
    intro X hP hw hK hc i pins s σ H E I hf st hg
    subst hP hw hK
    obtain ⟨⟨old, he⟩, hit, hne, hai, hea⟩ := st
    obtain ⟨f0, f1, f2, f3, f4, f5⟩ := hf it (by simp)
    have hh : X.A.in1.handled = none := I.ok.hd hc
    obtain ⟨xs, hq, hx⟩ := hg
    obtain ⟨its, rv, p, hz⟩ := I.tuple hq
    have hsz : its.toArray.size = i := by rw [List.size_toArray, ← rv.length, hx]
    subst hsz
    exact wpAny_pyNext_enum_endD (Draws.tuple hh it a hai its.toArray) he ⟨hit, (show s.heap.IsTuple a its.toArray from p)⟩ fun h' eb => ⟨rfl, I.turned (t' := s.toks) (fun b o hb q => eb b o hb q) f0 f1 f3 f4 f5⟩
  self := fun A i s Q E st h => let ⟨⟨_, he⟩, _⟩ := st; wpAny_pyIter_enum he h
def iEnumT (K : PySem.W.Frag) (ta : TA) : TI := fun σ H R => ta σ H fun vs H1 => ∃ a xs, vs = [.ref a] ∧ SqT K H1 a xs ∧ R (IteT K a) H1
theorem pi_enumT {X : Cx} {e : Expr} {ta : TA} {p pos tpos : Pos} {elts : List Expr} {kk : Nat} (hg : Gl X "enumerate") (hm : X.mg "enumerate" = none) (ha : PA X [e] ta) (hs : starEach [e] X.env = [(false, eval e X.env)]) :
    PI X (.Tuple elts kk tpos) (.Call (.Name "enumerate" p) [e] [] pos) (iEnumT X.K ta) := by
  refine ⟨fun pins s σ H R I h => ?_⟩
  refine PyProof.Rows.Call_ (ld_blt I hg hm PyProof.Rows.boot_enumerate (PyProof.Rows.callWith_type1 (thn (ha.run pos pins s σ H _ I h) fun us s1 ⟨vs, H1, I1, r1, q1⟩ => ?_) hs rfl))
  obtain ⟨a, xs, ex, hq, q⟩ := q1
  subst ex
  cases r1 with
  | cons r rr =>
    cases rr
    cases r
    obtain ⟨its, rv, p', hz⟩ := I1.tuple hq
    have pT : s1.heap.IsTuple a its.toArray := p'
    have hal : a < s1.heap.objs.size := by obtain ⟨_, q, _⟩ := pT; exact Heap.lt_size q
    refine call_enumerate_begins (begins_tuple a its.toArray) pT fun h' he hit hsz hk => wpAny_pyIter_enum he ?_
    have I2 : L2.Inv X pins σ H1 { s1 with heap := h' } := I1.kept (t' := s1.toks) hk
    refine ⟨s1.heap.objs.size + 1, [s1.heap.objs.size + 1, s1.heap.objs.size], _, _, H1, rfl, I2, turn_enumT a (s1.heap.objs.size + 1) s1.heap.objs.size, ⟨⟨.none, he⟩, ⟨_, hit, rfl, rfl⟩, Nat.succ_ne_self _, Nat.ne_of_lt hal, Nat.ne_of_gt (Nat.lt_succ_of_lt hal)⟩, fun b hb => ?_, q⟩
    have e' : b = s1.heap.objs.size + 1 ∨ b = s1.heap.objs.size := by simpa using hb
    have hle : s1.heap.objs.size ≤ b := by
      rcases e' with z | z
      · rw [z]; exact Nat.le_add_right _ _
      · rw [z]; exact Nat.le_refl _
    exact I1.fpOk hle (I1.hok.fresh hle)
end KL

namespace KL
open PySem L2

/-! ### targets -/
inductive Tg where
  | name (i : Nat) | tup (is : List Nat)
def setAll : List Nat → List D → Rho → Option Rho
  | [], [], rh => some rh
  | i :: is, d :: ds, rh => setAll is ds (rh.set i (some (.val d)))
  | _, _, _ => none
def tgSet : Tg → D → Rho → Option Rho
  | .name i, d, rh => some (rh.set i (some (.val d)))
  | .tup is, .tup ds, rh => setAll is ds rh
  | .tup is, .raw ds, rh => setAll is ds rh
  | _, _, _ => none
def Tg.slots : Tg → List Nat
  | .name i => [i]
  | .tup is => is
section
variable {c : Ct} {B : Bs} {F F' H H' : Hp} {io io' : List Addr} {st st' : Sto} {rh rh' : Rho} {σ : St} {v : V} {t : TV} {d : D}
theorem Good.set (g : Good c B F io st rh σ H) (r : Rv c F io v d) (i : Nat) : Good c B F io st (rh.set i (some (.val d))) (σ.set i (some v)) H := by
  refine ⟨g.bsub, g.btab, g.bnt, by rw [List.length_set, List.length_set]; exact g.len, g.stp, g.sim, fun j e hj => ?_, fun j ds hj => ?_, fun j k ds es w hj hk h1 h2 => ?_, fun j t ds hj => by
    by_cases z : i = j
    · subst z
      rw [List.getElem?_set, if_pos rfl] at hj
      split at hj <;> cases hj
    · rw [List.getElem?_set_ne z] at hj ⊢
      exact g.clo j t ds hj⟩
  · by_cases z : i = j
    · subst z
      rw [List.getElem?_set] at hj ⊢
      rw [if_pos rfl] at hj ⊢
      by_cases hl : i < rh.length
      · rw [if_pos hl] at hj
        cases hj
        exact ⟨v, by rw [if_pos (by rw [← g.len]; exact hl)], r⟩
      · rw [if_neg hl] at hj; cases hj
    · rw [List.getElem?_set_ne z] at hj ⊢
      exact g.val j e hj
  · by_cases z : i = j
    · subst z
      rw [List.getElem?_set, if_pos rfl] at hj
      split at hj <;> cases hj
    · rw [List.getElem?_set_ne z] at hj ⊢
      exact g.own j ds hj
  · have own_ne : ∀ {m : Nat} {us : List D}, (rh.set i (some (.val d)))[m]? = some (some (.own us)) → i ≠ m ∧ rh[m]? = some (some (.own us)) := by
      intro m us hm
      by_cases z : i = m
      · subst z
        rw [List.getElem?_set, if_pos rfl] at hm
        split at hm <;> cases hm
      · rw [List.getElem?_set_ne z] at hm
        exact ⟨z, hm⟩
    obtain ⟨z1, hj'⟩ := own_ne hj
    obtain ⟨z2, hk'⟩ := own_ne hk
    rw [List.getElem?_set_ne z1] at h1
    rw [List.getElem?_set_ne z2] at h2
    exact g.dis j k ds es w hj' hk' h1 h2
/-- what a target's reading has -/
def TgOk (c : Ct) (tg : Tg) (g : TG) : Prop := ∀ {B : Bs} {F H : Hp} {io : List Addr} {st : Sto} {rh rh' : Rho} {σ : St} {v : V} {d : D} {Q : St → Hp → Prop}, Good c B F io st rh σ H → Rv c F io v d → tgSet tg d rh = some rh' →
  (∀ σ', Good c B F io st rh' σ' H → (∀ i, i ∉ tg.slots → σ'[i]? = σ[i]?) → σ'.length = σ.length → Q σ' H) → g v σ H Q
theorem tg_name (i : Nat) : TgOk c (.name i) (gName i) := by
  intro B F H io st rh rh' σ v d Q g r e k
  cases e
  refine k _ (g.set r i) (fun j hj => List.getElem?_set_ne (fun z => hj (by simp [Tg.slots, z]))) (List.length_set ..)
/-- the names of a written tuple -/
def gNames : List Nat → TGs
  | [] => gNil
  | i :: is => gCons (gName i) (gNames is)
theorem gNames_ok : ∀ (is : List Nat) {B : Bs} {F H : Hp} {io : List Addr} {st : Sto} {rh rh' : Rho} {σ : St} {vs : List V} {ds : List D} {Q : St → Hp → Prop}, Good c B F io st rh σ H → RvAll c F io vs ds → setAll is ds rh = some rh' →
    (∀ σ', Good c B F io st rh' σ' H → (∀ i, i ∉ is → σ'[i]? = σ[i]?) → σ'.length = σ.length → Q σ' H) → gNames is vs σ H Q
  | [], _, _, _, _, _, _, _, _, _, ds, _, g, r, e, k => by
    cases ds with
    | nil => cases r; cases e; exact ⟨rfl, k _ g (fun _ _ => rfl) rfl⟩
    | cons _ _ => cases e
  | i :: is, _, _, _, _, _, rh, _, σ, _, ds, _, g, r, e, k => by
    cases ds with
    | nil => cases e
    | cons d ds =>
      cases r with
      | cons h r =>
        refine ⟨_, _, rfl, ?_⟩
        refine gNames_ok is (g.set h i) r e fun σ' g' k1 k2 => k σ' g' (fun j hj => ?_) (k2.trans (List.length_set ..))
        rw [k1 j (fun z => hj (List.mem_cons_of_mem _ z)), List.getElem?_set_ne (fun z => hj (by simp [z]))]
theorem setAll_len : ∀ {is : List Nat} {ds : List D} {rh rh' : Rho}, setAll is ds rh = some rh' → ds.length = is.length
  | [], [], _, _, _ => rfl
  | [], _ :: _, _, _, e => by cases e
  | _ :: _, [], _, _, e => by cases e
  | i :: is, d :: ds, rh, rh', e => by
    rw [List.length_cons, List.length_cons, setAll_len (is := is) (ds := ds) (rh := rh.set i (some (.val d))) (rh' := rh') e]
theorem tg_tup {K : PySem.W.Frag} (hK : K = c.K) (is : List Nat) : TgOk c (.tup is) (gTup K is.length (gNames is)) := by
  intro B F H io st rh rh' σ v d Q g r e k
  cases d with
  | tup ds =>
    obtain ⟨a, vs, rfl, q1, r1⟩ := Rv.sqT (a := 0) g.sub r
    exact ⟨a, vs, rfl, by rw [hK]; exact q1, by rw [r1.length]; exact setAll_len e, gNames_ok is g r1 e k⟩
  | raw ds =>
    cases r with
    | raw h n r1 => exact ⟨_, _, rfl, .inl (.inl (g.sub _ _ h)), by rw [r1.length]; exact setAll_len e, gNames_ok is g r1 e k⟩
  | _ => cases e
end

/-! ### what is walked -/
def signs (z : Str) : List D := z.cps.toList.map fun k => .str ⟨#[k]⟩
def itemsD : D → Option (List D)
  | .tup ds => some ds
  | .lst ds => some ds
  | .str z => some (signs z)
  | _ => none
def numFrom : Nat → List D → List D
  | _, [] => []
  | n, d :: ds => .raw [.int n, d] :: numFrom (n + 1) ds
def enmD : D → Option (List D)
  | .lst ds => some (numFrom 0 ds)
  | .str z => some (numFrom 0 (signs z))
  | .tup ds => some (numFrom 0 ds)
  | _ => none
def zipTup : List D → List D → List D
  | d :: ds, e :: es => .raw [d, e] :: zipTup ds es
  | _, _ => []
def zipD : D → D → Option (List D)
  | .tup ds, .tup es => some (zipTup ds es)
  | .lst ds, .lst es => some (zipTup ds es)
  | _, _ => none
def rngD (lo hi : Int) : Option (List D) := if -(2 ^ 62) ≤ lo ∧ lo < 2 ^ 62 ∧ -(2 ^ 62) ≤ hi ∧ hi < 2 ^ 62 then some ((List.range (hi - lo).toNat).map fun i => .int (lo + (i : Nat))) else none
def notLoc : TV → Bool
  | .d (.loc _) => false
  | _ => true
abbrev Im := Rho → Sto → R (List D)
def oR {α : Type} (o : Option α) (st : Sto) : R α := match o with
  | some a => .ok a st
  | none => .no
/-- by the items of one value -/
def iOne (f : D → Option (List D)) (fa : Sm) : Im := fun rh st => (fa rh st).bind fun t st1 => if notLoc t then oR ((view rh st1 t).bind f) st1 else .no
def iTwo (f : D → D → Option (List D)) (fa fb : Sm) : Im := fun rh st => (fa rh st).bind fun t st1 => (fb rh st1).bind fun u st2 => if notLoc t && notLoc u then oR ((view rh st2 t).bind fun d => (view rh st2 u).bind fun e => f d e) st2 else .no
def rng1 : D → Option (List D)
  | .int j => rngD 0 j
  | _ => none
def rng2 : D → D → Option (List D)
  | .int i, .int j => rngD i j
  | _, _ => none
/-- at (F, io, H) the walk J yields these -/
def YC (c : Ct) (J : It) (F : Hp) (io : List Addr) (H : Hp) (ds : List D) : Prop :=
  (∀ (i : Nat) (d : D), ds[i]? = some d → J.go i H ∧ ∀ x H', J.yld i H x H' → ∃ F', Stp c F io H F' io H' ∧ (∀ a ∈ io, F' a = F a) ∧ Rv c F' io x d) ∧ J.stop ds.length H
structure Per0 (F : Hp) (io : List Addr) (F' : Hp) (io' : List Addr) : Prop where
  ext : ∃ more, io' = io ++ more
  per : ∀ a o, F a = some o → a ∉ io → F' a = some o
  nin : ∀ a o, F a = some o → a ∉ io → a ∉ io'
/-- what is locked stays as it is, too -/
structure Per (F : Hp) (io : List Addr) (F' : Hp) (io' : List Addr) : Prop extends Per0 F io F' io' where
  lck : ∀ a o u, F a = some (.frz o u) → F' a = some (.frz o u)
instance {F F' : Hp} {io io' : List Addr} : CoeOut (Per F io F' io') (Per0 F io F' io') := ⟨Per.toPer0⟩
section
variable {c : Ct} {B : Bs} {F F' H H' : Hp} {io io' : List Addr} {st st' : Sto} {rh rh' : Rho} {σ : St} {v : V} {t : TV} {d : D} {ds es : List D} {vs ws : List V} {a b : Addr}
theorem Per0.ix (S : Per0 F io F' io') {n : Nat} {a : Addr} (h : io[n]? = some a) : io'[n]? = some a := by
  obtain ⟨m, e⟩ := S.ext
  rw [e, List.getElem?_append_left (List.getElem?_eq_some_iff.mp h).1]
  exact h
mutual
theorem Rv.perm {v : V} {d : D} (S : Per0 F io F' io') : Rv c F io v d → Rv c F' io' v d
  | .non => .non
  | .bl b => .bl b
  | .int i => .int i
  | .str x => .str x
  | .tup h r => .tup (h.imp (fun ⟨o, h1, h2, h3⟩ => ⟨o, S.per _ _ h1 h2, S.nin _ _ h1 h2, h3⟩) id) (RvAll.perm S r)
  | .raw h n r => .raw (S.per _ _ h n) (S.nin _ _ h n) (RvAll.perm S r)
  | .lst h n r => .lst (S.per _ _ h n) (S.nin _ _ h n) (RvAll.perm S r)
  | .loc h => .loc (S.ix h)
  | .scr h => .scr (h.imp (fun ⟨h, n⟩ => by
      rcases h with h | ⟨o, h⟩
      · exact ⟨.inl (S.per _ _ h n), S.nin _ _ h n⟩
      · exact ⟨.inr ⟨o, S.per _ _ h n⟩, S.nin _ _ h n⟩) id)
theorem RvAll.perm {vs : List V} {ds : List D} (S : Per0 F io F' io') : RvAll c F io vs ds → RvAll c F' io' vs ds
  | .nil => .nil
  | .cons h r => .cons (Rv.perm S h) (RvAll.perm S r)
end
theorem Rc.perm {v : V} {t : Nat} {cs : List D} (S : Per0 F io F' io') (h : Rc c F io v t cs) : Rc c F' io' v t cs := h.imp (fun a o e n => ⟨S.per a o e n, S.nin a o e n⟩) fun v d r => r.perm S
theorem yc_tup (hs : ∀ a o, F a = some o → H a = some o) (h : SqT c.K H a vs) (r : RvAll c F io vs ds) : YC c (Itt c.K a) F io H ds := by
  refine ⟨fun i d e => ?_, vs, h, by rw [r.length]; exact Nat.le_refl _⟩
  obtain ⟨v, e1, rv⟩ := r.get e
  refine ⟨⟨vs, v, h, e1⟩, fun x H' ⟨eH, y⟩ => ?_⟩
  subst eH
  have e2 := y vs h
  rw [e1] at e2
  cases e2
  exact ⟨F, Stp.refl hs, fun _ _ => rfl, rv⟩
theorem yc_lst (hs : ∀ a o, F a = some o → H a = some o) (h : SqL c.K H a vs) (r : RvAll c F io vs ds) : YC c (Itl c.K a) F io H ds := by
  refine ⟨fun i d e => ?_, vs, h, by rw [r.length]; exact Nat.le_refl _⟩
  obtain ⟨v, e1, rv⟩ := r.get e
  refine ⟨⟨vs, v, h, e1⟩, fun x H' ⟨eH, y⟩ => ?_⟩
  subst eH
  have e2 := y vs h
  rw [e1] at e2
  cases e2
  exact ⟨F, Stp.refl hs, fun _ _ => rfl, rv⟩
theorem signs_get {z : Str} {i : Nat} {d : D} (e : (signs z)[i]? = some d) : ∃ k, z.cps[i]? = some k ∧ d = .str ⟨#[k]⟩ := by
  unfold signs at e
  rw [List.getElem?_map, Option.map_eq_some_iff] at e
  obtain ⟨k, e1, e2⟩ := e
  exact ⟨k, by simpa using e1, e2.symm⟩
theorem signs_len (z : Str) : (signs z).length = z.cps.size := by simp [signs]
theorem lt_of_get {α : Type} {xs : List α} {i : Nat} {x : α} (h : xs[i]? = some x) : i < xs.length := (List.getElem?_eq_some_iff.mp h).1
theorem yc_str (hs : ∀ a o, F a = some o → H a = some o) (z : Str) : YC c (Its z) F io H (signs z) := by
  refine ⟨fun i d e => ?_, by show z.cps.size ≤ _; rw [signs_len]; exact Nat.le_refl _⟩
  obtain ⟨k, e1, rfl⟩ := signs_get e
  refine ⟨by show i < z.cps.size; rw [← signs_len]; exact lt_of_get e, fun x H' ⟨eH, k', e2, ex⟩ => ?_⟩
  subst eH ex
  rw [e1] at e2
  cases e2
  exact ⟨F, Stp.refl hs, fun _ _ => rfl, .str _⟩
theorem yc_rng (hs : ∀ a o, F a = some o → H a = some o) (lo : Int) (n : Nat) : YC c (Itr lo n) F io H ((List.range n).map fun i => .int (lo + (i : Nat))) := by
  refine ⟨fun i d e => ?_, by show n ≤ _; simp⟩
  rw [List.getElem?_map, Option.map_eq_some_iff] at e
  obtain ⟨k, e1, rfl⟩ := e
  have hlt : i < n := by have := lt_of_get e1; simpa using this
  rw [List.getElem?_range hlt] at e1
  cases e1
  refine ⟨hlt, fun x H' ⟨eH, ex⟩ => ?_⟩
  subst eH ex
  exact ⟨F, Stp.refl hs, fun _ _ => rfl, .int _⟩
theorem numFrom_get : ∀ {ds : List D} {n i : Nat} {d : D}, (numFrom n ds)[i]? = some d → ∃ e, ds[i]? = some e ∧ d = .raw [.int ((n + i : Nat) : Int), e]
  | [], _, _, _, h => by simp [numFrom] at h
  | e :: ds, n, 0, d, h => by
    simp only [numFrom, List.getElem?_cons_zero, Option.some.injEq] at h
    exact ⟨e, rfl, h.symm⟩
  | e :: ds, n, i + 1, d, h => by
    simp only [numFrom, List.getElem?_cons_succ] at h
    obtain ⟨e', h1, h2⟩ := numFrom_get h
    exact ⟨e', by simpa using h1, by rw [h2, Nat.add_right_comm, Nat.add_assoc]⟩
theorem numFrom_len : ∀ (ds : List D) (n : Nat), (numFrom n ds).length = ds.length
  | [], _ => rfl
  | _ :: ds, n => by rw [numFrom, List.length_cons, List.length_cons, numFrom_len ds]
/-- a new tuple of a turn -/
theorem new_tup (hs : ∀ a o, F a = some o → H a = some o) (s : Sim c F io st) {T : Addr} (hT : H T = none) (r : RvAll c F io vs ds) : ∃ F', Stp c F io H F' io (upd H T (.tup vs)) ∧ (∀ a ∈ io, F' a = F a) ∧ Rv c F' io (.ref T) (.raw ds) := by
  have f1 : F T = none := by
    cases q : F T with
    | none => rfl
    | some o => rw [hs T o q] at hT; cases hT
  have f2 : T ∉ io := fun z => s.dom z f1
  exact ⟨upd F T (.tup vs), Stp.add hs hT, fun a ha => upd_ne (fun z => by subst z; exact f2 ha), .raw upd_same f2 (r.more (upd_more f1))⟩
theorem yc_enm (hs : ∀ a o, F a = some o → H a = some o) (s : Sim c F io st) (h : SqL c.K H a vs) (r : RvAll c F io vs ds) : YC c (Ite c.K a) F io H (numFrom 0 ds) := by
  refine ⟨fun i d e => ?_, vs, h, by rw [numFrom_len, r.length]; exact Nat.le_refl _⟩
  obtain ⟨e', h1, rfl⟩ := numFrom_get e
  obtain ⟨v, e1, rv⟩ := r.get h1
  refine ⟨⟨vs, v, h, e1⟩, fun x H' ⟨T, y, ex, hT, eH, hy⟩ => ?_⟩
  subst eH ex
  have e2 := hy vs h
  rw [e1] at e2
  cases e2
  rw [Nat.zero_add]
  exact new_tup hs s hT (.cons (.int _) (.cons rv .nil))
theorem yc_enmT (hs : ∀ a o, F a = some o → H a = some o) (s : Sim c F io st) (h : SqT c.K H a vs) (r : RvAll c F io vs ds) : YC c (IteT c.K a) F io H (numFrom 0 ds) := by
  refine ⟨fun i d e => ?_, vs, h, by rw [numFrom_len, r.length]⟩
  obtain ⟨e', h1, rfl⟩ := numFrom_get e
  obtain ⟨v, e1, rv⟩ := r.get h1
  refine ⟨⟨vs, v, h, e1⟩, fun x H' ⟨T, y, ex, hT, eH, hy⟩ => ?_⟩
  subst eH ex
  have e2 := hy vs h
  rw [e1] at e2
  cases e2
  rw [Nat.zero_add]
  exact new_tup hs s hT (.cons (.int _) (.cons rv .nil))
theorem yc_enmS (hs : ∀ a o, F a = some o → H a = some o) (s : Sim c F io st) (z : Str) : YC c (IteS z) F io H (numFrom 0 (signs z)) := by
  refine ⟨fun i d e => ?_, by show _ = z.cps.size; rw [numFrom_len, signs_len]⟩
  have hlt : i < z.cps.size := by
    have := lt_of_get e
    rw [numFrom_len, signs_len] at this
    exact this
  obtain ⟨e', h1, rfl⟩ := numFrom_get e
  obtain ⟨k, e1, rfl⟩ := signs_get h1
  refine ⟨hlt, fun x H' ⟨T, y, ex, hT, eH, hy⟩ => ?_⟩
  subst eH ex
  rw [e1] at hy
  cases hy
  rw [Nat.zero_add]
  exact new_tup hs s hT (.cons (.int _) (.cons (.str _) .nil))
theorem zipTup_get : ∀ {ds es : List D} {i : Nat} {d : D}, (zipTup ds es)[i]? = some d → ∃ e f, ds[i]? = some e ∧ es[i]? = some f ∧ d = .raw [e, f]
  | [], _, _, _, h => by simp [zipTup] at h
  | _ :: _, [], _, _, h => by simp [zipTup] at h
  | e :: ds, f :: es, 0, d, h => by
    simp only [zipTup, List.getElem?_cons_zero, Option.some.injEq] at h
    exact ⟨e, f, rfl, rfl, h.symm⟩
  | e :: ds, f :: es, i + 1, d, h => by
    simp only [zipTup, List.getElem?_cons_succ] at h
    obtain ⟨e', f', h1, h2, h3⟩ := zipTup_get h
    exact ⟨e', f', by simpa using h1, by simpa using h2, h3⟩
theorem zipTup_len : ∀ (ds es : List D), ds.length ≤ (zipTup ds es).length ∨ es.length ≤ (zipTup ds es).length
  | [], _ => .inl (Nat.zero_le _)
  | _ :: _, [] => .inr (Nat.zero_le _)
  | _ :: ds, _ :: es => by
    rw [zipTup, List.length_cons, List.length_cons, List.length_cons]
    exact (zipTup_len ds es).imp (fun h => Nat.succ_le_succ h) (fun h => Nat.succ_le_succ h)
theorem yc_zipT (hs : ∀ a o, F a = some o → H a = some o) (s : Sim c F io st) (h : SqT c.K H a vs) (r : RvAll c F io vs ds) (h' : SqT c.K H b ws) (r' : RvAll c F io ws es) : YC c (RZ.ItzT c.K a b) F io H (zipTup ds es) := by
  refine ⟨fun i d e => ?_, vs, ws, h, h', by rw [r.length, r'.length]; exact zipTup_len ds es⟩
  obtain ⟨e', f', h1, h2, rfl⟩ := zipTup_get e
  obtain ⟨v, e1, rv⟩ := r.get h1
  obtain ⟨w, e2, rw'⟩ := r'.get h2
  refine ⟨⟨vs, ws, v, w, h, h', e1, e2⟩, fun x H' ⟨T, y, y', ex, hT, eH, hy, hy'⟩ => ?_⟩
  subst eH ex
  have q := hy vs h
  have q' := hy' ws h'
  rw [e1] at q
  rw [e2] at q'
  cases q
  cases q'
  exact new_tup hs s hT (.cons rv (.cons rw' .nil))
theorem yc_zip (hs : ∀ a o, F a = some o → H a = some o) (s : Sim c F io st) (h : SqL c.K H a vs) (r : RvAll c F io vs ds) (h' : SqL c.K H b ws) (r' : RvAll c F io ws es) : YC c (Itz c.K a b) F io H (zipTup ds es) := by
  refine ⟨fun i d e => ?_, vs, ws, h, h', by rw [r.length, r'.length]; exact zipTup_len ds es⟩
  obtain ⟨e', f', h1, h2, rfl⟩ := zipTup_get e
  obtain ⟨v, e1, rv⟩ := r.get h1
  obtain ⟨w, e2, rw'⟩ := r'.get h2
  refine ⟨⟨vs, ws, v, w, h, h', e1, e2⟩, fun x H' ⟨T, y, y', ex, hT, eH, hy, hy'⟩ => ?_⟩
  subst eH ex
  have q := hy vs h
  have q' := hy' ws h'
  rw [e1] at q
  rw [e2] at q'
  cases q
  cases q'
  exact new_tup hs s hT (.cons rv (.cons rw' .nil))
end
end KL

namespace KL
open PySem L2

/-! ### what a comprehension, a loop walks: its reading -/
def YldS (c : Ct) (J : It) (F : Hp) (io : List Addr) (H : Hp) (ds : List D) : Prop := ∀ F2 io2 H2 st2, Stp c F io H F2 io2 H2 → Sim c F2 io2 st2 → YC c J F2 io2 H2 ds
def YldP (c : Ct) (J : It) (F : Hp) (io : List Addr) (H : Hp) (ds : List D) : Prop := ∀ F2 io2 H2 st2, Per F io F2 io2 → (∀ a o, F2 a = some o → H2 a = some o) → Sim c F2 io2 st2 → YC c J F2 io2 H2 ds
theorem Stp.perm {F H F' H' : Hp} {io io' : List Addr} (S : Stp c F io H F' io' H') (hs : ∀ a o, F a = some o → H a = some o) : Per F io F' io' := ⟨⟨S.ext, S.per, fun a o h n => S.stays hs h n⟩, S.lck⟩
abbrev Yl := It → Hp → List Addr → Hp → List D → Prop
def PstI (c : Ct) (W : WX) (F : Hp) (io : List Addr) (σ : St) (H : Hp) (Y : Yl) (Q : It → Hp → Prop) : R (List D) → Prop
  | .ok ds st' => ∀ J H' F' io', Stp c F io H F' io' H' → Sim c F' io' st' → Y J F' io' H' ds → Q J H'
  | .ex e st' => ∀ H' F' io', Stp c F io H F' io' H' → Sim c F' io' st' → W (c.xc e) none σ H'
  | .no => False
/-- Y := YldS c: for a comprehension; YldP c: for a loop -/
def denI (c : Ct) (W : WX) (Y : Yl) (f : Im) : TI := fun σ H Q => ∃ B F io st rh, Good c B F io st rh σ H ∧ PstI c W F io σ H Y Q (f rh st)
theorem PI.weak {X : Cx} {tg e : Expr} {t t' : TI} (h : PI X tg e t) (hw : ∀ σ H Q, t' σ H Q → t σ H Q) : PI X tg e t' := ⟨fun pins s σ H Q I q => h.run pins s σ H Q I (hw σ H Q q)⟩
theorem PI.or {X : Cx} {tg e : Expr} {t t' : TI} (h : PI X tg e t) (h' : PI X tg e t') : PI X tg e (fun σ H Q => t σ H Q ∨ t' σ H Q) := ⟨fun pins s σ H Q I q => q.elim (h.run pins s σ H Q I) (h'.run pins s σ H Q I)⟩
/-- a source of items -/
inductive Src where
  | tup (a : Addr) (vs : List V) | lst (a : Addr) (vs : List V) | str (z : Str)
def Src.val : Src → V
  | .tup a _ => .ref a
  | .lst a _ => .ref a
  | .str z => .str z
def Src.at (K : PySem.W.Frag) (H : Hp) : Src → Prop
  | .tup a vs => SqT K H a vs
  | .lst a vs => SqL K H a vs
  | .str _ => True
def Src.rel (c : Ct) (F : Hp) (io : List Addr) : Src → List D → Prop
  | .tup _ vs, ds => RvAll c F io vs ds
  | .lst _ vs, ds => RvAll c F io vs ds
  | .str z, ds => ds = signs z
def Src.of : Src → List D → D → Prop
  | .tup _ _, ds, d => d = .tup ds
  | .lst _ _, ds, d => d = .lst ds
  | .str z, _, d => d = .str z
/-- it stands through what comes -/
def Src.stay (c : Ct) (Rel : Hp → List Addr → Hp → Prop) (s : Src) (ds : List D) : Prop := ∀ F2 io2 H2, Rel F2 io2 H2 → s.at c.K H2 ∧ s.rel c F2 io2 ds
abbrev RelS (c : Ct) (F : Hp) (io : List Addr) (H : Hp) : Hp → List Addr → Hp → Prop := fun F2 io2 H2 => Stp c F io H F2 io2 H2
abbrev RelP (F : Hp) (io : List Addr) : Hp → List Addr → Hp → Prop := fun F2 io2 H2 => Per F io F2 io2 ∧ ∀ a o, F2 a = some o → H2 a = some o
section
variable {X : Cx} {c : Ct} {W : WX} {tg a b e : Expr} {fa fb : Sm} {pos p : Pos} {B : Bs} {F F1 H H1 : Hp} {io io1 : List Addr} {st st1 : Sto} {rh : Rho} {σ : St} {w : V} {t u : TV} {d d' : D} {ds es : List D}
theorem src_rv (h : Rv c F io w d) (hi : itemsD d = some ds) : ∃ s : Src, w = s.val ∧ s.stay c (RelP F io) ds ∧ s.of ds d := by
  cases d with
  | tup es =>
    cases hi
    cases h with
    | tup h r =>
      refine ⟨.tup _ _, rfl, fun F2 io2 H2 ⟨S, hs⟩ => ⟨?_, r.perm S⟩, rfl⟩
      rcases h with ⟨o, h1, h2, _⟩ | ⟨o, its, n, h1, h2, _, h3⟩
      · exact .inl (.inr ⟨o, hs _ _ (S.per _ _ h1 h2)⟩)
      · exact .inr ⟨o, its, n, h1, h2, h3⟩
  | lst es =>
    cases hi
    cases h with
    | lst h n r => exact ⟨.lst _ _, rfl, fun F2 io2 H2 ⟨S, hs⟩ => ⟨.inl (.inl (hs _ _ (S.per _ _ h n))), r.perm S⟩, rfl⟩
  | str z =>
    cases hi
    cases h
    exact ⟨.str z, rfl, fun F2 io2 H2 _ => ⟨trivial, rfl⟩, rfl⟩
  | _ => cases hi
theorem Src.stay_s {s : Src} (h : s.stay c (RelP F io) ds) (hs : ∀ a o, F a = some o → H a = some o) : s.stay c (RelS c F io H) ds := fun F2 io2 H2 S => h F2 io2 H2 ⟨S.perm hs, S.sub⟩
/-- the source of a value that an expression gave, through a comprehension -/
theorem src_s (g : Good c B F io st rh σ H) (T : Tvr c F io rh σ H w t) (hn : notLoc t = true) (hv : view rh st t = some d) (hi : itemsD d = some ds) : ∃ s : Src, w = s.val ∧ s.stay c (RelS c F io H) ds ∧ s.of ds d := by
  have lsts : ∀ {a : Addr} {vs : List V} {es : List D}, w = .ref a → H a = some (.lst vs) → a ∉ io → RvAll c F io vs es → d = .lst es → ∃ s : Src, w = s.val ∧ s.stay c (RelS c F io H) ds ∧ s.of ds d := by
    intro a vs es e1 h1 h2 r e2
    subst e2
    cases hi
    exact ⟨.lst a vs, e1, fun F2 io2 H2 S => ⟨.inl (.inl (S.frL _ _ h1 h2)), r.step S g.sub⟩, rfl⟩
  cases t with
  | d d0 =>
    have e : d0 = d := by
      cases d0 with
      | loc n => cases hn
      | _ => exact Option.some.inj hv
    subst e
    obtain ⟨s, h1, h2, h3⟩ := src_rv T hi
    exact ⟨s, h1, Src.stay_s h2 g.sub, h3⟩
  | o i =>
    obtain ⟨⟨es, e1⟩, e2⟩ := T
    simp only [view, e1, Option.some.injEq] at hv
    obtain ⟨a, vs, e3, e4, e5, e6, r⟩ := g.own i es e1
    rw [e2] at e3
    cases e3
    exact lsts rfl e4 (fun z => g.sim.dom z e5) r hv.symm
  | fr es =>
    obtain ⟨q, vs, e1, h1, h2, r⟩ := T
    exact lsts e1 h1 h2 r (Option.some.inj hv).symm
/-- which walk, by the source -/
def Src.J (K : PySem.W.Frag) : Src → It
  | .tup a _ => Itt K a
  | .lst a _ => Itl K a
  | .str z => Its z
theorem Src.yc {s : Src} (hs : ∀ a o, F a = some o → H a = some o) (h : s.at c.K H ∧ s.rel c F io ds) : YC c (s.J c.K) F io H ds := by
  obtain ⟨h1, h2⟩ := h
  cases s with
  | tup a vs => exact yc_tup hs h1 h2
  | lst a vs => exact yc_lst hs h1 h2
  | str z => cases h2; exact yc_str hs z
theorem iOne_cases {f : D → Option (List D)} {Y : Yl} {Q : It → Hp → Prop} (h : PstI c W F io σ H Y Q (iOne f fa rh st)) :
    (∃ e s, fa rh st = .ex e s ∧ PstI c W F io σ H Y Q (.ex e s)) ∨ ∃ t st1 d ds, fa rh st = .ok t st1 ∧ notLoc t = true ∧ view rh st1 t = some d ∧ f d = some ds ∧ PstI c W F io σ H Y Q (.ok ds st1) := by
  unfold iOne at h
  cases hr : fa rh st with
  | no => rw [hr] at h; exact h.elim
  | ex x s => rw [hr] at h; exact .inl ⟨x, s, rfl, h⟩
  | ok t st1 =>
    rw [hr] at h
    have h : PstI c W F io σ H Y Q (if notLoc t = true then oR ((view rh st1 t).bind f) st1 else .no) := h
    cases hn : notLoc t with
    | false => rw [hn] at h; exact h.elim
    | true =>
      rw [hn, if_pos rfl] at h
      cases hv : view rh st1 t with
      | none => rw [hv] at h; exact h.elim
      | some d =>
        rw [hv] at h
        have h : PstI c W F io σ H Y Q (oR (f d) st1) := h
        cases hf : f d with
        | none => rw [hf] at h; exact h.elim
        | some ds => rw [hf] at h; exact .inr ⟨t, st1, d, ds, rfl, hn, hv, hf, h⟩
theorem den_ex {e : Str} {s : Sto} {Y : Yl} {Q : It → Hp → Prop} {Q' : VK} (g : Good c B F io st rh σ H) (hr : fa rh st = .ex e s) (h : PstI c W F io σ H Y Q (.ex e s)) : den c W fa σ H Q' := ⟨B, F, io, st, rh, g, by rw [hr]; exact h⟩
/-- a list, a tuple, a text; comprehension -/
theorem pi_seq (hK : X.K = c.K) (ha : PE X a (den c W fa)) : PI X tg a (denI c W (YldS c) (iOne itemsD fa)) := by
  refine PI.weak (PI.or (PI.or (pi_tup ha) (pi_list ha)) (pi_str ha)) fun σ H Q ⟨B, F, io, st, rh, g, h⟩ => ?_
  rcases iOne_cases h with ⟨x, s, hr, h⟩ | ⟨t, st1, d, ds, hr, hn, hv, hf, h⟩
  · exact .inr (den_ex g hr h)
  · have key : ∀ w H' F' io', Stp c F io H F' io' H' → Sim c F' io' st1 → Tvs c H F' io' rh σ H' w t → ∃ s : Src, w = s.val ∧ s.at c.K H' ∧ s.of ds d ∧ Q (s.J c.K) H' := by
      intro w H' F' io' S s' T
      obtain ⟨s, e1, e2, e3⟩ := src_s (g.step S s') (T.r s') hn hv hf
      refine ⟨s, e1, (e2 F' io' H' (Stp.refl S.sub)).1, e3, h _ H' F' io' S s' fun F2 io2 H2 st2 S2 s2 => Src.yc S2.sub (e2 F2 io2 H2 S2)⟩
    cases d with
    | tup es =>
      refine .inl (.inl ⟨B, F, io, st, rh, g, by rw [hr]; intro w H' F' io' S s' T; obtain ⟨s, e1, e2, e3, q⟩ := key w H' F' io' S s' T; cases s with | tup a vs => exact ⟨a, e1, ⟨vs, by rw [hK]; exact e2⟩, by rw [hK]; exact q⟩ | lst a vs => cases e3 | str z => cases e3⟩)
    | lst es =>
      refine .inl (.inr ⟨B, F, io, st, rh, g, by rw [hr]; intro w H' F' io' S s' T; obtain ⟨s, e1, e2, e3, q⟩ := key w H' F' io' S s' T; cases s with | lst a vs => exact ⟨a, e1, ⟨vs, by rw [hK]; exact e2⟩, by rw [hK]; exact q⟩ | tup a vs => cases e3 | str z => cases e3⟩)
    | str z =>
      refine .inr ⟨B, F, io, st, rh, g, by rw [hr]; intro w H' F' io' S s' T; obtain ⟨s, e1, e2, e3, q⟩ := key w H' F' io' S s' T; cases s with | str z' => exact ⟨z', e1, q⟩ | tup a vs => cases e3 | lst a vs => cases e3⟩
    | _ => cases hf
/-- enumerate -/
theorem enm_of {s : Src} {hs : ∀ a o, F a = some o → H a = some o} (sm : Sim c F io st) (h : s.at c.K H ∧ s.rel c F io ds) : (∀ a vs, s = .lst a vs → YC c (Ite c.K a) F io H (numFrom 0 ds)) ∧ (∀ z, s = .str z → YC c (IteS z) F io H (numFrom 0 ds)) ∧ (∀ a vs, s = .tup a vs → YC c (IteT c.K a) F io H (numFrom 0 ds)) := by
  obtain ⟨h1, h2⟩ := h
  refine ⟨fun a vs e => ?_, fun z e => ?_, fun a vs e => ?_⟩
  · subst e; exact yc_enm hs sm h1 h2
  · subst e; cases h2; exact yc_enmS hs sm z
  · subst e; exact yc_enmT hs sm h1 h2
theorem enm_items {d : D} {es : List D} (h : enmD d = some es) : ∃ ds, itemsD d = some ds ∧ es = numFrom 0 ds ∧ ((∃ z, d = .str z) ∨ (∃ us, d = .lst us) ∨ ∃ us, d = .tup us) := by
  cases d <;> simp only [enmD] at h <;> first | (cases h; done) | (cases h; exact ⟨_, rfl, rfl, by first | exact .inl ⟨_, rfl⟩ | exact .inr (.inl ⟨_, rfl⟩) | exact .inr (.inr ⟨_, rfl⟩)⟩)
theorem pi_enm (hK : X.K = c.K) {elts : List Expr} {k : Nat} {tpos : Pos} (hg : Gl X "enumerate") (hm : X.mg "enumerate" = none) (ha : PE X a (den c W fa)) (hn : notStar a = true) :
    PI X (.Tuple elts k tpos) (.Call (.Name "enumerate" p) [a] [] pos) (denI c W (YldS c) (iOne enmD fa)) := by
  have A1 : PA X [a] (tCons (den c W fa) tNil) := pa_cons ha pa_nil (star_cons hn)
  refine PI.weak (PI.or (PI.or (pi_enum hg hm A1 (star_cons hn)) (pi_enumS hg hm A1 (star_cons hn))) (pi_enumT hg hm A1 (star_cons hn))) fun σ H Q ⟨B, F, io, st, rh, g, h⟩ => ?_
  rcases iOne_cases h with ⟨x, s, hr, h⟩ | ⟨t, st1, d, ds, hr, hn, hv, hf, h⟩
  · exact .inl (.inr (den_ex g hr h))
  · obtain ⟨us, hi, rfl, hd⟩ := enm_items hf
    rcases hd with ⟨z, rfl⟩ | ⟨vs, rfl⟩ | ⟨vs, rfl⟩
    · refine .inl (.inr ⟨B, F, io, st, rh, g, ?_⟩)
      rw [hr]
      intro w H' F' io' S s' T
      obtain ⟨s, e1, e2, e3⟩ := src_s (g.step S s') (T.r s') hn hv hi
      cases s with
      | str z' => exact ⟨z', congrArg (fun q => [q]) e1, h _ H' F' io' S s' fun F2 io2 H2 st2 S2 s2 => (enm_of (hs := S2.sub) s2 (e2 F2 io2 H2 S2)).2.1 _ rfl⟩
      | tup a vs => cases e3
      | lst a vs => cases e3
    · refine .inl (.inl ⟨B, F, io, st, rh, g, ?_⟩)
      rw [hr]
      intro w H' F' io' S s' T
      obtain ⟨s, e1, e2, e3⟩ := src_s (g.step S s') (T.r s') hn hv hi
      cases s with
      | lst a ws => exact ⟨a, ws, congrArg (fun q => [q]) e1, by rw [hK]; exact (e2 F' io' H' (Stp.refl S.sub)).1, by rw [hK]; exact h _ H' F' io' S s' fun F2 io2 H2 st2 S2 s2 => (enm_of (hs := S2.sub) s2 (e2 F2 io2 H2 S2)).1 _ _ rfl⟩
      | tup a vs => cases e3
      | str z => cases e3
    · refine .inr ⟨B, F, io, st, rh, g, ?_⟩
      rw [hr]
      intro w H' F' io' S s' T
      obtain ⟨s, e1, e2, e3⟩ := src_s (g.step S s') (T.r s') hn hv hi
      cases s with
      | tup a ws => exact ⟨a, ws, congrArg (fun q => [q]) e1, by rw [hK]; exact (e2 F' io' H' (Stp.refl S.sub)).1, by rw [hK]; exact h _ H' F' io' S s' fun F2 io2 H2 st2 S2 s2 => (enm_of (hs := S2.sub) s2 (e2 F2 io2 H2 S2)).2.2 _ _ rfl⟩
      | lst a vs => cases e3
      | str z => cases e3
/-- range: comprehension and loop -/
theorem pi_rng1 {Y : Yl} (hY : ∀ J F io H ds, (∀ F2 io2 H2 st2, (∀ a o, F2 a = some o → H2 a = some o) → Sim c F2 io2 st2 → YC c J F2 io2 H2 ds) → Y J F io H ds) (hg : Gl X "range") (hm : X.mg "range" = none) (ha : PE X a (den c W fa)) (hn : notStar a = true) :
    PI X tg (.Call (.Name "range" p) [a] [] pos) (denI c W Y (iOne rng1 fa)) := by
  have A1 : PA X [a] (tCons (den c W fa) tNil) := pa_cons ha pa_nil (star_cons hn)
  refine PI.weak (pi_range1 hg hm A1 (star_cons hn)) fun σ H Q ⟨B, F, io, st, rh, g, h⟩ => ?_
  rcases iOne_cases h with ⟨x, s, hr, h⟩ | ⟨t, st1, d, ds, hr, hn, hv, hf, h⟩
  · exact den_ex g hr h
  · refine ⟨B, F, io, st, rh, g, ?_⟩
    rw [hr]
    intro w H' F' io' S s' T
    have g1 := g.step S s'
    have vw := view_ok g1 (T.r s') hv
    cases d with
    | int j =>
      cases vw
      simp only [rng1, rngD] at hf
      split at hf
      · rename_i hl
        cases hf
        refine ⟨j, rfl, hl.2.2.1, hl.2.2.2, h _ H' F' io' S s' (hY _ _ _ _ _ fun F2 io2 H2 st2 hs2 s2 => ?_)⟩
        rw [Int.sub_zero]
        exact yc_rng hs2 0 _
      · cases hf
    | _ => cases hf
theorem iTwo_cases {f : D → D → Option (List D)} {Y : Yl} {Q : It → Hp → Prop} (g : Good c B F io st rh σ H) (h : PstI c W F io σ H Y Q (iTwo f fa fb rh st)) {Q' : V → V → Hp → Prop}
    (hk : ∀ t u st2 d e ds v w H1 F1 io1, notLoc t = true → notLoc u = true → view rh st2 t = some d → view rh st2 u = some e → f d e = some ds → Stp c F io H F1 io1 H1 → Good c B F1 io1 st2 rh σ H1 → Tvr c F1 io1 rh σ H1 v t → Tvr c F1 io1 rh σ H1 w u → PstI c W F1 io1 σ H1 Y Q (.ok ds st2) → Q' v w H1) :
    den c W fa σ H fun v H1 => den c W fb σ H1 fun w H2 => Q' v w H2 := by
  refine ⟨B, F, io, st, rh, g, ?_⟩
  unfold iTwo at h
  cases hr : fa rh st with
  | no => rw [hr] at h; exact h.elim
  | ex x s => rw [hr] at h; exact h
  | ok t st1 =>
    rw [hr] at h
    intro v H1 F1 io1 S1 s1 T1
    have g1 := g.step S1 s1
    refine ⟨B, F1, io1, st1, rh, g1, ?_⟩
    have h : PstI c W F io σ H Y Q ((fb rh st1).bind fun u st2 => if (notLoc t && notLoc u) = true then oR ((view rh st2 t).bind fun d => (view rh st2 u).bind fun e => f d e) st2 else .no) := h
    cases hr2 : fb rh st1 with
    | no => rw [hr2] at h; exact h.elim
    | ex x s => rw [hr2] at h; exact fun H' F' io' S s' => h H' F' io' (S1.trans g.sub S) s'
    | ok u st2 =>
      rw [hr2] at h
      intro w H2 F2 io2 S2 s2 T2
      have g2 := g1.step S2 s2
      have h : PstI c W F io σ H Y Q (if (notLoc t && notLoc u) = true then oR ((view rh st2 t).bind fun d => (view rh st2 u).bind fun e => f d e) st2 else .no) := h
      split at h
      · rename_i hn
        rw [Bool.and_eq_true] at hn
        cases hv : view rh st2 t with
        | none => rw [hv] at h; exact h.elim
        | some d =>
          cases hv2 : view rh st2 u with
          | none => rw [hv, hv2] at h; exact h.elim
          | some e =>
            rw [hv, hv2] at h
            have h : PstI c W F io σ H Y Q (oR (f d e) st2) := h
            cases hf : f d e with
            | none => rw [hf] at h; exact h.elim
            | some ds =>
              rw [hf] at h
              refine hk t u st2 d e ds v w H2 F2 io2 hn.1 hn.2 hv hv2 hf (S1.trans g.sub S2) g2 ((T1.r s1).step S2 g1.sub) (T2.r s2) ?_
              exact fun J H' F' io' S s' y => h J H' F' io' ((S1.trans g.sub S2).trans g.sub S) s' y
      · exact h.elim
theorem pi_rng2 {Y : Yl} (hY : ∀ J F io H ds, (∀ F2 io2 H2 st2, (∀ a o, F2 a = some o → H2 a = some o) → Sim c F2 io2 st2 → YC c J F2 io2 H2 ds) → Y J F io H ds) (hg : Gl X "range") (hm : X.mg "range" = none) (ha : PE X a (den c W fa)) (hb : PE X b (den c W fb)) (hn : notStar a = true) (hn2 : notStar b = true) :
    PI X tg (.Call (.Name "range" p) [a, b] [] pos) (denI c W Y (iTwo rng2 fa fb)) := by
  have A1 : PA X [a, b] (tCons (den c W fa) (tCons (den c W fb) tNil)) := pa_cons ha (pa_cons hb pa_nil (star_cons hn2)) (star_cons hn)
  have e2 : starEach [b] X.env = [(false, eval b X.env)] := star_cons hn2
  refine PI.weak (pi_range2 hg hm A1 (by rw [star_cons hn, e2]) e2) fun σ H Q ⟨B, F, io, st, rh, g, h⟩ => ?_
  refine iTwo_cases g h (Q' := fun v w H2 => ∃ i j : Int, [v, w] = [.int i, .int j] ∧ (-(2 ^ 62) ≤ i ∧ i < 2 ^ 62 ∧ -(2 ^ 62) ≤ j ∧ j < 2 ^ 62) ∧ Q (Itr i (j - i).toNat) H2) fun t u st2 d e ds v w H1 F1 io1 n1 n2 v1 v2 hf S g1 T1 T2 h => ?_
  have w1 := view_ok g1 T1 v1
  have w2 := view_ok g1 T2 v2
  cases d <;> cases e <;> simp only [rng2] at hf <;> try (cases hf; done)
  cases w1; cases w2
  simp only [rngD] at hf
  split at hf
  · rename_i hl
    cases hf
    exact ⟨_, _, rfl, hl, h _ H1 F1 io1 (Stp.refl S.sub) g1.sim (hY _ _ _ _ _ fun F2 io2 H2 st2 hs2 s2 => yc_rng hs2 _ _)⟩
  · cases hf
theorem pi_zp (hK : X.K = c.K) {elts : List Expr} {k : Nat} {tpos : Pos} (hg : Gl X "zip") (hm : X.mg "zip" = none) (ha : PE X a (den c W fa)) (hb : PE X b (den c W fb)) (hn : notStar a = true) (hn2 : notStar b = true) :
    PI X (.Tuple elts k tpos) (.Call (.Name "zip" p) [a, b] [] pos) (denI c W (YldS c) (iTwo zipD fa fb)) := by
  have A1 : PA X [a, b] (tCons (den c W fa) (tCons (den c W fb) tNil)) := pa_cons ha (pa_cons hb pa_nil (star_cons hn2)) (star_cons hn)
  refine PI.weak (RZ.pi_zipA hg hm A1 (star_cons hn) (star_any (by simp [hn2]))) fun σ H Q ⟨B, F, io, st, rh, g, h⟩ => ?_
  refine iTwo_cases g h (Q' := fun v w H1 => ∃ a b xs ys, [v, w] = [.ref a, .ref b] ∧ ((SqL X.K H1 a xs ∧ SqL X.K H1 b ys ∧ Q (Itz X.K a b) H1) ∨ (SqT X.K H1 a xs ∧ SqT X.K H1 b ys ∧ Q (RZ.ItzT X.K a b) H1))) fun t u st2 d e ds v w H1 F1 io1 n1 n2 v1 v2 hf S g1 T1 T2 h => ?_
  cases d with
  | tup us =>
    cases e <;> simp only [zipD] at hf <;> try (cases hf; done)
    cases hf
    obtain ⟨s1, e1, e2, e3⟩ := src_s g1 T1 n1 v1 rfl
    obtain ⟨s2, f1, f2, f3⟩ := src_s g1 T2 n2 v2 rfl
    cases s1 with
    | tup a vs =>
      cases s2 with
      | tup b ws =>
        refine ⟨a, b, vs, ws, by rw [e1, f1]; rfl, .inr ⟨by rw [hK]; exact (e2 F1 io1 H1 (Stp.refl S.sub)).1, by rw [hK]; exact (f2 F1 io1 H1 (Stp.refl S.sub)).1, ?_⟩⟩
        rw [hK]
        exact h _ H1 F1 io1 (Stp.refl S.sub) g1.sim fun F2 io2 H2 st2 S2 s2 => yc_zipT S2.sub s2 (e2 F2 io2 H2 S2).1 (e2 F2 io2 H2 S2).2 (f2 F2 io2 H2 S2).1 (f2 F2 io2 H2 S2).2
      | lst _ _ => cases f3
      | str _ => cases f3
    | lst _ _ => cases e3
    | str _ => cases e3
  | lst us =>
    cases e <;> simp only [zipD] at hf <;> try (cases hf; done)
    cases hf
    obtain ⟨s1, e1, e2, e3⟩ := src_s g1 T1 n1 v1 rfl
    obtain ⟨s2, f1, f2, f3⟩ := src_s g1 T2 n2 v2 rfl
    cases s1 with
    | lst a vs =>
      cases s2 with
      | lst b ws =>
        refine ⟨a, b, vs, ws, by rw [e1, f1]; rfl, .inl ⟨by rw [hK]; exact (e2 F1 io1 H1 (Stp.refl S.sub)).1, by rw [hK]; exact (f2 F1 io1 H1 (Stp.refl S.sub)).1, ?_⟩⟩
        rw [hK]
        exact h _ H1 F1 io1 (Stp.refl S.sub) g1.sim fun F2 io2 H2 st2 S2 s2 => yc_zip S2.sub s2 (e2 F2 io2 H2 S2).1 (e2 F2 io2 H2 S2).2 (f2 F2 io2 H2 S2).1 (f2 F2 io2 H2 S2).2
      | tup _ _ => cases f3
      | str _ => cases f3
    | tup _ _ => cases e3
    | str _ => cases e3
  | _ => cases e <;> cases hf
end
end KL

namespace KL
open PySem L2

/-! ### list comprehensions -/
def wipeR (rh : Rho) : List Nat → Rho
  | [] => rh
  | v :: vs => (wipeR rh vs).set v none
def cTest (fc : Option Sm) (rh : Rho) (st : Sto) : R Bool := match fc with
  | none => .ok true st
  | some f => (match f rh st with
    | .ok (.d (.bl b)) st1 => .ok b st1
    | _ => .no)
def cElt (fe : Sm) (rh : Rho) (st : Sto) : R D := match fe rh st with
  | .ok t st1 => oR (toDv t) st1
  | _ => .no
def cLoop (tg : Tg) (fc : Option Sm) (fe : Sm) (rhw : Rho) : List D → Sto → R (List D)
  | [], st => .ok [] st
  | d :: ds, st => (oR (tgSet tg d rhw) st).bind fun rh' st0 => (cTest fc rh' st0).bind fun b st1 => match b with
    | true => (cElt fe rh' st1).bind fun y st2 => (cLoop tg fc fe rhw ds st2).bind fun ys st3 => .ok (y :: ys) st3
    | false => cLoop tg fc fe rhw ds st1
def eComp (vs : List Nat) (tg : Tg) (fi : Im) (fc : Option Sm) (fe : Sm) : Sm := fun rh st => (fi rh st).bind fun ds st1 => if ds.length ≤ sizeLine then (cLoop tg fc fe (wipeR rh vs) ds st1).bind fun ys st2 => .ok (.fr ys) st2 else .no
theorem R.assoc {α β γ : Type} (r : R α) (f : α → Sto → R β) (k : β → Sto → R γ) : (r.bind f).bind k = r.bind fun a st => (f a st).bind k := by cases r <;> rfl
section
variable {X : Cx} {c : Ct} {W : WX} {B : Bs} {F F' F1 H H' H1 : Hp} {io io' io1 : List Addr} {st st' st1 : Sto} {rh : Rho} {σ : St}
theorem wipeR_len (rh : Rho) : ∀ vs : List Nat, (wipeR rh vs).length = rh.length
  | [] => rfl
  | v :: vs => by unfold wipeR; rw [List.length_set, wipeR_len rh vs]
theorem wipeR_some {rh : Rho} {i : Nat} {x : Cell} : ∀ {vs : List Nat}, (wipeR rh vs)[i]? = some (some x) → rh[i]? = some (some x) ∧ i ∉ vs
  | [], h => ⟨h, by simp⟩
  | v :: vs, h => by
    unfold wipeR at h
    by_cases hi : v = i
    · subst hi
      by_cases hv : v < (wipeR rh vs).length
      · rw [List.getElem?_set_self hv] at h; cases h
      · rw [List.getElem?_eq_none (by simpa using hv)] at h; cases h
    · rw [List.getElem?_set_ne hi] at h
      obtain ⟨h1, h2⟩ := wipeR_some h
      exact ⟨h1, by simp only [List.mem_cons, not_or]; exact ⟨fun e => hi e.symm, h2⟩⟩
theorem Good.wipe (g : Good c B F io st rh σ H) (vs : List Nat) : Good c B F io st (wipeR rh vs) (L2.wipe σ vs) H := by
  refine ⟨g.bsub, g.btab, g.bnt, by rw [wipeR_len, wipe_length]; exact g.len, g.stp, g.sim, fun i d e => ?_, fun i ds e => ?_, fun i j ds es w h1 h2 h3 h4 => ?_, fun i t ds e => by
    obtain ⟨e1, e2⟩ := wipeR_some e
    rw [wipe_out e2]
    exact g.clo i t ds e1⟩
  · obtain ⟨e1, e2⟩ := wipeR_some e
    rw [wipe_out e2]
    exact g.val i d e1
  · obtain ⟨e1, e2⟩ := wipeR_some e
    rw [wipe_out e2]
    exact g.own i ds e1
  · obtain ⟨e1, z1⟩ := wipeR_some h1
    obtain ⟨e2, z2⟩ := wipeR_some h2
    rw [wipe_out z1] at h3
    rw [wipe_out z2] at h4
    exact g.dis i j ds es w e1 e2 h3 h4
/-- an object that came up on the way and is not leant on is changed -/
theorem Stp.chg (S : Stp c F io H F' io' H') {p : Addr} (o : HO) (h : H p = none) (hn : F' p = none) (hl : ∃ vs, H' p = some (.lst vs)) : Stp c F io H F' io' (upd H' p o) := by
  refine ⟨fun a u e => ?_, S.ext, S.per, S.new, fun a u e n ht => ?_, fun a e => ?_, S.nio, fun h0 => let ⟨vs, hv⟩ := hl; tabs_upd (S.tab h0) hv (fun _ z => by cases z) (fun _ z => by cases z), S.ntb, S.lck⟩
  · rw [upd_ne (fun z => by subst z; rw [hn] at e; cases e)]; exact S.sub a u e
  · rw [upd_ne (fun z => by subst z; rw [h] at e; cases e)]; exact S.fr a u e n ht
  · by_cases z : a = p
    · subst z; exact h
    · rw [upd_ne z] at e; exact S.gro a e
theorem Stp.out (S : Stp c F io H F' io' H') {p : Addr} {o : HO} (h : H p = some o) (hn : F p = none) : F' p = none := by
  cases q : F' p with
  | none => rfl
  | some u =>
    rcases S.new p (by rw [q]; simp) with z | z
    · exact absurd hn z
    · rw [h] at z; cases z
theorem wipe_eq {σ σ2 : St} {vs sl : List Nat} (hsub : ∀ i ∈ sl, i ∈ vs) (h : ∀ i, i ∉ sl → σ2[i]? = (L2.wipe σ vs)[i]?) (hl : σ2.length = (L2.wipe σ vs).length) : L2.wipe σ2 vs = L2.wipe σ vs := by
  have inn : ∀ (τ : St) (us : List Nat) (i : Nat), i ∈ us → i < τ.length → (L2.wipe τ us)[i]? = some none := by
    intro τ us
    induction us with
    | nil => intro i hi; simp at hi
    | cons u us ih =>
      intro i hi hl
      unfold L2.wipe
      by_cases z : u = i
      · subst z
        rw [List.getElem?_set_self (by rw [wipe_length]; exact hl)]
      · rw [List.getElem?_set_ne z]
        exact ih i (by simpa [Ne.symm z] using hi) hl
  rw [wipe_length] at hl
  apply List.ext_getElem?
  intro i
  by_cases hv : i ∈ vs
  · by_cases hlt : i < σ.length
    · rw [inn σ2 vs i hv (by rw [hl]; exact hlt), inn σ vs i hv hlt]
    · rw [List.getElem?_eq_none (by rw [wipe_length, hl]; omega), List.getElem?_eq_none (by rw [wipe_length]; omega)]
  · rw [wipe_out hv, h i (fun z => hv (hsub i z))]
/-- nothing is let out -/
abbrev W0 : WX := fun _ _ _ _ => False
/-- the readings of a comprehension's tests -/
def CtOk (c : Ct) (fc : Option Sm) (tt : TT) : Prop := (fc = none ∧ tt = tYes) ∨ ∃ f, fc = some f ∧ tt = denT c W0 f
theorem test_of {fc : Option Sm} {tt : TT} (h : CtOk c fc tt) (g : Good c B F io st rh σ H) {b : Bool} {st1 : Sto} (e : cTest fc rh st = .ok b st1) {Q : Bool → Hp → Prop}
    (k : ∀ H' F' io', Stp c F io H F' io' H' → Good c B F' io' st1 rh σ H' → Q b H') : tt σ H Q := by
  rcases h with ⟨rfl, rfl⟩ | ⟨f, rfl, rfl⟩
  · cases e
    exact k H F io (Stp.refl g.sub) g
  · refine ⟨B, F, io, st, rh, g, ?_⟩
    unfold cTest at e
    simp only at e
    cases hr : f rh st with
    | no => rw [hr] at e; cases e
    | ex x s => rw [hr] at e; cases e
    | ok t s =>
      rw [hr] at e
      cases t with
      | d d =>
        cases d with
        | bl b' =>
          cases e
          intro v H' F' io' S s' T
          cases T
          exact ⟨_, rfl, k H' F' io' S (g.step S s')⟩
        | _ => cases e
      | _ => cases e
theorem elt_of {fe : Sm} (g : Good c B F io st rh σ H) {d : D} {st1 : Sto} (e : cElt fe rh st = .ok d st1) {Q : VK}
    (k : ∀ v H' F' io', Stp c F io H F' io' H' → Sim c F' io' st1 → Rv c F' io' v d → Q v H') : den c W0 fe σ H Q := by
  refine ⟨B, F, io, st, rh, g, ?_⟩
  unfold cElt at e
  cases hr : fe rh st with
  | no => rw [hr] at e; cases e
  | ex x s => rw [hr] at e; cases e
  | ok t s =>
    rw [hr] at e
    simp only at e
    intro v H' F' io' S s' T
    cases ht : toDv t with
    | none => rw [ht] at e; cases e
    | some d' =>
      rw [ht] at e
      cases e
      obtain ⟨F2, S2, s2, r2⟩ := Tvs.give S s' T ht
      exact k v H' F2 io' S2 s2 r2
theorem comp_of {vs : List Nat} {tg : Tg} {fi : Im} {fc : Option Sm} {fe : Sm} {g : TG} {tt : TT} (hg : TgOk c tg g) (ht : CtOk c fc tt) (hsl : ∀ i ∈ tg.slots, i ∈ vs) {σ : St} {H : Hp} {Q : VK} (h : den c W (eComp vs tg fi fc fe) σ H Q) :
    tLc (denI c W (YldS c) fi) g tt (den c W0 fe) vs σ H Q := by
  obtain ⟨B, F, io, st, rh, g0, p⟩ := h
  refine ⟨B, F, io, st, rh, g0, ?_⟩
  unfold eComp at p
  cases hr : fi rh st with
  | no => rw [hr] at p; exact p.elim
  | ex x s => rw [hr] at p; exact p
  | ok ds st1 =>
    rw [hr] at p
    have p : Pst c W F io rh σ H Q (if ds.length ≤ sizeLine then (cLoop tg fc fe (wipeR rh vs) ds st1).bind fun ys st2 => .ok (.fr ys) st2 else .no) := p
    split at p
    case isFalse => exact p.elim
    rename_i hsz
    intro J H1 F1 io1 S1 s1 Y D hD
    have g1 := g0.step S1 s1
    obtain ⟨fD, nD, bD⟩ := g1.fresh hD
    have hD0 : H D = none := S1.gro D hD
    refine ⟨fun i m H' => m = ds.length - i ∧ i ≤ ds.length ∧ ∃ (F' : Hp) (io' : List Addr) (st' : Sto) (accD : List KL.D) (accV : List V), Stp c F1 io1 H1 F' io' H' ∧ Sim c F' io' st' ∧ H' D = some (.lst accV) ∧ F' D = none ∧ RvAll c F' io' accV accD ∧ accD.length ≤ i ∧
      Pst c W F io rh σ H Q ((cLoop tg fc fe (wipeR rh vs) (ds.drop i) st').bind fun ys st2 => .ok (.fr (accD ++ ys)) st2), ⟨ds.length, by simp, Nat.zero_le _, F1, io1, st1, [], [], Stp.lay g1.sub hD, s1, upd_same, fD, .nil, Nat.le_refl _, by simpa using p⟩, ?_⟩
    rintro i m H' ⟨rfl, hi, F', io', st', accD, accV, S', s', hD', fD', rA, hlen, p'⟩
    have S0 : Stp c F io H F' io' H' := S1.trans g0.sub S'
    have g' := g0.step S0 s'
    have yc := Y F' io' H' st' S' s'
    by_cases hlt : i < ds.length
    · have hdrop : ds.drop i = ds[i] :: ds.drop (i + 1) := List.drop_eq_getElem_cons hlt
      obtain ⟨go, yl⟩ := yc.1 i ds[i] (by simp [hlt])
      refine .inr ⟨go, fun H2 => ∃ (F' : Hp) (io' : List Addr) (st' : Sto) (accD : List KL.D) (accV : List V), Stp c F1 io1 H1 F' io' H2 ∧ Sim c F' io' st' ∧ H2 D = some (.lst accV) ∧ F' D = none ∧ RvAll c F' io' accV accD ∧ accD.length ≤ i + 1 ∧
        Pst c W F io rh σ H Q ((cLoop tg fc fe (wipeR rh vs) (ds.drop (i + 1)) st').bind fun ys st2 => .ok (.fr (accD ++ ys)) st2), fun H2 q => ⟨ds.length - (i + 1), by omega, rfl, hlt, q⟩, fun x H2 hy => ?_⟩
      obtain ⟨F2, S2, k2, rx⟩ := yl x H2 hy
      have s2 : Sim c F2 io' st' := s'.step S2 g'.sub rfl k2
      have g2 := g'.step S2 s2
      have hD2 : H2 D = some (.lst accV) := S2.frL D _ hD' (fun z => s'.dom z fD')
      have fD2 : F2 D = none := S2.out hD' fD'
      have rA2 := rA.step S2 g'.sub
      rw [hdrop] at p'
      unfold cLoop at p'
      rw [R.assoc] at p'
      cases hts : tgSet tg ds[i] (wipeR rh vs) with
      | none => rw [hts] at p'; exact p'.elim
      | some rh2 =>
        rw [hts] at p'
        have p' : Pst c W F io rh σ H Q (((cTest fc rh2 st').bind fun b st1 => match b with
          | true => (cElt fe rh2 st1).bind fun y st2 => (cLoop tg fc fe (wipeR rh vs) (ds.drop (i + 1)) st2).bind fun ys st3 => .ok (y :: ys) st3
          | false => cLoop tg fc fe (wipeR rh vs) (ds.drop (i + 1)) st1).bind fun ys st2 => .ok (.fr (accD ++ ys)) st2) := p'
        refine hg (g2.wipe vs) rx hts fun σ2 g3 e1 e2 => ⟨wipe_eq hsl e1 e2, ?_⟩
        rw [R.assoc] at p'
        cases htt : cTest fc rh2 st' with
        | no => rw [htt] at p'; exact p'.elim
        | ex x s =>
          exfalso
          unfold cTest at htt
          cases fc with
          | none => cases htt
          | some f =>
            simp only at htt
            cases hq : f rh2 st' with
            | no => rw [hq] at htt; cases htt
            | ex x s => rw [hq] at htt; cases htt
            | ok t s =>
              rw [hq] at htt
              cases t with
              | d d => cases d <;> cases htt
              | _ => cases htt
        | ok b st3 =>
          rw [htt] at p'
          refine test_of ht g3 htt fun H3 F3 io3 S3 g4 => ?_
          have hD3 : H3 D = some (.lst accV) := S3.frL D _ hD2 (fun z => s2.dom z fD2)
          have fD3 : F3 D = none := S3.out hD2 fD2
          have S13 : Stp c F1 io1 H1 F3 io3 H3 := (S'.trans g1.sub S2).trans g1.sub S3
          cases b with
          | false => exact iteF ⟨F3, io3, st3, accD, accV, S13, g4.sim, hD3, fD3, rA2.step S3 g3.sub, Nat.le_succ_of_le hlen, p'⟩
          | true =>
            refine iteT ?_
            have p' : Pst c W F io rh σ H Q (((cElt fe rh2 st3).bind fun y st2 => (cLoop tg fc fe (wipeR rh vs) (ds.drop (i + 1)) st2).bind fun ys st3 => .ok (y :: ys) st3).bind fun ys st2 => .ok (.fr (accD ++ ys)) st2) := p'
            rw [R.assoc] at p'
            cases hel : cElt fe rh2 st3 with
            | no => rw [hel] at p'; exact p'.elim
            | ex x s =>
              exfalso
              unfold cElt at hel
              cases hq : fe rh2 st3 with
              | no => rw [hq] at hel; cases hel
              | ex x s => rw [hq] at hel; cases hel
              | ok t s =>
                rw [hq] at hel
                simp only at hel
                cases ht : toDv t with
                | none => rw [ht] at hel; cases hel
                | some d' => rw [ht] at hel; cases hel
            | ok y st4 =>
              rw [hel] at p'
              refine elt_of g4 hel fun v H4 F4 io4 S4 s4 rv => ?_
              have hD4 : H4 D = some (.lst accV) := S4.frL D _ hD3 (fun z => g4.sim.dom z fD3)
              have fD4 : F4 D = none := S4.out hD3 fD3
              have S14 : Stp c F1 io1 H1 F4 io4 H4 := S13.trans g1.sub S4
              refine ⟨accV, hD4, ?_, F4, io4, st4, accD ++ [y], accV ++ [v], S14.chg _ hD fD4 ⟨_, hD4⟩, s4, upd_same, fD4, ((rA2.step S3 g3.sub).step S4 g4.sub).append (.cons rv .nil), by rw [List.length_append]; simpa using hlen, ?_⟩
              · rw [rA.length]
                exact Nat.lt_of_le_of_lt hlen (Nat.lt_of_lt_of_le hlt hsz)
              · have p' : Pst c W F io rh σ H Q (((cLoop tg fc fe (wipeR rh vs) (ds.drop (i + 1)) st4).bind fun ys st3 => .ok (y :: ys) st3).bind fun ys st2 => .ok (.fr (accD ++ ys)) st2) := p'
                rw [R.assoc] at p'
                have e : (fun (ys : List KL.D) (st2 : Sto) => (R.ok (TV.fr ((accD ++ [y]) ++ ys)) st2 : R TV)) = fun ys st2 => (R.ok (y :: ys) st2 : R (List KL.D)).bind fun ys st2 => .ok (.fr (accD ++ ys)) st2 := by
                  funext ys st2
                  show R.ok _ _ = R.ok _ _
                  rw [List.append_assoc]
                  rfl
                rw [e]
                exact p'
    · have e : i = ds.length := by omega
      subst e
      refine .inl ⟨yc.2, ?_⟩
      rw [List.drop_length] at p'
      have p' : Pst c W F io rh σ H Q (.ok (.fr (accD ++ [])) st') := p'
      rw [List.append_nil] at p'
      exact p' (.ref D) H' F' io' S0 s' ⟨D, accV, rfl, hD0, hD', fD', rA⟩
theorem pe_den_comp (C : Cok X c W) {elt tgE iter : Expr} {ifs : List Expr} {scope : Scope} {own : List (Str × Nat)} {pos : Pos} {tg : Tg} {fi : Im} {fc : Option Sm} {fe : Sm} {g : TG} {tt : TT} (hi : PI X tgE iter (denI c W (YldS c) fi)) (ok : BlkOk X.N X.env.scope scope own)
    (hg : ∀ (s : Shared) (H : Hp) (C : Addr) (cl : List (Str × Addr)) (fp : List Addr), PG (X.blk s H scope (compEnvC scope cl C X.env) fp) tgE g) (hgo : TgOk c tg g)
    (ht : ∀ (s : Shared) (H : Hp) (C : Addr) (cl : List (Str × Addr)) (fp : List Addr), PTs (X.blk s H scope (compEnvC scope cl C X.env) fp) ifs tt) (hto : CtOk c fc tt)
    (he : ∀ (s : Shared) (H : Hp) (C : Addr) (cl : List (Str × Addr)) (fp : List Addr), PE (X.blk s H scope (compEnvC scope cl C X.env) fp) elt (den c W0 fe)) (hs : ∀ x, foldedSetIterable iter X.env x = pure x) (hsl : ∀ i ∈ tg.slots, i ∈ own.map (·.2)) :
    PE X (.ListComp elt [⟨tgE, iter, ifs, 0⟩] scope pos) (den c W (eComp (own.map (·.2)) tg fi fc fe)) :=
  PE.weak (pe_lc C.calm C.nd hi ok hg ht he hs) fun σ H Q h => comp_of hgo hto hsl h
end
end KL

namespace KL
open PySem L2

/-! ### statements -/
inductive RS where
  | nx (rh : Rho) (st : Sto) | rt (d : D) (st : Sto) | bk (rh : Rho) (st : Sto) | ct (rh : Rho) (st : Sto) | ex (c : Str) (rh : Rho) (st : Sto) | no
abbrev Ss := Rho → Sto → RS
def Pss (c : Ct) (W : WX) (B : Bs) (F : Hp) (io : List Addr) (D : Ends) : RS → Prop
  | .nx rh st => ∀ σ' H' F' io', Per F io F' io' → Good c B F' io' st rh σ' H' → D.nx σ' H'
  | .rt d st => ∀ v H' F' io', Stp c B.F B.io B.H F' io' H' → Per F io F' io' → Sim c F' io' st → Rv c F' io' v d → D.rt v H'
  | .bk rh st => ∀ σ' H' F' io', Per F io F' io' → Good c B F' io' st rh σ' H' → D.bk σ' H'
  | .ct rh st => ∀ σ' H' F' io', Per F io F' io' → Good c B F' io' st rh σ' H' → D.ct σ' H'
  | .ex e rh st => ∀ σ' H' F' io', Per F io F' io' → Good c B F' io' st rh σ' H' → W (c.xc e) none σ' H'
  | .no => False
def denS (c : Ct) (W : WX) (f : Ss) : TS := fun D σ H => ∃ B F io st rh, Good c B F io st rh σ H ∧ Pss c W B F io D (f rh st)
theorem PS.weak {X : Cx} {st : Stmt} {t t' : TS} (h : PS X st t) (hw : ∀ D σ H, t' D σ H → t D σ H) : PS X st t' := ⟨fun pins s σ H D I q => h.run pins s σ H D I (hw D σ H q)⟩
theorem PSs.weak {X : Cx} {st : List Stmt} {t t' : TS} (h : PSs X st t) (hw : ∀ D σ H, t' D σ H → t D σ H) : PSs X st t' := ⟨fun pins s σ H D I q => h.run pins s σ H D I (hw D σ H q)⟩
section
variable {X : Cx} {c : Ct} {W : WX} {B : Bs} {F F' F1 F2 H H' H1 : Hp} {io io' io1 io2 : List Addr} {st st' st1 : Sto} {rh : Rho} {σ : St} {v : V} {t : TV} {d : D}
theorem Per.refl : Per F io F io := ⟨⟨⟨[], by simp⟩, fun _ _ h _ => h, fun _ _ _ h => h⟩, fun _ _ _ h => h⟩
theorem Per.trans (a : Per F io F1 io1) (b : Per F1 io1 F2 io2) : Per F io F2 io2 := by
  refine ⟨⟨?_, fun x o h n => b.per x o (a.per x o h n) (a.nin x o h n), fun x o h n => b.nin x o (a.per x o h n) (a.nin x o h n)⟩, fun x o u h => b.lck x o u (a.lck x o u h)⟩
  obtain ⟨m1, e1⟩ := a.ext
  obtain ⟨m2, e2⟩ := b.ext
  exact ⟨m1 ++ m2, by rw [e2, e1, List.append_assoc]⟩
theorem Pss.per {D : Ends} {r : RS} (S : Per F io F1 io1) (h : Pss c W B F io D r) : Pss c W B F1 io1 D r := by
  cases r with
  | nx rh st => exact fun σ' H' F' io' S' g => h σ' H' F' io' (S.trans S') g
  | rt d st => exact fun v H' F' io' S' l' s' r' => h v H' F' io' S' (S.trans l') s' r'
  | bk rh st => exact fun σ' H' F' io' S' g => h σ' H' F' io' (S.trans S') g
  | ct rh st => exact fun σ' H' F' io' S' g => h σ' H' F' io' (S.trans S') g
  | ex e rh st => exact fun σ' H' F' io' S' g => h σ' H' F' io' (S.trans S') g
  | no => exact h
/-- an expression, then a statement's rest -/
def sThen (fe : Sm) (k : TV → Sto → Rho → RS) : Ss := fun rh st => match fe rh st with
  | .ok t st1 => k t st1 rh
  | .ex e st1 => .ex e rh st1
  | .no => .no
theorem then_of {fe : Sm} {k : TV → Sto → Rho → RS} {D : Ends} {Q : VK} (g : Good c B F io st rh σ H) (h : Pss c W B F io D (sThen fe k rh st))
    (hk : ∀ t st1 v H1 F1 io1, Stp c F io H F1 io1 H1 → Good c B F1 io1 st1 rh σ H1 → Sim c F1 io1 st1 → Tvs c H F1 io1 rh σ H1 v t → Pss c W B F io D (k t st1 rh) → Q v H1) : den c W fe σ H Q := by
  refine ⟨B, F, io, st, rh, g, ?_⟩
  unfold sThen at h
  cases hr : fe rh st with
  | no => rw [hr] at h; exact h.elim
  | ex x s => rw [hr] at h; exact fun H' F' io' S s' => h σ H' F' io' (S.perm g.sub) (g.step S s')
  | ok t s => rw [hr] at h; exact fun v H' F' io' S s' T => hk t s v H' F' io' S (g.step S s') s' T h
/-- name = e -/
def asg (own : Bool) (i : Nat) (t : TV) (st : Sto) (rh : Rho) : RS := match t with
  | .d d => .nx (rh.set i (some (.val d))) st
  | .fr ds => (match own with
    | true => .nx (rh.set i (some (.own ds))) st
    | false => .nx (rh.set i (some (.val (.lst ds)))) st)
  | .o _ => .no
def sAsg (own : Bool) (i : Nat) (fe : Sm) : Ss := sThen fe (asg own i)
theorem Good.setOwn (g : Good c B F io st rh σ H) (S : Stp c F io H F' io' H') (s' : Sim c F' io' st') {p : Addr} {vs : List V} {ds : List D} (h0 : H p = none) (h1 : H' p = some (.lst vs)) (h2 : F' p = none) (r : RvAll c F' io' vs ds) (i : Nat) :
    Good c B F' io' st' (rh.set i (some (.own ds))) (σ.set i (some (.ref p))) H' := by
  have g' := g.step S s'
  have old : ∀ {m : Nat} {us : List D}, (rh.set i (some (.own ds)))[m]? = some (some (.own us)) → i ≠ m → rh[m]? = some (some (.own us)) := by
    intro m us hm z
    rw [List.getElem?_set_ne z] at hm
    exact hm
  have far : ∀ {m : Nat} {us : List D}, rh[m]? = some (some (.own us)) → σ[m]? ≠ some (some (.ref p)) := by
    intro m us hm e
    obtain ⟨a, ws, e1, e2, _⟩ := g.own m us hm
    rw [e] at e1
    cases e1
    rw [h0] at e2; cases e2
  refine ⟨g'.bsub, g'.btab, g'.bnt, by rw [List.length_set, List.length_set]; exact g.len, g'.stp, s', fun j e hj => ?_, fun j us hj => ?_, fun j k us ws w hj hk e1 e2 => ?_, fun j t us hj => by
    by_cases z : i = j
    · subst z
      rw [List.getElem?_set, if_pos rfl] at hj
      split at hj <;> cases hj
    · rw [List.getElem?_set_ne z] at hj ⊢
      exact g'.clo j t us hj⟩
  · by_cases z : i = j
    · subst z
      rw [List.getElem?_set, if_pos rfl] at hj
      split at hj <;> cases hj
    · rw [List.getElem?_set_ne z] at hj ⊢
      exact g'.val j e hj
  · by_cases z : i = j
    · subst z
      rw [List.getElem?_set, if_pos rfl] at hj
      split at hj
      · rename_i hl
        cases hj
        refine ⟨p, vs, ?_, h1, h2, g.stp.gro p h0, r⟩
        rw [List.getElem?_set, if_pos rfl, if_pos (by rw [← g.len]; exact hl)]
      · cases hj
    · rw [List.getElem?_set_ne z] at hj ⊢
      exact g'.own j us hj
  · by_cases z1 : i = j
    · by_cases z2 : i = k
      · exact z1.symm.trans z2
      · exfalso
        subst z1
        rw [List.getElem?_set_ne z2] at e2
        have hk' := old hk z2
        have : w = .ref p := by
          rw [List.getElem?_set, if_pos rfl] at e1
          split at e1
          · exact (Option.some.inj (Option.some.inj e1)).symm
          · cases e1
        rw [this] at e2
        exact far hk' e2
    · by_cases z2 : i = k
      · exfalso
        subst z2
        rw [List.getElem?_set_ne z1] at e1
        have hj' := old hj z1
        have : w = .ref p := by
          rw [List.getElem?_set, if_pos rfl] at e2
          split at e2
          · exact (Option.some.inj (Option.some.inj e2)).symm
          · cases e2
        rw [this] at e1
        exact far hj' e1
      · rw [List.getElem?_set_ne z1] at e1
        rw [List.getElem?_set_ne z2] at e2
        exact g.dis j k us ws w (old hj z1) (old hk z2) e1 e2
theorem asg_of {own : Bool} {i : Nat} {fe : Sm} {D : Ends} {σ : St} {H : Hp} (h : denS c W (sAsg own i fe) D σ H) : tAsg (den c W fe) (gName i) D σ H := by
  obtain ⟨B, F, io, st, rh, g, p⟩ := h
  refine then_of g p fun t st1 v H1 F1 io1 S g1 s1 T q => ?_
  cases t with
  | d d => exact q _ H1 F1 io1 (S.perm g.sub) (g1.set T i)
  | o j => exact q.elim
  | fr ds =>
    cases own with
    | true =>
      obtain ⟨a, vs, rfl, h0, h1, h2, r⟩ := T
      exact q _ H1 F1 io1 (S.perm g.sub) (g.setOwn S s1 h0 h1 h2 r i)
    | false =>
      obtain ⟨F2, S2, s2, r2⟩ := Tvs.give S s1 T rfl
      exact q _ H1 F2 io1 (S2.perm g.sub) ((g.step S2 s2).set r2 i)
/-- return e -/
def ret (t : TV) (st : Sto) (rh : Rho) : RS := match t with
  | .d d => .rt d st
  | .fr ds => .rt (.lst ds) st
  | .o i => (match rh[i]? with
    | some (some (.own ds)) => .rt (.lst ds) st
    | _ => .no)
def sRet (fe : Sm) : Ss := sThen fe ret
theorem ret_of {fe : Sm} {D : Ends} {σ : St} {H : Hp} (h : denS c W (sRet fe) D σ H) : tRet (den c W fe) D σ H := by
  obtain ⟨B, F, io, st, rh, g, p⟩ := h
  refine then_of g p fun t st1 v H1 F1 io1 S g1 s1 T q => ?_
  cases t with
  | d d => exact q v H1 F1 io1 g1.stp (S.perm g.sub) s1 T
  | fr ds =>
    obtain ⟨F2, S2, s2, r2⟩ := Tvs.give S s1 T rfl
    exact q v H1 F2 io1 (g.step S2 s2).stp (S2.perm g.sub) s2 r2
  | o i =>
    obtain ⟨⟨ds, e1⟩, e2⟩ := T
    simp only [ret, e1] at q
    obtain ⟨a, vs, e3, e4, e5, e6, r⟩ := g1.own i ds e1
    rw [e2] at e3
    cases e3
    refine q (.ref a) H1 (upd F1 a (.lst vs)) io1 (g1.stp.lean e6 e4 e5) ((S.perm g.sub).trans ⟨⟨⟨[], by simp⟩, fun b u e _ => upd_more e5 b u e, fun _ _ _ n => n⟩, fun b o u e => upd_more e5 b _ e⟩) (s1.more (upd_more e5)) (.lst upd_same (fun z => s1.dom z e5) (r.more (upd_more e5)))
def sRetN : Ss := fun _ st => .rt .non st
theorem retN_of {D : Ends} {σ : St} {H : Hp} (h : denS c W sRetN D σ H) : tRetN D σ H := by
  obtain ⟨B, F, io, st, rh, g, p⟩ := h
  exact p .non H F io g.stp Per.refl g.sim .non
def sNil : Ss := fun rh st => .nx rh st
theorem nil_of {D : Ends} {σ : St} {H : Hp} (h : denS c W sNil D σ H) : tNext D σ H := by
  obtain ⟨B, F, io, st, rh, g, p⟩ := h
  exact p σ H F io Per.refl g
def sSeq (f k : Ss) : Ss := fun rh st => match f rh st with
  | .nx rh' st' => k rh' st'
  | r => r
theorem seq_of {f k : Ss} {D : Ends} {σ : St} {H : Hp} (h : denS c W (sSeq f k) D σ H) : tSeq (denS c W f) (denS c W k) D σ H := by
  obtain ⟨B, F, io, st, rh, g, p⟩ := h
  refine ⟨B, F, io, st, rh, g, ?_⟩
  unfold sSeq at p
  cases hr : f rh st with
  | nx rh' st' =>
    rw [hr] at p
    exact fun σ' H' F' io' S g' => ⟨B, F', io', st', rh', g', Pss.per (r := k rh' st') S p⟩
  | rt d s => rw [hr] at p; exact p
  | bk rh' s => rw [hr] at p; exact p
  | ct rh' s => rw [hr] at p; exact p
  | ex e rh' s => rw [hr] at p; exact p
  | no => rw [hr] at p; exact p
def sExpr (fe : Sm) : Ss := sThen fe fun _ st rh => .nx rh st
theorem expr_of {fe : Sm} {D : Ends} {σ : St} {H : Hp} (h : denS c W (sExpr fe) D σ H) : tDrop (den c W fe) D σ H := by
  obtain ⟨B, F, io, st, rh, g, p⟩ := h
  exact then_of g p fun t st1 v H1 F1 io1 S g1 s1 T q => q σ H1 F1 io1 (S.perm g.sub) g1
def sIf (fc : Sm) (f k : Ss) : Ss := sThen fc fun t st rh => match t with
  | .d (.bl true) => f rh st
  | .d (.bl false) => k rh st
  | _ => .no
theorem if_of {fc : Sm} {f k : Ss} {D : Ends} {σ : St} {H : Hp} (h : denS c W (sIf fc f k) D σ H) : tIfS (denT c W fc) (denS c W f) (denS c W k) D σ H := by
  obtain ⟨B, F, io, st, rh, g, p⟩ := h
  refine then_of g p fun t st1 v H1 F1 io1 S g1 s1 T q => ?_
  cases t with
  | d d =>
    cases d with
    | bl b =>
      cases T
      refine ⟨b, rfl, ?_⟩
      cases b with
      | true => exact iteT ⟨B, F1, io1, st1, rh, g1, Pss.per (r := f rh st1) (S.perm g.sub) q⟩
      | false => exact iteF ⟨B, F1, io1, st1, rh, g1, Pss.per (r := k rh st1) (S.perm g.sub) q⟩
    | _ => exact q.elim
  | _ => exact q.elim
def sBrk : Ss := fun rh st => .bk rh st
theorem brk_of {D : Ends} {σ : St} {H : Hp} (h : denS c W sBrk D σ H) : tBreak D σ H := by
  obtain ⟨B, F, io, st, rh, g, p⟩ := h
  exact p σ H F io Per.refl g
/-- a, b = e1, e2 of two local names -/
def sPar (i j : Nat) (fs : List Sm) : Ss := fun rh st => match eArgs fs rh st with
  | .ok [d, e] st1 => .nx ((rh.set i (some (.val d))).set j (some (.val e))) st1
  | .ok _ _ => .no
  | .ex x st1 => .ex x rh st1
  | .no => .no
theorem par_of {i j : Nat} {fs : List Sm} {D : Ends} {σ : St} {H : Hp} (h : denS c W (sPar i j fs) D σ H) : tPar i j (denA c W fs) D σ H := by
  obtain ⟨B, F, io, st, rh, g, p⟩ := h
  refine ⟨B, F, io, st, rh, g, ?_⟩
  unfold sPar at p
  cases hr : eArgs fs rh st with
  | no => rw [hr] at p; exact p.elim
  | ex x s => rw [hr] at p; exact fun H' F' io' S s' => p σ H' F' io' (S.perm g.sub) (g.step S s')
  | ok ds s =>
    rw [hr] at p
    intro vs H' F' io' S s' T
    cases T with
    | nil => exact p.elim
    | cons h1 T =>
      cases T with
      | nil => exact p.elim
      | cons h2 T =>
        cases T with
        | nil => exact ⟨_, _, rfl, p _ H' F' io' (S.perm g.sub) (((g.step S s').set h1 i).set h2 j)⟩
        | cons _ _ => exact p.elim
/-- (a, b, ..) = e -/
def sUnp (is : List Nat) (fe : Sm) : Ss := sThen fe fun t st rh => match toDv t with
  | some d => (match tgSet (.tup is) d rh with
    | some rh' => .nx rh' st
    | none => .no)
  | none => .no
theorem unp_of {K : PySem.W.Frag} (hK : K = c.K) {is : List Nat} {fe : Sm} {D : Ends} {σ : St} {H : Hp} (h : denS c W (sUnp is fe) D σ H) : tAsg (den c W fe) (gTup K is.length (gNames is)) D σ H := by
  obtain ⟨B, F, io, st, rh, g, p⟩ := h
  refine then_of g p fun t st1 v H1 F1 io1 S g1 s1 T q => ?_
  cases ht : toDv t with
  | none => simp only [ht] at q; exact q.elim
  | some d =>
    simp only [ht] at q
    cases hs : tgSet (.tup is) d rh with
    | none => rw [hs] at q; exact q.elim
    | some rh' =>
      rw [hs] at q
      obtain ⟨F2, S2, s2, r2⟩ := Tvs.give S s1 T ht
      exact tg_tup hK is (g.step S2 s2) r2 hs fun σ' g' _ _ => q σ' H1 F2 io1 (S2.perm g.sub) g'
/-- for tg in ..: body -/
def sLoop (tg : Tg) (body : Ss) : List D → Ss
  | [], rh, st => .nx rh st
  | d :: ds, rh, st => match tgSet tg d rh with
    | none => .no
    | some rh1 => (match body rh1 st with
      | .nx rh2 st2 => sLoop tg body ds rh2 st2
      | .ct rh2 st2 => sLoop tg body ds rh2 st2
      | .bk rh2 st2 => .nx rh2 st2
      | r => r)
def sFor (tg : Tg) (fi : Im) (body : Ss) : Ss := fun rh st => match fi rh st with
  | .ok ds st1 => sLoop tg body ds rh st1
  | .ex x st1 => .ex x rh st1
  | .no => .no
theorem for_of {tg : Tg} {fi : Im} {body : Ss} {g : TG} (hg : TgOk c tg g) {D : Ends} {σ : St} {H : Hp} (h : denS c W (sFor tg fi body) D σ H) : tFor (denI c W (YldP c) fi) g (denS c W body) D σ H := by
  obtain ⟨B, F, io, st, rh, g0, p⟩ := h
  refine ⟨B, F, io, st, rh, g0, ?_⟩
  unfold sFor at p
  cases hr : fi rh st with
  | no => rw [hr] at p; exact p.elim
  | ex x s => rw [hr] at p; exact fun H' F' io' S s' => p σ H' F' io' (S.perm g0.sub) (g0.step S s')
  | ok ds st1 =>
    rw [hr] at p
    intro J H1 F1 io1 S1 s1 Y
    have g1 := g0.step S1 s1
    refine ⟨fun i m σ' H' => m = ds.length - i ∧ i ≤ ds.length ∧ ∃ (F' : Hp) (io' : List Addr) (st' : Sto) (rh' : Rho), Good c B F' io' st' rh' σ' H' ∧ Per F1 io1 F' io' ∧ Pss c W B F' io' D (sLoop tg body (ds.drop i) rh' st'),
      ⟨ds.length, by simp, Nat.zero_le _, F1, io1, st1, rh, g1, Per.refl, Pss.per (r := sLoop tg body (ds.drop 0) rh st1) (S1.perm g0.sub) p⟩, ?_⟩
    rintro i m σ' H' ⟨rfl, hi, F', io', st', rh', g', P', p'⟩
    have yc := Y F' io' H' st' P' g'.sub g'.sim
    by_cases hlt : i < ds.length
    · have hdrop : ds.drop i = ds[i] :: ds.drop (i + 1) := List.drop_eq_getElem_cons hlt
      obtain ⟨go, yl⟩ := yc.1 i ds[i] (by simp [hlt])
      refine .inr ⟨go, fun σ2 H2 => ∃ (F' : Hp) (io' : List Addr) (st' : Sto) (rh' : Rho), Good c B F' io' st' rh' σ2 H2 ∧ Per F1 io1 F' io' ∧ Pss c W B F' io' D (sLoop tg body (ds.drop (i + 1)) rh' st'), fun σ2 H2 q => ⟨ds.length - (i + 1), by omega, rfl, hlt, q⟩, fun x H2 hy => ?_⟩
      obtain ⟨F2, S2, k2, rx⟩ := yl x H2 hy
      have s2 : Sim c F2 io' st' := g'.sim.step S2 g'.sub rfl k2
      have g2 := g'.step S2 s2
      rw [hdrop] at p'
      unfold sLoop at p'
      cases hts : tgSet tg ds[i] rh' with
      | none => rw [hts] at p'; exact p'.elim
      | some rh2 =>
        rw [hts] at p'
        refine hg g2 rx hts fun σ2 g3 e1 e2 => ⟨B, F2, io', st', rh2, g3, ?_⟩
        have P2 : Per F1 io1 F2 io' := P'.trans (S2.perm g'.sub)
        have p' : Pss c W B F' io' D (match body rh2 st' with
          | .nx rh2 st2 => sLoop tg body (ds.drop (i + 1)) rh2 st2
          | .ct rh2 st2 => sLoop tg body (ds.drop (i + 1)) rh2 st2
          | .bk rh2 st2 => .nx rh2 st2
          | r => r) := p'
        cases hb : body rh2 st' with
        | nx rh3 st3 =>
          rw [hb] at p'
          exact fun σ3 H3 F3 io3 P3 g4 => ⟨F3, io3, st3, rh3, g4, P2.trans P3, Pss.per (r := sLoop tg body (ds.drop (i + 1)) rh3 st3) ((S2.perm g'.sub).trans P3) p'⟩
        | ct rh3 st3 =>
          rw [hb] at p'
          exact fun σ3 H3 F3 io3 P3 g4 => ⟨F3, io3, st3, rh3, g4, P2.trans P3, Pss.per (r := sLoop tg body (ds.drop (i + 1)) rh3 st3) ((S2.perm g'.sub).trans P3) p'⟩
        | bk rh3 st3 =>
          rw [hb] at p'
          exact fun σ3 H3 F3 io3 P3 g4 => p' σ3 H3 F3 io3 ((S2.perm g'.sub).trans P3) g4
        | rt d s => rw [hb] at p'; exact fun v H' F' io' S' l' s' r' => p' v H' F' io' S' ((S2.perm g'.sub).trans l') s' r'
        | ex e rh3 s => rw [hb] at p'; exact Pss.per (r := .ex e rh3 s) (S2.perm g'.sub) p'
        | no => rw [hb] at p'; exact p'
    · have e : i = ds.length := by omega
      subst e
      rw [List.drop_length] at p'
      exact .inl ⟨yc.2, p' σ' H' F' io' Per.refl g'⟩
end
end KL

namespace KL
open PySem L2

/-! ### what a loop walks -/
def iOneP (f : D → Option (List D)) (fa : Sm) : Im := fun rh st => (fa rh st).bind fun t st1 => if notLoc t then oR ((toDv t).bind f) st1 else .no
section
variable {X : Cx} {c : Ct} {W : WX} {tg a b e : Expr} {fa fb : Sm} {pos p : Pos} {B : Bs} {F F1 H H1 : Hp} {io io1 : List Addr} {st st1 : Sto} {rh : Rho} {σ : St} {w : V} {t u : TV} {d d' : D} {ds es : List D}
theorem iOneP_cases {f : D → Option (List D)} {Y : Yl} {Q : It → Hp → Prop} (h : PstI c W F io σ H Y Q (iOneP f fa rh st)) :
    (∃ e s, fa rh st = .ex e s ∧ PstI c W F io σ H Y Q (.ex e s)) ∨ ∃ t st1 d ds, fa rh st = .ok t st1 ∧ toDv t = some d ∧ f d = some ds ∧ PstI c W F io σ H Y Q (.ok ds st1) := by
  unfold iOneP at h
  cases hr : fa rh st with
  | no => rw [hr] at h; exact h.elim
  | ex x s => rw [hr] at h; exact .inl ⟨x, s, rfl, h⟩
  | ok t st1 =>
    rw [hr] at h
    have h : PstI c W F io σ H Y Q (if notLoc t = true then oR ((toDv t).bind f) st1 else .no) := h
    cases hn : notLoc t with
    | false => rw [hn] at h; exact h.elim
    | true =>
      rw [hn, if_pos rfl] at h
      cases hv : toDv t with
      | none => rw [hv] at h; exact h.elim
      | some d =>
        rw [hv] at h
        have h : PstI c W F io σ H Y Q (oR (f d) st1) := h
        cases hf : f d with
        | none => rw [hf] at h; exact h.elim
        | some ds => rw [hf] at h; exact .inr ⟨t, st1, d, ds, rfl, hv, hf, h⟩
theorem pi_seqP (hK : X.K = c.K) (ha : PE X a (den c W fa)) : PI X tg a (denI c W (YldP c) (iOneP itemsD fa)) := by
  refine PI.weak (PI.or (PI.or (pi_tup ha) (pi_list ha)) (pi_str ha)) fun σ H Q ⟨B, F, io, st, rh, g, h⟩ => ?_
  rcases iOneP_cases h with ⟨x, s, hr, h⟩ | ⟨t, st1, d, ds, hr, hv, hf, h⟩
  · exact .inr (den_ex g hr h)
  · have key : ∀ w H' F' io', Stp c F io H F' io' H' → Sim c F' io' st1 → Tvs c H F' io' rh σ H' w t → ∃ s : Src, w = s.val ∧ s.at c.K H' ∧ s.of ds d ∧ Q (s.J c.K) H' := by
      intro w H' F' io' S s' T
      obtain ⟨F2, S2, s2, r2⟩ := Tvs.give S s' T hv
      obtain ⟨s, e1, e2, e3⟩ := src_rv r2 hf
      exact ⟨s, e1, (e2 F2 io' H' ⟨Per.refl, S2.sub⟩).1, e3, h _ H' F2 io' S2 s2 fun F3 io3 H3 st3 P hs s3 => Src.yc hs (e2 F3 io3 H3 ⟨P, hs⟩)⟩
    cases d with
    | tup es =>
      refine .inl (.inl ⟨B, F, io, st, rh, g, by rw [hr]; intro w H' F' io' S s' T; obtain ⟨s, e1, e2, e3, q⟩ := key w H' F' io' S s' T; cases s with | tup a vs => exact ⟨a, e1, ⟨vs, by rw [hK]; exact e2⟩, by rw [hK]; exact q⟩ | lst a vs => cases e3 | str z => cases e3⟩)
    | lst es =>
      refine .inl (.inr ⟨B, F, io, st, rh, g, by rw [hr]; intro w H' F' io' S s' T; obtain ⟨s, e1, e2, e3, q⟩ := key w H' F' io' S s' T; cases s with | lst a vs => exact ⟨a, e1, ⟨vs, by rw [hK]; exact e2⟩, by rw [hK]; exact q⟩ | tup a vs => cases e3 | str z => cases e3⟩)
    | str z =>
      refine .inr ⟨B, F, io, st, rh, g, by rw [hr]; intro w H' F' io' S s' T; obtain ⟨s, e1, e2, e3, q⟩ := key w H' F' io' S s' T; cases s with | str z' => exact ⟨z', e1, q⟩ | tup a vs => cases e3 | lst a vs => cases e3⟩
    | _ => cases hf
theorem pi_enmP (hK : X.K = c.K) {elts : List Expr} {k : Nat} {tpos : Pos} (hg : Gl X "enumerate") (hm : X.mg "enumerate" = none) (ha : PE X a (den c W fa)) (hn : notStar a = true) :
    PI X (.Tuple elts k tpos) (.Call (.Name "enumerate" p) [a] [] pos) (denI c W (YldP c) (iOneP enmD fa)) := by
  have A1 : PA X [a] (tCons (den c W fa) tNil) := pa_cons ha pa_nil (star_cons hn)
  refine PI.weak (PI.or (PI.or (pi_enum hg hm A1 (star_cons hn)) (pi_enumS hg hm A1 (star_cons hn))) (pi_enumT hg hm A1 (star_cons hn))) fun σ H Q ⟨B, F, io, st, rh, g, h⟩ => ?_
  rcases iOneP_cases h with ⟨x, s, hr, h⟩ | ⟨t, st1, d, ds, hr, hv, hf, h⟩
  · exact .inl (.inr (den_ex g hr h))
  · obtain ⟨us, hi, rfl, hd⟩ := enm_items hf
    rcases hd with ⟨z, rfl⟩ | ⟨vs, rfl⟩ | ⟨vs, rfl⟩
    · refine .inl (.inr ⟨B, F, io, st, rh, g, ?_⟩)
      rw [hr]
      intro w H' F' io' S s' T
      obtain ⟨F2, S2, s2, r2⟩ := Tvs.give S s' T hv
      obtain ⟨s, e1, e2, e3⟩ := src_rv r2 hi
      cases s with
      | str z' => exact ⟨z', congrArg (fun q => [q]) e1, h _ H' F2 io' S2 s2 fun F3 io3 H3 st3 P hs s3 => (enm_of (hs := hs) s3 (e2 F3 io3 H3 ⟨P, hs⟩)).2.1 _ rfl⟩
      | tup a vs => cases e3
      | lst a vs => cases e3
    · refine .inl (.inl ⟨B, F, io, st, rh, g, ?_⟩)
      rw [hr]
      intro w H' F' io' S s' T
      obtain ⟨F2, S2, s2, r2⟩ := Tvs.give S s' T hv
      obtain ⟨s, e1, e2, e3⟩ := src_rv r2 hi
      cases s with
      | lst a ws => exact ⟨a, ws, congrArg (fun q => [q]) e1, by rw [hK]; exact (e2 F2 io' H' ⟨Per.refl, S2.sub⟩).1, by rw [hK]; exact h _ H' F2 io' S2 s2 fun F3 io3 H3 st3 P hs s3 => (enm_of (hs := hs) s3 (e2 F3 io3 H3 ⟨P, hs⟩)).1 _ _ rfl⟩
      | tup a vs => cases e3
      | str z => cases e3
    · refine .inr ⟨B, F, io, st, rh, g, ?_⟩
      rw [hr]
      intro w H' F' io' S s' T
      obtain ⟨F2, S2, s2, r2⟩ := Tvs.give S s' T hv
      obtain ⟨s, e1, e2, e3⟩ := src_rv r2 hi
      cases s with
      | tup a ws => exact ⟨a, ws, congrArg (fun q => [q]) e1, by rw [hK]; exact (e2 F2 io' H' ⟨Per.refl, S2.sub⟩).1, by rw [hK]; exact h _ H' F2 io' S2 s2 fun F3 io3 H3 st3 P hs s3 => (enm_of (hs := hs) s3 (e2 F3 io3 H3 ⟨P, hs⟩)).2.2 _ _ rfl⟩
      | lst a vs => cases e3
      | str z => cases e3
end

/-! ### lists that grow -/
section
variable {X : Cx} {c : Ct} {W : WX} {B : Bs} {F F' F1 F2 H H' H1 : Hp} {io io' io1 io2 : List Addr} {st st' st1 : Sto} {rh : Rho} {σ : St} {v : V} {t : TV} {d : D}
/-- the own list of a name has other items -/
theorem Good.chgOwn (g : Good c B F io st rh σ H) {i : Nat} {ds ds' : List D} {a : Addr} {vs' : List V} (hr : rh[i]? = some (some (.own ds))) (hs : σ[i]? = some (some (.ref a))) (r : RvAll c F io vs' ds') :
    Good c B F io st (rh.set i (some (.own ds'))) σ (upd H a (.lst vs')) := by
  obtain ⟨a', vs, e1, e2, e3, e4, _⟩ := g.own i ds hr
  rw [hs] at e1
  cases e1
  have hil : i < rh.length := (List.getElem?_eq_some_iff.mp hr).1
  refine ⟨g.bsub, g.btab, g.bnt, by rw [List.length_set]; exact g.len, g.stp.chg _ e4 e3 ⟨vs, e2⟩, g.sim, fun j e hj => ?_, fun j us hj => ?_, fun j k us ws w hj hk h1 h2 => ?_, fun j t us hj => by
    by_cases z : i = j
    · subst z
      rw [List.getElem?_set, if_pos rfl] at hj
      split at hj <;> cases hj
    · rw [List.getElem?_set_ne z] at hj
      exact g.clo j t us hj⟩
  · by_cases z : i = j
    · subst z
      rw [List.getElem?_set_self hil] at hj; cases hj
    · rw [List.getElem?_set_ne z] at hj
      exact g.val j e hj
  · by_cases z : i = j
    · subst z
      rw [List.getElem?_set_self hil] at hj
      cases hj
      exact ⟨a, vs', hs, upd_same, e3, e4, r⟩
    · rw [List.getElem?_set_ne z] at hj
      obtain ⟨b, ws, f1, f2, f3, f4, r'⟩ := g.own j us hj
      have hne : b ≠ a := fun q => by
        subst q
        exact z (g.dis i j ds us _ hr hj hs f1)
      exact ⟨b, ws, f1, by rw [upd_ne hne]; exact f2, f3, f4, r'⟩
  · have back : ∀ {m : Nat} {us : List D}, (rh.set i (some (.own ds')))[m]? = some (some (.own us)) → ∃ us', rh[m]? = some (some (.own us')) := by
      intro m us hm
      by_cases z : i = m
      · subst z; exact ⟨ds, hr⟩
      · rw [List.getElem?_set_ne z] at hm; exact ⟨us, hm⟩
    obtain ⟨us', hj'⟩ := back hj
    obtain ⟨ws', hk'⟩ := back hk
    exact g.dis j k us' ws' w hj' hk' h1 h2
/-- an object of the store is another one -/
theorem Per0.upd {a : Addr} {o : HO} (h : a ∈ io) : Per0 F io (upd F a o) io := ⟨⟨[], by simp⟩, fun b u e n => by rw [upd_ne (fun z => by subst z; exact n h)]; exact e, fun _ _ _ n => n⟩
theorem Per.upd {a : Addr} {o : HO} (h : a ∈ io) (hl : ∀ o u, F a ≠ some (.frz o u)) : Per F io (upd F a o) io := ⟨Per0.upd h, fun b ob u e => by rw [upd_ne (fun z => by subst z; exact hl _ _ e)]; exact e⟩
theorem RvF.perm {κ : Type} (S : Per0 F io F' io') : ∀ {vs : List (κ × V)} {ds : List (κ × D)}, RvF c F io vs ds → RvF c F' io' vs ds
  | _, _, .nil => .nil
  | _, _, .cons h r => .cons (h.perm S) (RvF.perm S r)
theorem Ob.kind {a : Addr} {o : O} (h : Ob c F io a o) : ∃ u, F a = some u ∧ (∀ ps, u ≠ .tbl ps) ∧ ∀ φ, u ≠ .ext φ := by
  cases o with
  | lst ds => obtain ⟨vs, e, _⟩ := h; exact ⟨_, e, (fun _ z => by cases z), (fun _ z => by cases z)⟩
  | dct lk kvs => cases lk with
    | false => obtain ⟨vs, e, _⟩ := h; exact ⟨_, e, (fun _ z => by cases z), (fun _ z => by cases z)⟩
    | true => obtain ⟨ob, vs, e, _⟩ := h; exact ⟨_, e, (fun _ z => by cases z), (fun _ z => by cases z)⟩
  | lsk ds => obtain ⟨ob, vs, e, _⟩ := h; exact ⟨_, e, (fun _ z => by cases z), (fun _ z => by cases z)⟩
  | dcT lk kvs => obtain ⟨ob, xs, vs, e, _⟩ := h; exact ⟨_, e, (fun _ z => by cases z), (fun _ z => by cases z)⟩
  | ins C fs => obtain ⟨dx, vs, e, _⟩ := h; exact ⟨_, e, (fun _ z => by cases z), (fun _ z => by cases z)⟩
theorem Sim.kind (h : Sim c F io st) {a : Addr} (ha : a ∈ io) : ∃ u, F a = some u ∧ (∀ ps, u ≠ .tbl ps) ∧ ∀ φ, u ≠ .ext φ := by
  obtain ⟨n, hn⟩ := List.getElem?_of_mem ha
  have hl : n < st.length := by rw [← h.len]; exact (List.getElem?_eq_some_iff.mp hn).1
  exact (h.ob n a _ hn (List.getElem?_eq_getElem hl)).kind
theorem ob_nt {a : Addr} {ho : HO} {o : O} (h : Ob c (upd F a ho) io a o) : ∀ ps, ho ≠ .tbl ps := fun ps z => by
  obtain ⟨u, e, k, _⟩ := h.kind
  rw [upd_same] at e
  exact k ps (by rw [← z]; exact (Option.some.inj e).symm)
theorem Good.setObj0 (g : Good c B F io st rh σ H) {n : Nat} {a : Addr} {ho : HO} {o' : O} (hl : ∀ o u, B.F a ≠ some (.frz o u)) (hn : io[n]? = some a) (ho' : Ob c (upd F a ho) io a o') : Good c B (upd F a ho) io (st.set n o') rh σ (upd H a ho) := by
  have ha : a ∈ io := List.mem_of_getElem? hn
  have fa : F a ≠ none := g.sim.dom ha
  have P : Per0 F io (upd F a ho) io := Per0.upd ha
  have hnl : n < io.length := (List.getElem?_eq_some_iff.mp hn).1
  have far : ∀ b o, B.H b = some o → b ∉ B.io → b ≠ a := fun b o e n z => by
    subst z
    rcases g.stp.nio b ha with q | q
    · exact n q
    · rw [e] at q; cases q
  refine ⟨g.bsub, g.btab, g.bnt, g.len, ⟨fun b u e => ?_, g.stp.ext, fun b u e nb => ?_, fun b e => ?_, fun b u e nb ht => ?_, fun b e => ?_, g.stp.nio, fun h0 => let ⟨u, e, k1, k2⟩ := g.sim.kind ha; tabs_upd (g.stp.tab h0) (g.sub _ _ e) k1 k2, fun h0 => (g.stp.ntb h0).upd (ob_nt ho'), fun b o u e => by
    have q := g.stp.lck b o u e
    rw [upd_ne (fun z => by subst z; exact hl o u e)]; exact q⟩, ⟨by rw [List.length_set]; exact g.sim.len, g.sim.nd, fun m b o e1 e2 => ?_⟩, fun i d e => ?_, fun i ds e => ?_, g.dis, fun i t ds e => let ⟨v, e1, r⟩ := g.clo i t ds e; ⟨v, e1, r.perm P⟩⟩
  · by_cases z : b = a
    · subst z; rw [upd_same] at e ⊢; exact e
    · rw [upd_ne z] at e ⊢; exact g.sub b u e
  · rw [upd_ne (far b u (g.bsub b u e) nb)]; exact g.stp.per b u e nb
  · by_cases z : b = a
    · subst z; exact g.stp.new b fa
    · rw [upd_ne z] at e; exact g.stp.new b e
  · rw [upd_ne (far b u e nb)]; exact g.stp.fr b u e nb ht
  · by_cases z : b = a
    · subst z; rw [upd_same] at e; cases e
    · rw [upd_ne z] at e; exact g.stp.gro b e
  · by_cases z : n = m
    · subst z
      rw [hn] at e1
      cases e1
      rw [List.getElem?_set_self (by rw [← g.sim.len]; exact hnl)] at e2
      cases e2
      exact ho'
    · rw [List.getElem?_set_ne z] at e2
      have q := g.sim.ob m b o e1 e2
      have hb : b ≠ a := fun y => by
        subst y
        have i1 := List.getElem?_eq_some_iff.mp hn
        have i2 := List.getElem?_eq_some_iff.mp e1
        exact z ((List.getElem_inj g.sim.nd).mp (i1.2.trans i2.2.symm))
      cases o with
      | lst ds => obtain ⟨vs, e, r⟩ := q; exact ⟨vs, by rw [upd_ne hb]; exact e, r.perm P⟩
      | dct lk kvs => cases lk with
        | false => obtain ⟨vs, e, r⟩ := q; exact ⟨vs, by rw [upd_ne hb]; exact e, r.perm P⟩
        | true => obtain ⟨ob, vs, e, r⟩ := q; exact ⟨ob, vs, by rw [upd_ne hb]; exact e, r.perm P⟩
      | lsk ds => obtain ⟨ob, vs, e, r⟩ := q; exact ⟨ob, vs, by rw [upd_ne hb]; exact e, r.perm P⟩
      | dcT lk kvs => obtain ⟨ob, xs, vs, e, z, p, rk, r⟩ := q; exact ⟨ob, xs, vs, by rw [upd_ne hb]; exact e, z, p, rk.perm P, r.perm P⟩
      | ins C fs => obtain ⟨dx, vs, e, e3, e4, k, r⟩ := q; exact ⟨dx, vs, by rw [upd_ne hb]; exact e, P.per _ _ e3 e4, e4, k, r.perm P⟩
  · obtain ⟨v, e1, r⟩ := g.val i d e
    exact ⟨v, e1, r.perm P⟩
  · obtain ⟨b, vs, e1, e2, e3, e4, r⟩ := g.own i ds e
    have hb : b ≠ a := fun z => by subst z; exact fa e3
    exact ⟨b, vs, e1, by rw [upd_ne hb]; exact e2, by rw [upd_ne hb]; exact e3, e4, r.perm P⟩
theorem Good.setObj (g : Good c B F io st rh σ H) {n : Nat} {a : Addr} {ho : HO} {o' : O} (hl : ∀ o u, F a ≠ some (.frz o u)) (hn : io[n]? = some a) (ho' : Ob c (upd F a ho) io a o') : Good c B (upd F a ho) io (st.set n o') rh σ (upd H a ho) :=
  g.setObj0 (fun o u e => hl o u (g.stp.lck a o u e)) hn ho'
end
/-- the list that a name alone holds, or a list of the store, gets other items -/
def updL (t : TV) (f : List D → Option (List D)) (st : Sto) (rh : Rho) : RS := match t with
  | .o i => (match rh[i]? with
    | some (some (.own ds)) => (match f ds with
      | some ds' => .nx (rh.set i (some (.own ds'))) st
      | none => .no)
    | _ => .no)
  | .d (.loc n) => (match st[n]? with
    | some (.lst ds) => (match f ds with
      | some ds' => .nx rh (st.set n (.lst ds'))
      | none => .no)
    | _ => .no)
  | _ => .no
section
variable {X : Cx} {c : Ct} {W : WX} {B : Bs} {F F' F1 F2 H H' H1 : Hp} {io io' io1 io2 : List Addr} {st st' st1 : Sto} {rh : Rho} {σ : St} {v : V} {t : TV} {d : D}
theorem updL_of {f : List D → Option (List D)} {D : Ends} (g : Good c B F io st rh σ H) (T : Tvr c F io rh σ H v t) (h : Pss c W B F io D (updL t f st rh)) :
    ∃ a vs ds ds', v = .ref a ∧ H a = some (.lst vs) ∧ RvAll c F io vs ds ∧ f ds = some ds' ∧ ∀ vs', RvAll c F io vs' ds' → D.nx σ (upd H a (.lst vs')) := by
  cases t with
  | o i =>
    obtain ⟨⟨ds, e1⟩, e2⟩ := T
    simp only [updL, e1] at h
    obtain ⟨a, vs, e3, e4, e5, e6, r⟩ := g.own i ds e1
    rw [e2] at e3
    cases e3
    cases hf : f ds with
    | none => rw [hf] at h; exact h.elim
    | some ds' =>
      rw [hf] at h
      exact ⟨a, vs, ds, ds', rfl, e4, r, hf, fun vs' r' => h σ _ F io Per.refl (g.chgOwn e1 e2 r')⟩
  | d d =>
    cases d with
    | loc n =>
      cases T with
      | loc hn =>
        rename_i a
        simp only [updL] at h
        cases q : st[n]? with
        | none => rw [q] at h; exact h.elim
        | some o =>
          rw [q] at h
          cases o with
          | lst ds =>
            simp only at h
            cases hf : f ds with
            | none => rw [hf] at h; exact h.elim
            | some ds' =>
              rw [hf] at h
              obtain ⟨vs, e1, r⟩ := g.sim.ob n a _ hn q
              have ha : a ∈ io := List.mem_of_getElem? hn
              exact ⟨a, vs, ds, ds', rfl, g.sub _ _ e1, r, hf, fun vs' r' => h σ _ (upd F a (.lst vs')) io (Per.upd ha (fun o u z => by rw [e1] at z; cases z)) (g.setObj (fun o u z => by rw [e1] at z; cases z) hn ⟨vs', upd_same, r'.perm (Per0.upd ha)⟩)⟩
          | dct lk kvs => exact h.elim
          | dcT lk kvs => exact h.elim
          | lsk ds => exact h.elim
          | ins C fs => exact h.elim
    | _ => exact h.elim
  | fr ds => exact h.elim
/-- o.append(e); o.extend(e) -/
def isL (rh : Rho) (st : Sto) (t : TV) : Bool := match view rh st t with
  | some (.lst _) => true
  | _ => false
theorem isL_some {t : TV} (h : isL rh st t = true) : ∃ ds, view rh st t = some (.lst ds) := by
  unfold isL at h
  cases q : view rh st t with
  | none => rw [q] at h; cases h
  | some d =>
    rw [q] at h
    cases d with
    | lst ds => exact ⟨ds, rfl⟩
    | _ => cases h
def appD (d : D) (ds : List D) : Option (List D) := if ds.length < sizeLine then some (ds ++ [d]) else none
def extD (es ds : List D) : Option (List D) := if ds.length + es.length ≤ sizeLine then some (ds ++ es) else none
def sApp (fo fe : Sm) : Ss := sThen fo fun t st1 rh => if isL rh st1 t then sThen fe (fun u st2 rh => match toDv u with
  | some d => updL t (appD d) st2 rh
  | none => .no) rh st1 else .no
def sExt (fo fe : Sm) : Ss := sThen fo fun t st1 rh => if isL rh st1 t then sThen fe (fun u st2 rh => match view rh st2 u with
  | some (.lst es) => updL t (extD es) st2 rh
  | _ => .no) rh st1 else .no
theorem tyV_list {K : PySem.W.Frag} {a : Addr} {vs : List V} (h : H a = some (.lst vs)) : tyV K "list" (.ref a) H := .inl ⟨rfl, _, SqL.of h⟩
theorem app_of {K : PySem.W.Frag} {fo fe : Sm} {D : Ends} {σ : St} {H : Hp} (h : denS c W (sApp fo fe) D σ H) : tDrop (tBM K "list" rAppend (den c W fo) (tCons (den c W fe) tNil)) D σ H := by
  obtain ⟨B, F, io, st, rh, g, p⟩ := h
  refine then_of g p fun t st1 v H1 F1 io1 S1 g1 s1 T1 q1 => ?_
  split at q1
  case isFalse => exact q1.elim
  rename_i hl
  obtain ⟨us, hv⟩ := isL_some hl
  obtain ⟨a0, vs0, e0, h0, _⟩ := view_ok g1 (T1.r s1) hv
  refine ⟨by rw [e0]; exact tyV_list h0, ?_⟩
  have q1 := Pss.per (S1.perm g.sub) q1
  refine then_of g1 q1 fun u st2 w H2 F2 io2 S2 g2 s2 T2 q2 => ?_
  cases hu : toDv u with
  | none => simp only [hu] at q2; exact q2.elim
  | some d =>
    simp only [hu] at q2
    obtain ⟨F3, S3, s3, r3⟩ := Tvs.give S2 s2 T2 hu
    have g3 := g1.step S3 s3
    obtain ⟨a, vs, ds, ds', e1, e2, r, hf, k⟩ := updL_of g3 ((T1.r s1).step S3 g1.sub) (Pss.per (S3.perm g1.sub) q2)
    unfold appD at hf
    split at hf
    · rename_i hz
      cases hf
      exact ⟨a, vs, w, e1, rfl, e2, by rw [r.length]; exact hz, k _ (r.append (.cons r3 .nil))⟩
    · cases hf
theorem ext_of {K : PySem.W.Frag} {fo fe : Sm} {D : Ends} {σ : St} {H : Hp} (h : denS c W (sExt fo fe) D σ H) : tDrop (tBM K "list" rExtend (den c W fo) (tCons (den c W fe) tNil)) D σ H := by
  obtain ⟨B, F, io, st, rh, g, p⟩ := h
  refine then_of g p fun t st1 v H1 F1 io1 S1 g1 s1 T1 q1 => ?_
  split at q1
  case isFalse => exact q1.elim
  rename_i hl
  obtain ⟨us, hv⟩ := isL_some hl
  obtain ⟨a0, vs0, e0, h0, _⟩ := view_ok g1 (T1.r s1) hv
  refine ⟨by rw [e0]; exact tyV_list h0, ?_⟩
  have q1 := Pss.per (S1.perm g.sub) q1
  refine then_of g1 q1 fun u st2 w H2 F2 io2 S2 g2 s2 T2 q2 => ?_
  cases hu : view rh st2 u with
  | none => simp only [hu] at q2; exact q2.elim
  | some d =>
    simp only [hu] at q2
    cases d with
    | lst es =>
      simp only at q2
      obtain ⟨b, zs, rfl, hb, rb⟩ := view_ok g2 (T2.r s2) hu
      obtain ⟨a, vs, ds, ds', e1, e2, r, hf, k⟩ := updL_of g2 ((T1.r s1).step S2 g1.sub) (Pss.per (S2.perm g1.sub) q2)
      unfold extD at hf
      split at hf
      · rename_i hz
        cases hf
        exact ⟨a, b, vs, zs, e1, rfl, e2, hb, by rw [r.length, rb.length]; exact hz, k _ (r.append rb)⟩
      · cases hf
    | _ => exact q2.elim
def plainBase : Expr → Bool
  | .Call (.Name id _) [] [] _ => id != "super"
  | _ => true
theorem plainBase_ok {o : Expr} {m : Str} {env : Env} (h : plainBase o = true) : attributeBase o m env (eval o env) = eval o env := by
  unfold attributeBase
  split
  · rename_i id p pos
    have q : (id != "super") = true := h
    simp only [q, Bool.true_or, if_true]
  · rfl
theorem few1 {e : Expr} {env : Env} {cpos : Pos} (h : notStar e = true) : ((backTo cpos (starEach [e] env)).all (fun x => !x.1) && (backToKw cpos (keywordEach [] env)).all (fun x => x.1.isSome)
      && decide ([e].length + ([] : List Keyword).length + (if ([] : List Keyword).isEmpty then 0 else 1) < 30)) = true := by
  rw [star_cons h]
  rfl
theorem ps_den_app {o e : Expr} {fo fe : Sm} {apos cpos pos : Pos} (ho : PE X o (den c W fo)) (he : PE X e (den c W fe)) (hb : plainBase o = true) (hn : notStar e = true) (hl : (apos.endLine == cpos.line) = true) :
    PS X (.Expr (.Call (.Attribute o "append" apos) [e] [] cpos) pos) (denS c W (sApp fo fe)) :=
  PS.weak (ps_expr (pe_bm PySem.F.plainAttrs_list PySem.F.slot_list_append PySem.F.type_list_append mt_append ho (pa_cons he pa_nil (star_cons hn)) (plainBase_ok hb) (few1 hn) hl (star_cons hn) rfl)) fun D σ H h => app_of h
theorem ps_den_ext {o e : Expr} {fo fe : Sm} {apos cpos pos : Pos} (ho : PE X o (den c W fo)) (he : PE X e (den c W fe)) (hb : plainBase o = true) (hn : notStar e = true) (hl : (apos.endLine == cpos.line) = true) :
    PS X (.Expr (.Call (.Attribute o "extend" apos) [e] [] cpos) pos) (denS c W (sExt fo fe)) :=
  PS.weak (ps_expr (pe_bm PySem.F.plainAttrs_list PySem.F.slot_list_extend PySem.F.type_list_extend mt_extend ho (pa_cons he pa_nil (star_cons hn)) (plainBase_ok hb) (few1 hn) hl (star_cons hn) rfl)) fun D σ H h => ext_of h
end
end KL

namespace KL
open PySem L2

/-! ### a def's end: what it made and nobody holds is let go -/
mutual
def below (n : Nat) : D → Bool
  | .tup ds => belows n ds
  | .lst ds => belows n ds
  | .loc k => decide (k < n)
  | .clo _ _ => false
  | .raw ds => belows n ds
  | _ => true
def belows (n : Nat) : List D → Bool
  | [] => true
  | d :: ds => below n d && belows n ds
end
def belowF {κ : Type} (n : Nat) : List (κ × D) → Bool
  | [] => true
  | p :: ps => below n p.2 && belowF n ps
theorem below_ints (n : Nat) : ∀ ks : List Int, belows n (ks.map D.int) = true
  | [] => rfl
  | k :: ks => by
    rw [List.map_cons]
    unfold belows
    rw [below_ints n ks]
    rfl
theorem below_tI {n : Nat} : ∀ kvs : List (List Int × D), belows n (kvs.map fun p => tI p.1) = true
  | [] => rfl
  | p :: kvs => by
    rw [List.map_cons]
    unfold belows
    rw [below_tI kvs]
    have e : below n (tI p.1) = belows n (p.1.map D.int) := by unfold tI below; rfl
    rw [e, below_ints]
    rfl
def belowO (n : Nat) : O → Bool
  | .lst ds => belows n ds
  | .dct _ kvs => belowF n kvs
  | .dcT _ kvs => belowF n kvs
  | .lsk ds => belows n ds
  | .ins _ fs => belowF n fs
def cut (n : Nat) (d : D) (st : Sto) : Sto := if st.length ≤ n then st else if below n d && (st.take n).all (belowO n) then st.take n else st
def fin (n : Nat) : RS → R D
  | .nx _ st => .ok .non (cut n .non st)
  | .rt d st => .ok d (cut n d st)
  | .ex e _ st => .ex e (cut n .non st)
  | _ => .no
def cellD : D → Cell
  | .clo t cs => .clo t cs
  | d => .val d
def rho0 (m : Nat) (ds : List D) : Rho := ds.map (fun d => some (cellD d)) ++ List.replicate (m - ds.length) none
/-- a def's function on data: m places, its body f -/
def fnR (m : Nat) (f : Ss) (ds : List D) (st : Sto) : R D := fin st.length (f (rho0 m ds) st)
section
variable {c : Ct} {F F' H H' : Hp} {io io' : List Addr} {st st' : Sto}
mutual
theorem Rv.cut {n : Nat} : ∀ {v : V} {d : D}, Rv c F io v d → below n d = true → Rv c F (io.take n) v d
  | _, _, .non, _ => .non
  | _, _, .bl b, _ => .bl b
  | _, _, .int b, _ => .int b
  | _, _, .str b, _ => .str b
  | _, _, .raw h n r, e => .raw h (fun z => n (List.mem_of_mem_take z)) (RvAll.cutB r (by simpa [below] using e))
  | _, _, .tup h r, e => .tup (h.imp (fun ⟨o, h1, h2, h3⟩ => ⟨o, h1, fun z => h2 (List.mem_of_mem_take z), h3⟩) id) (RvAll.cutB r (by simpa [below] using e))
  | _, _, .lst h n r, e => .lst h (fun z => n (List.mem_of_mem_take z)) (RvAll.cutB r (by simpa [below] using e))
  | _, _, .loc (n := k) h, e => .loc (by
    have this : k < n := by simpa [below] using e
    rw [List.getElem?_take, if_pos this]; exact h)
  | _, _, .scr h, _ => .scr (h.imp (fun h => ⟨h.1, fun z => h.2 (List.mem_of_mem_take z)⟩) id)
theorem RvAll.cutB {n : Nat} : ∀ {vs : List V} {ds : List D}, RvAll c F io vs ds → belows n ds = true → RvAll c F (io.take n) vs ds
  | _, _, .nil, _ => .nil
  | _, _, .cons h r, e => by
    simp only [belows, Bool.and_eq_true] at e
    exact .cons (Rv.cut h e.1) (RvAll.cutB r e.2)
end
theorem RvF.cut {κ : Type} {n : Nat} : ∀ {vs : List (κ × V)} {ds : List (κ × D)}, RvF c F io vs ds → belowF n ds = true → RvF c F (io.take n) vs ds
  | _, _, .nil, _ => .nil
  | _, _, .cons h r, e => by
    simp only [belowF, Bool.and_eq_true] at e
    exact .cons (Rv.cut h e.1) (RvF.cut r e.2)
theorem Sim.cut {n : Nat} (s : Sim c F io st) (h : (st.take n).all (belowO n) = true) : Sim c F (io.take n) (st.take n) := by
  refine ⟨by rw [List.length_take, List.length_take, s.len], s.nd.sublist (List.take_sublist ..), fun m a o e1 e2 => ?_⟩
  rw [List.getElem?_take] at e1
  have hm : m < n := by
    by_cases z : m < n
    · exact z
    · rw [if_neg z] at e1; cases e1
  rw [if_pos hm] at e1
  have hb : belowO n o = true := List.all_eq_true.mp h o (List.mem_of_getElem? e2)
  rw [List.getElem?_take, if_pos hm] at e2
  have q := s.ob m a o e1 e2
  cases o with
  | lst ds => obtain ⟨vs, e, r⟩ := q; exact ⟨vs, e, r.cutB hb⟩
  | dct lk kvs => cases lk with
    | false => obtain ⟨vs, e, r⟩ := q; exact ⟨vs, e, r.cut hb⟩
    | true => obtain ⟨ob, vs, e, r⟩ := q; exact ⟨ob, vs, e, r.cut hb⟩
  | lsk ds => obtain ⟨ob, vs, e, r⟩ := q; exact ⟨ob, vs, e, r.cutB hb⟩
  | dcT lk kvs => obtain ⟨ob, xs, vs, e, z, p, rk, r⟩ := q; exact ⟨ob, xs, vs, e, z, p, rk.cutB (below_tI kvs), r.cut hb⟩
  | ins C fs => obtain ⟨dx, vs, e, e3, e4, k, r⟩ := q; exact ⟨dx, vs, e, e3, fun z => e4 (List.mem_of_mem_take z), k, r.cut hb⟩
/-- what a def's end leaves is a state of the caller -/
theorem cut_ok {v : V} {d : D} (S : Stp c F io H F' io' H') (s : Sim c F' io' st') (hl : io.length = n) (r : Rv c F' io' v d) : ∃ io'', Stp c F io H F' io'' H' ∧ Sim c F' io'' (cut n d st') ∧ Rv c F' io'' v d := by
  unfold cut
  split
  · exact ⟨io', S, s, r⟩
  · split
    · rename_i h1 h2
      rw [Bool.and_eq_true] at h2
      have e : io'.take n = io := by
        obtain ⟨m, e⟩ := S.ext
        rw [e, ← hl, List.take_left']
        rfl
      refine ⟨io'.take n, ⟨S.sub, ⟨[], by rw [e]; simp⟩, S.per, S.new, S.fr, S.gro, fun a ha => S.nio a (List.mem_of_mem_take ha), S.tab, S.ntb, S.lck⟩, s.cut h2.2, r.cut h2.1⟩
    · exact ⟨io', S, s, r⟩
end

/-! ### a def keeps its promise -/
section
variable {P : Program} {w : World} {mg : Str → Option Value} {base : Heap} {x qual : Str} {params : Arguments} {body : List Stmt} {scope : Scope} {f : Addr} {fd : FuncData} {c : Ct}
theorem rho0_at {m i : Nat} {ds : List D} {k : Cell} (e : (rho0 m ds)[i]? = some (some k)) : ∃ d, ds[i]? = some d ∧ k = cellD d := by
  unfold rho0 at e
  by_cases hi : i < ds.length
  · rw [List.getElem?_append_left (by simpa using hi), List.getElem?_map, Option.map_eq_some_iff] at e
    obtain ⟨d, e1, e2⟩ := e
    exact ⟨d, e1, (Option.some.inj e2).symm⟩
  · rw [List.getElem?_append_right (by simpa using hi), List.getElem?_replicate] at e
    split at e <;> cases e
theorem cellD_val {d e : D} (h : Cell.val e = cellD d) : e = d ∧ ∀ v (c : Ct) (F : Hp) (io : List Addr), RvA c F io v d → Rv c F io v d := by
  cases d <;> cases h <;> exact ⟨rfl, fun _ _ _ _ h => h⟩
theorem cellD_own {d : D} {ds : List D} (h : Cell.own ds = cellD d) : False := by cases d <;> cases h
theorem cellD_clo {d : D} {t : Nat} {ds : List D} (h : Cell.clo t ds = cellD d) : d = .clo t ds := by cases d <;> cases h; rfl
theorem good_of {F H : Hp} {io : List Addr} {st : Sto} {σ : St} {m : Nat} {ds : List D} (hs : ∀ a o, F a = some o → H a = some o) (ht : LamX.Tabs c.T H) (hnt : NT F) (s : Sim c F io st) (hl : σ.length = m) (hm : ds.length ≤ m)
    (r : ∀ (i : Nat) (d : D), ds[i]? = some d → ∃ v, σ[i]? = some (some v) ∧ RvA c F io v d) : Good c ⟨F, io, H⟩ F io st (rho0 m ds) σ H := by
  refine ⟨hs, ht, hnt, ?_, Stp.refl hs, s, fun i d e => ?_, fun i us e => ?_, fun i j us ws v e => ?_, fun i t us e => ?_⟩
  · unfold rho0
    rw [List.length_append, List.length_map, List.length_replicate, hl]
    omega
  · obtain ⟨d', e1, e2⟩ := rho0_at e
    obtain ⟨rfl, k⟩ := cellD_val e2
    obtain ⟨v, e3, q⟩ := r i _ e1
    exact ⟨v, e3, k _ _ _ _ q⟩
  · obtain ⟨d', e1, e2⟩ := rho0_at e
    exact (cellD_own e2).elim
  · obtain ⟨d', e1, e2⟩ := rho0_at e
    exact (cellD_own e2).elim
  · obtain ⟨d', e1, e2⟩ := rho0_at e
    have e3 := cellD_clo e2
    subst e3
    exact r i _ e1
theorem good0 {F H : Hp} {io : List Addr} {st : Sto} {vs : List V} {ds : List D} (hs : ∀ a o, F a = some o → H a = some o) (ht : LamX.Tabs c.T H) (hnt : NT F) (s : Sim c F io st) (r : RvAs c F io vs ds) (N : List Str) (hn : vs.length ≤ N.length) : Good c ⟨F, io, H⟩ F io st (rho0 N.length ds) (L2.start N vs) H := by
  refine good_of hs ht hnt s ?_ (by rw [← r.length]; exact hn) fun i d e => ?_
  · unfold L2.start
    rw [List.length_append, List.length_map, List.length_replicate]
    omega
  · obtain ⟨v, e3, q⟩ := r.get e
    refine ⟨v, ?_, q⟩
    have hi : i < vs.length := (List.getElem?_eq_some_iff.mp e3).1
    unfold L2.start
    rw [List.getElem?_append_left (by rw [List.length_map]; exact hi), List.getElem?_map, e3]
    rfl
/-- the context of a def's body -/
theorem units65 {k : Nat} {A : Around} (h : Room k A) : A.units + 65 < cLine := by have := h.un; omega
structure Bdy (X : Cx) (P : Program) (w : World) (c : Ct) (mg : Str → Option Value) (base : Heap) (N : List Str) (scope : Scope) (k : Nat) (W : WX) (qual : Str) (code : Value) : Prop where
  prog : X.prog = P
  w : X.w = w
  mg : X.mg = mg
  base : X.base = base
  N : X.N = N
  sc : X.env.scope = scope
  ok : Cok X c W
  room : Room k X.A
  po : PassesOwn (model X.prog X.w) X.A X.env X.xe
  fn : ∀ x, X.fn x = true
  stk : X.stack = X.env :: X.outer
  frm : X.env.frame = some X.env.locals
  qual : X.env.qual = qual ++ ".<locals>."
  code : X.env.code = code
theorem fn_den {N ps : List Str} {k : Nat} {fs : Ss} (Fn : FunD c.K x qual params body scope [] [] f fd) (S : FnScope N ps scope) (hB : ∀ (X : Cx) (W : WX), Bdy X P w c mg base N scope k W qual fd.code → PSs X body (denS c W fs)) :
    FnOk P w c.K mg base (L2N.CX P w) (k + 1) f fd ps (spM c ps.length (fnR N.length fs)) := by
  obtain ⟨oc, od, dV, kV, doc, pm, an, cdv, ct, osl, rfl, lk, hcd, _, _⟩ := Fn.ex
  refine fn_of lk hcd S (fun vs H Q E h => h.1) fun A outer s H vs Q E hr h => ?_
  obtain ⟨hl, F, io, st, ds, hs, htab, hnt, sm, r, p⟩ := h
  refine ⟨denS c (fun cls d _ H => E cls d H) fs, hB _ _ ⟨rfl, rfl, rfl, rfl, rfl, rfl, ⟨rfl, S.nd, rfl, units65 hr, L2N.takes_of rfl rfl rfl rfl⟩, hr, passes_of rfl, fun _ => rfl, rfl, rfl, rfl, rfl⟩, ?_⟩
  refine ⟨⟨F, io, H⟩, F, io, st, rho0 N.length ds, good0 hs htab hnt sm r N (by have q := congrArg List.length S.pre; rw [List.length_take] at q; omega), ?_⟩
  unfold fnR at p
  cases hb : fs (rho0 N.length ds) st with
  | nx rh st' =>
    rw [hb] at p
    intro σ' H' F' io' P' g'
    obtain ⟨io2, S2, s2, r2⟩ := cut_ok (v := .non) (d := .non) g'.stp g'.sim sm.len .non
    exact p .non H' F' io2 S2 s2 r2
  | rt d st' =>
    rw [hb] at p
    intro v H' F' io' S' _ s' r'
    obtain ⟨io2, S2, s2, r2⟩ := cut_ok S' s' sm.len r'
    exact p v H' F' io2 S2 s2 r2
  | bk rh st' => rw [hb] at p; exact p.elim
  | ct rh st' => rw [hb] at p; exact p.elim
  | ex e rh st' =>
    rw [hb] at p
    intro σ' H' F' io' P' g'
    obtain ⟨io2, S2, s2, r2⟩ := cut_ok (v := .non) (d := .non) g'.stp g'.sim sm.len .non
    exact p H' F' io2 S2 s2
  | no => rw [hb] at p; exact p.elim
end
end KL

namespace KLow
open PySem PySem.Spec PyProof.Rows HT

/-! ### t[::-1] of a tuple -/
theorem fm_congr {α β : Type} {f g : α → Option β} : ∀ {l : List α}, (∀ x ∈ l, f x = g x) → l.filterMap f = l.filterMap g
  | [], _ => rfl
  | a :: l, h => by rw [List.filterMap_cons, List.filterMap_cons, h a (by simp), fm_congr fun x hx => h x (by simp [hx])]
theorem pick_rev (xs : Array Value) : ((List.range xs.size).filterMap fun (k : Nat) => xs[(((xs.size : Int) - 1) + (k : Int) * (-1)).toNat]?) = xs.toList.reverse := by
  have e : (fun (k : Nat) => xs[(((xs.size : Int) - 1) + (k : Int) * (-1)).toNat]?) = fun k => xs[xs.size - 1 - k]? := by
    funext k
    have : (((xs.size : Int) - 1) + (k : Int) * (-1)).toNat = xs.size - 1 - k := by omega
    rw [this]
  rw [e]
  have h2 : (List.range xs.size).filterMap (fun k => xs[xs.size - 1 - k]?) = ((List.range xs.size).reverse).filterMap (fun k => xs[k]?) := by
    rw [List.range_eq_range', List.reverse_range', List.filterMap_map, ← List.range_eq_range']
    apply fm_congr
    intro k hk
    simp only [Function.comp]
    congr 1
    omega
  rw [h2, List.filterMap_reverse, PySem.W.krv_all]
section
variable {prog : Program} {w : World} {A : Around} {E : Value → Shared → Prop} {s : Shared}
theorem rev_applied {sl : Addr} {n : Nat} {vl vu vs : Value} {Q : Int × Int × Nat → Shared → Prop} (hs : s.heap.IsSliceOf sl vl vu vs) (pl : IsPart vl none) (pu : IsPart vu none) (ps : IsPart vs (some (-1)))
    (h : Q (((n : Int) - 1), -1, n) s) : wpAny (model prog w) A (Builtin.Slice.sliceApplied (.ref sl) (pure (n : Int))) Q E s := by
  obtain ⟨os, hos, hcs, hds⟩ := id hs
  unfold Builtin.Slice.sliceApplied Builtin.Slice.sliceFields
  refine wpAny_bind (wpAny_bind (wpAny_field hos hds (x := vl) rfl (wpAny_bind (wpAny_field hos hds (x := vu) rfl (wpAny_bind (wpAny_field hos hds (x := vs) rfl (wpAny_pure ?_)))))))
  refine wpAny_bind (slicePart_ ps ?_)
  show wpAny _ _ (if ((-1 : Int) == 0) = true then _ else _) _ _ s
  rw [if_neg (by decide)]
  refine wpAny_bind (slicePart_ pl (wpAny_bind (slicePart_ pu (wpAny_bind (wpAny_pure ?_)))))
  show wpAny _ _ (pure ((n : Int) - 1, (-1 : Int), Builtin.Slice.slicePlaces ((n : Int) - 1) (-1) (-1))) _ _ s
  have e : Builtin.Slice.slicePlaces ((n : Int) - 1) (-1) (-1) = n := by
    unfold Builtin.Slice.slicePlaces
    rw [if_neg (by decide)]
    split
    · simp
    · omega
  rw [e]
  exact wpAny_pure h
theorem getItem_tuple_rev {t sl : Addr} {items : Array Value} {vl vu vs : Value} {Q : Value → Shared → Prop} (ht : IsTup s.heap t items) (hs : s.heap.IsSliceOf sl vl vu vs) (pl : IsPart vl none) (pu : IsPart vu none) (ps : IsPart vs (some (-1)))
    (h : Q (.ref s.heap.objs.size) { s with heap := s.heap.push { cls := .type "tuple", data := .seq items.toList.reverse.toArray } })
    (hsz : items.size ≤ sizeLine) : wpAny (model prog w) A (getItem (.ref t) (.ref sl)) Q E s := by
  have htake : sizeOk (.seq items.toList.reverse.toArray) := by
    show items.toList.reverse.toArray.size ≤ sizeLine
    simpa using hsz
  obtain ⟨os, hos, hcs, hds⟩ := id hs
  have hTs : s.TypeIs (.ref sl) "slice" := ⟨os, hos, hcs⟩
  unfold getItem
  try with_reducible refine wpAny_holding ?_
  first | refine wpAny_bind (wpAny_pure ?_) | skip
  refine wpAny_bind (wpAny_sequenceKey ht.typeIs (by decide) ?_)
  refine wpAny_bind (wpAny_callSpecial?_slot (name := Str.ofString "__getitem__") ht.typeIs PyProof.Rows.slot_tuple_getitem
    (wpAny_call_entry PyProof.Rows.slot_tuple_getitem ht.typeIs entry_tuple_getitem ?_ (args_tuple_getitem _ _)))
  show wpAny _ _ (Builtin.Tuple.tupleItemsOf (.ref t) >>= _) _ _ s
  refine wpAny_bind (tupleItemsOf_ ht ?_)
  refine wpAny_bind (wpAny_typeOf hTs ?_)
  rw [if_pos (by decide)]
  refine wpAny_bind (rev_applied hs pl pu ps ?_)
  have hno : ¬ ((((items.size : Int) - 1 == 0) && (-1 : Int) == 1 && items.size == items.size) = true) := by
    intro q
    rw [Bool.and_eq_true, Bool.and_eq_true] at q
    exact absurd q.1.2 (by decide)
  show wpAny _ _ (if (((items.size : Int) - 1 == 0) && (-1 : Int) == 1 && items.size == items.size) = true then _ else _) _ _ s
  rw [if_neg hno, pick_rev]
  first
    | exact wpAny_bind (m := Builtin.Tuple.tupleExact _) (wpAny_newObj_type (wpAny_pure ⟨_, rfl, wpAny_pure h⟩) htake)
    | exact wpAny_bind (m := Builtin.Tuple.tupleExact _) (wpAny_newObj_type (wpAny_bind (wpAny_pure (wpAny_pure ⟨_, rfl, wpAny_pure h⟩))) htake)
    | exact wpAny_bind (wpAny_bind (m := Builtin.Tuple.tupleExact _) (wpAny_newObj_type (wpAny_pure (wpAny_pure ⟨_, rfl, wpAny_pure h⟩)) htake))
    | exact wpAny_bind (wpAny_bind (m := Builtin.Tuple.tupleExact _) (wpAny_newObj_type (wpAny_pure ⟨_, rfl, wpAny_pure h⟩) htake))
end
end KLow
namespace L2
open PySem PySem.Spec PyProof.Rows
variable {X : Cx}
def tRevT (K : PySem.W.Frag) (te : TE) : TE := fun σ H Q => te σ H fun x H1 => ∃ a xs, x = .ref a ∧ SqT K H1 a xs ∧ KL.NewF H1 xs.reverse Q
theorem pe_revT {e : Expr} {te : TE} {k : Nat} {p1 p2 p3 pos : Pos} (he : PE X e te) : PE X (.Subscript e (.Slice none none (some (.UnaryOp .USub (.Constant (.int 1) k p1) p2)) p3) pos) (tRevT X.K te) := by
  refine ⟨fun pins s σ H Q I h => ?_⟩
  refine Subscript_ (thn (he.run pins s σ H _ I h) fun v s1 ⟨x, H1, I1, r1, q1⟩ => ?_)
  obtain ⟨a, xs, ex, hx, q⟩ := q1
  subst ex
  cases r1
  have hst : PO X (some (.UnaryOp .USub (.Constant (.int 1) k p1) p2)) (tPart (tUn (rU fun i => .int (-i)) (tC (.int 1)))) := po_some (pe_un un_neg pe_int)
  refine wpAny_Slice (thn (po_none.run pins s1 σ H1 (fun o H2 => o = none ∧ H2 = H1) I1 ⟨rfl, rfl⟩) fun vl s2 ⟨l, H2, I2, pl, el, e2⟩ => ?_)
  subst el e2
  refine thn (po_none.run pins s2 σ H2 (fun o H3 => o = none ∧ H3 = H2) I2 ⟨rfl, rfl⟩) fun vu s3 ⟨u, H3, I3, pu, eu, e3⟩ => ?_
  subst eu e3
  refine thn (hst.run pins s3 σ H3 (fun o H4 => o = some (-1) ∧ H4 = H3) I3 ⟨1, rfl, -1, rfl, rfl, rfl⟩) fun vs s4 ⟨o, H4, I4, ps, eo, e4⟩ => ?_
  subst eo e4
  have I5 : Inv X pins σ H4 { s4 with heap := s4.heap.push { cls := .type "slice", data := .fields #[vl, vu, vs] } } := I4.kept (t' := s4.toks) fun b ob q => Heap.get?_push_of_some _ q
  obtain ⟨its, r, ht, hz⟩ := I5.tuple hx
  have hlen := r.length
  show wpAny (model X.prog X.w) X.A (subscriptTail e (.Slice none none (some (.UnaryOp .USub (.Constant (.int 1) k p1) p2)) p3) (.ref a) (.ref s4.heap.objs.size)) (EP X pins σ Q) X.xe { s4 with heap := s4.heap.push { cls := .type "slice", data := .fields #[vl, vu, vs] } }
  refine tail_any (ops := [.ref a, .ref s4.heap.objs.size]) ht.typeIs (PyProof.Rows.slot_tuple_getitem.lookup) ?_ (by with_unfolding_all rfl)
  refine KLow.getItem_tuple_rev ht (Heap.IsSliceOf.new _ vl vu vs) pl pu ps ?_ (by rw [List.size_toArray]; omega)
  exact ⟨.ref _, _, KL.laidF (t' := s4.toks) I5 (fun b ob q => Heap.get?_push_of_some _ q) (Nat.le_refl _) (Heap.get?_push_size _ rfl) r.reverse (by rw [List.length_reverse]; exact hz), rfl, q _ _ (I5.hok.fresh (Nat.le_refl _)) rfl⟩
end L2

namespace KU
open PySem PySem.Spec PyProof.Rows L2

/-! ### the sorted members of a list of texts -/
def ltS (a b : Str) : Prop := a.cps.toList < b.cps.toList
instance (a b : Str) : Decidable (ltS a b) := by unfold ltS; infer_instance
def insK (k : Str) : List Str → List Str
  | [] => [k]
  | y :: ys => if ltS k y then k :: y :: ys else if k = y then y :: ys else y :: insK k ys
def srt (xs : List Str) : List Str := xs.foldl (fun acc k => insK k acc) []
theorem str_ext {a b : Str} (h : a.cps.toList = b.cps.toList) : a = b := by
  cases a; cases b
  simp only [Str.mk.injEq]
  exact Array.toList_inj.mp h
theorem ltS_irrefl (a : Str) : ¬ ltS a a := List.lt_irrefl _
theorem ltS_trans {a b c : Str} (h : ltS a b) (k : ltS b c) : ltS a c := List.lt_trans h k
theorem ltS_asymm {a b : Str} (h : ltS a b) : ¬ ltS b a := List.lt_asymm h
theorem ltS_total {a b : Str} (h : ¬ ltS a b) (hne : a ≠ b) : ltS b a := by
  by_cases z : ltS b a
  · exact z
  · exact absurd (str_ext (List.le_antisymm (List.not_lt.mp z) (List.not_lt.mp h))) hne
theorem mem_insK {k x : Str} : ∀ {l : List Str}, x ∈ insK k l ↔ x = k ∨ x ∈ l
  | [] => by simp [insK]
  | y :: ys => by
    unfold insK
    split
    · simp
    · split
      · rename_i h e
        subst e
        simp
      · rw [List.mem_cons, mem_insK, List.mem_cons]
        constructor
        · rintro (h | h | h)
          · exact .inr (.inl h)
          · exact .inl h
          · exact .inr (.inr h)
        · rintro (h | h | h)
          · exact .inr (.inl h)
          · exact .inl h
          · exact .inr (.inr h)
theorem insK_lt {k : Str} : ∀ {l : List Str}, l.Pairwise ltS → (insK k l).Pairwise ltS
  | [], _ => by simp [insK]
  | y :: ys, h => by
    obtain ⟨h1, h2⟩ := List.pairwise_cons.mp h
    unfold insK
    split
    · rename_i hk
      refine List.pairwise_cons.mpr ⟨fun z hz => ?_, h⟩
      rcases List.mem_cons.mp hz with e | e
      · rw [e]; exact hk
      · exact ltS_trans hk (h1 z e)
    · split
      · exact h
      · rename_i hk hne
        refine List.pairwise_cons.mpr ⟨fun z hz => ?_, insK_lt h2⟩
        rcases mem_insK.mp hz with e | e
        · rw [e]; exact ltS_total hk hne
        · exact h1 z e
theorem mem_fold {x : Str} : ∀ {xs acc : List Str}, x ∈ xs.foldl (fun acc k => insK k acc) acc ↔ x ∈ xs ∨ x ∈ acc
  | [], acc => by simp
  | y :: ys, acc => by
    rw [List.foldl_cons, mem_fold, mem_insK, List.mem_cons]
    constructor
    · rintro (h | h | h)
      · exact .inl (.inr h)
      · exact .inl (.inl h)
      · exact .inr h
    · rintro ((h | h) | h)
      · exact .inr (.inl h)
      · exact .inl h
      · exact .inr (.inr h)
theorem fold_lt : ∀ {xs acc : List Str}, acc.Pairwise ltS → (xs.foldl (fun acc k => insK k acc) acc).Pairwise ltS
  | [], _, h => h
  | y :: ys, acc, h => fold_lt (xs := ys) (acc := insK y acc) (insK_lt h)
theorem mem_srt {x : Str} {xs : List Str} : x ∈ srt xs ↔ x ∈ xs := by
  unfold srt
  rw [mem_fold]
  simp
theorem srt_lt (xs : List Str) : (srt xs).Pairwise ltS := fold_lt List.Pairwise.nil
theorem uniq : ∀ {l m : List Str}, l.Pairwise ltS → m.Pairwise ltS → (∀ x, x ∈ l ↔ x ∈ m) → l = m
  | [], [], _, _, _ => rfl
  | [], b :: m, _, _, h => by have := (h b).mpr (by simp); simp at this
  | a :: l, [], _, _, h => by have := (h a).mp (by simp); simp at this
  | a :: l, b :: m, h1, h2, h => by
    obtain ⟨a1, a2⟩ := List.pairwise_cons.mp h1
    obtain ⟨b1, b2⟩ := List.pairwise_cons.mp h2
    have e : a = b := by
      rcases List.mem_cons.mp ((h a).mp (by simp)) with z | z
      · exact z
      · rcases List.mem_cons.mp ((h b).mpr (by simp)) with y | y
        · exact y.symm
        · exact absurd (a1 b y) (ltS_asymm (b1 a z))
    subst e
    rw [uniq a2 b2 fun x => ?_]
    constructor
    · intro hx
      rcases List.mem_cons.mp ((h x).mp (List.mem_cons_of_mem _ hx)) with z | z
      · subst z; exact absurd (a1 x hx) (ltS_irrefl x)
      · exact z
    · intro hx
      rcases List.mem_cons.mp ((h x).mpr (List.mem_cons_of_mem _ hx)) with z | z
      · subst z; exact absurd (b1 x hx) (ltS_irrefl x)
      · exact z
theorem insS_nd {ks : List Str} {k : Str} (h : ks.Nodup) : (insS ks k).Nodup := by
  unfold insS
  split
  · exact h
  · rename_i hk; exact List.nodup_cons.mpr ⟨hk, h⟩
theorem foldS_nd : ∀ {xs ks : List Str}, ks.Nodup → (xs.foldl insS ks).Nodup
  | [], _, h => h
  | x :: xs, ks, h => foldS_nd (xs := xs) (ks := insS ks x) (insS_nd h)
theorem mem_insS {ks : List Str} {k x : Str} : x ∈ insS ks k ↔ x = k ∨ x ∈ ks := by
  unfold insS
  split
  · rename_i h
    constructor
    · exact .inr
    · rintro (e | e)
      · rw [e]; exact h
      · exact e
  · simp
theorem mem_foldS {x : Str} : ∀ {xs ks : List Str}, x ∈ xs.foldl insS ks ↔ x ∈ xs ∨ x ∈ ks
  | [], ks => by simp
  | y :: ys, ks => by
    rw [List.foldl_cons, mem_foldS, mem_insS, List.mem_cons]
    constructor
    · rintro (h | h | h)
      · exact .inl (.inr h)
      · exact .inl (.inl h)
      · exact .inr h
    · rintro ((h | h) | h)
      · exact .inr (.inl h)
      · exact .inl h
      · exact .inr (.inr h)
theorem rising_le : ∀ {l : List Str} {p : Str}, risingS p l = true → ∀ x ∈ l, ¬ ltS x p
  | [], _, _, x, hx => by simp at hx
  | y :: ys, p, h, x, hx => by
    simp only [risingS, Bool.and_eq_true, Bool.not_eq_true', ltCps_eq, decide_eq_false_iff_not] at h
    rcases List.mem_cons.mp hx with e | e
    · rw [e]; exact h.1
    · have q := rising_le h.2 x e
      exact fun z => by
        by_cases w : ltS p y
        · exact q (ltS_trans z w)
        · by_cases e2 : p = y
          · subst e2; exact q z
          · exact h.1 (ltS_total w e2)
theorem sorted_le : ∀ {l : List Str}, sortedS l = true → l.Pairwise fun a b => ¬ ltS b a
  | [], _ => .nil
  | [a], _ => by simp
  | a :: b :: l, h => by
    have h : risingS a (b :: l) = true := h
    refine List.pairwise_cons.mpr ⟨fun x hx => rising_le h x hx, sorted_le (l := b :: l) ?_⟩
    simp only [risingS, Bool.and_eq_true] at h
    exact h.2
theorem sorted_nd : ∀ {l : List Str}, l.Pairwise (fun a b => ¬ ltS b a) → l.Nodup → l.Pairwise ltS
  | [], _, _ => .nil
  | a :: l, h, d => by
    obtain ⟨h1, h2⟩ := List.pairwise_cons.mp h
    obtain ⟨d1, d2⟩ := List.nodup_cons.mp d
    exact List.pairwise_cons.mpr ⟨fun x hx => ltS_total (h1 x hx) fun e => d1 (e ▸ hx), sorted_nd h2 d2⟩
theorem sorted_is {ns xs : List Str} (h : sortedS ns = true) (p : ns.Perm (xs.foldl insS [])) : ns = srt xs := by
  have nd : ns.Nodup := p.nodup_iff.mpr (foldS_nd .nil)
  refine uniq (sorted_nd (sorted_le h) nd) (srt_lt xs) fun x => ?_
  rw [p.mem_iff, mem_foldS, mem_srt]
  simp

/-! ### the rules of set(..) and sorted(..) -/
def SetH (w : World) (a : Addr) (ks : List Str) : HO := .ext fun h => SetS w h a ks
section
variable {X : Cx}
theorem setH_new {w : World} {P : Program} {H : Hp} {h : Heap} {a : Addr} {ks : List Str} (R : SetS w h a ks) : ObjOk P w H h a (SetH w a ks) := by
  have ⟨o, _, _, _, ho, _⟩ := R
  exact ⟨R, ⟨o, ho⟩, fun h1 h2 p k => SetS.at p k⟩
def rSetS (K : PySem.W.Frag) (w : World) : List V → Hp → VK → Prop := fun vs H Q => ∃ xs : List Str, xs.length ≤ 1000 ∧ ((∃ l, vs = [.ref l] ∧ SqL K H l (xs.map V.str)) ∨ (∃ z : Str, vs = [.str z] ∧ xs = z.cps.toList.map fun k => (⟨#[k]⟩ : Str))) ∧
  ∀ p, H p = none → Q (.ref p) (upd H p (SetH w p (xs.foldl insS [])))
theorem cr_setS (hc : X.calm = true) : CallR X (.type "set") (rSetS X.K X.w) := by
  intro pins s σ H vs us Q I r h
  obtain ⟨xs, hl, hs, q⟩ := h
  have hb : xs.length + 1 < scanBound := Nat.lt_of_le_of_lt (Nat.succ_le_succ hl) (by decide)
  have fin : ∀ (h' : Heap) (tk : Nat), SetS X.w h' s.heap.objs.size (xs.foldl insS []) → (∀ b o, s.heap.get? b = some o → h'.get? b = some o) → EP X pins σ Q (.ref s.heap.objs.size) { s with heap := h', toks := tk } := fun h' tk r1 r2 =>
    ⟨.ref _, upd H s.heap.objs.size (SetH X.w s.heap.objs.size (xs.foldl insS [])), I.laid (t' := tk) r2 (Nat.le_refl _) (setH_new r1), rfl, q _ (I.hok.fresh (Nat.le_refl _))⟩
  rcases hs with ⟨l, rfl, hq⟩ | ⟨z, rfl, rfl⟩
  · rw [Vals.ref1 r]
    obtain ⟨its, rv, pl, hz⟩ := I.list hq
    exact call_setS (I.ok.hd hc) (fills_list pl.isList (by simpa using rv.strs) hb) fin
  · obtain ⟨u, rfl, rx⟩ := vals1 r
    obtain ⟨t, rfl⟩ := rx
    exact call_setS (I.ok.hd hc) (fills_text (by simpa using hb)) fin
def rSrtS (w : World) : List V → Hp → VK → Prop := fun vs H Q => ∃ (a : Addr) (xs : List Str), vs = [.ref a] ∧ H a = some (SetH w a (xs.foldl insS [])) ∧ xs.length ≤ 1000 ∧ ∀ p, H p = none → Q (.ref p) (upd H p (.lst ((srt xs).map V.str)))
theorem foldS_len : ∀ (xs ks : List Str), (xs.foldl insS ks).length ≤ xs.length + ks.length
  | [], ks => by simp
  | x :: xs, ks => by
    have h1 := foldS_len xs (insS ks x)
    have h2 := insS_len ks x
    simp only [List.foldl_cons, List.length_cons]
    omega
theorem cr_srtS (hc : X.calm = true) : CallR X (.builtin "sorted") (rSrtS X.w) := by
  intro pins s σ H vs us Q I r h
  obtain ⟨a, xs, rfl, ha, hz, q⟩ := h
  have R : SetS X.w s.heap a (xs.foldl insS []) := (I.hok a _ ha).1
  rw [Vals.ref1 r]
  refine sorted_setS R (I.ok.hd hc) fun s' p out c ns k g o hp hg hi hs hm => ?_
  have e := sorted_is hs hm
  subst e
  have hlen : ((srt xs).map V.str).length ≤ sizeLine := by
    have h1 := foldS_len xs []
    rw [List.length_map, hm.length_eq, sizeLine_eq]
    simp only [List.length_nil] at h1
    omega
  have hn : H p = none := I.hok.fresh hp
  exact ⟨.ref p, upd H p (.lst ((srt xs).map V.str)), I.call' (ch := []) o (Un.laid k hp hn) (I.hok.laid k hp ⟨hlen, out.toList, c, vals_of_strs hi, hg⟩) (by rw [g]; exact I.bare) (fun _ z => nomatch z), rfl, q p hn⟩
end
end KU
namespace KL
open PySem L2 KU

/-! ### sorted(set(e)), e[::-1], e.upper(), e.index(f) -/
def strsD : List D → Option (List Str)
  | [] => some []
  | .str x :: ds => (strsD ds).map (x :: ·)
  | _ :: _ => none
def srtD : D → Option TV
  | .lst ds => (strsD ds).bind fun xs => if xs.length ≤ 1000 then some (.fr ((srt xs).map .str)) else none
  | .str z => if z.cps.toList.length ≤ 1000 then some (.fr ((srt (z.cps.toList.map fun k => (⟨#[k]⟩ : Str))).map .str)) else none
  | _ => none
def eSortSet : Sm → Sm := eOp1 fun _ => srtD
def revD : D → Option D
  | .tup ds => some (.tup ds.reverse)
  | _ => none
def eRev : Sm → Sm := eOp1 fun _ d => dV (revD d)
def uppD : D → Option D
  | .str x => if x.length ≤ 1000 then some (.str (Txt.upper x)) else none
  | _ => none
def eM_upper : Sm → Sm := eOp1 fun _ d => dV (uppD d)
section
variable {X : Cx} {c : Ct} {W : WX} {a b e : Expr} {fa fb : Sm} {pos p p2 q : Pos} {B : Bs} {F H : Hp} {io : List Addr} {st : Sto} {rh : Rho} {σ : St}
theorem strsD_ok : ∀ {vs : List V} {ds : List D} {xs : List Str}, RvAll c F io vs ds → strsD ds = some xs → vs = xs.map V.str
  | _, _, _, .nil, h => by cases h; rfl
  | _, _, _, .cons (d := d) r1 r2, h => by
    cases d <;> simp only [strsD] at h <;> try (cases h; done)
    rw [Option.map_eq_some_iff] at h
    obtain ⟨ys, h1, rfl⟩ := h
    cases r1
    rw [List.map_cons, strsD_ok r2 h1]
theorem rv_strs : ∀ xs : List Str, RvAll c F io (xs.map V.str) (xs.map D.str)
  | [] => .nil
  | x :: xs => .cons (.str x) (rv_strs xs)
theorem pe_srtset (hK : X.K = c.K) (hc : X.calm = true) (hg : Gl X "sorted") (hm : X.mg "sorted" = none) (hg2 : Gl X "set") (hm2 : X.mg "set" = none) (ha : PE X a (den c W fa)) (hn : notStar a = true) :
    PE X (.Call (.Name "sorted" p) [.Call (.Name "set" p2) [a] [] q] [] pos) (den c W (eSortSet fa)) := by
  have A1 : PA X [a] (tCons (den c W fa) tNil) := pa_cons ha pa_nil (star_cons hn)
  have S1 := pe_callTy (p := p2) (pos := q) (cr_setS hc) hg2 hm2 PyProof.Rows.boot_set A1 (he := star_cons hn)
  have A2 : PA X [.Call (.Name "set" p2) [a] [] q] (tCons (tCB (rSetS X.K X.w) (tCons (den c W fa) tNil)) tNil) := pa_cons S1 pa_nil rfl
  refine PE.weak (pe_callB (p := p) (pos := pos) (cr_srtS hc) hg hm PyProof.Rows.boot_sorted A2 (he := rfl)) fun σ H Q h => ?_
  refine op1_of (r := fun x H1 Q => rSetS X.K X.w [x] H1 fun y H2 => rSrtS X.w [y] H2 Q) ?_ h
  intro B F H io st rh σ x d t Q g hx hf ho
  have go : ∀ xs : List Str, xs.length ≤ 1000 → t = .fr ((srt xs).map .str) → ∀ p1, H p1 = none → rSrtS X.w [.ref p1] (upd H p1 (SetH X.w p1 (xs.foldl insS []))) Q := by
    intro xs hl et p1 h1
    subst et
    refine ⟨p1, xs, rfl, upd_same, hl, fun p2 h2 => ?_⟩
    have hne : p2 ≠ p1 := fun e => by subst e; rw [upd_same] at h2; cases h2
    have S1 : Stp c F io H F io (upd H p1 (SetH X.w p1 (xs.foldl insS []))) := Stp.lay g.sub h1
    have S2 := S1.trans g.sub (Stp.lay (o := .lst ((srt xs).map V.str)) S1.sub h2)
    rw [upd_ne hne] at h2
    obtain ⟨f1, f2, f3⟩ := g.fresh h2
    exact ho _ _ F S2 (fun _ _ => rfl) ⟨p2, _, rfl, h2, upd_same, f1, rv_strs _⟩
  cases d with
  | lst ds =>
    simp only [srtD, Option.bind_eq_some_iff] at hf
    obtain ⟨xs, e1, hf⟩ := hf
    split at hf
    · rename_i hl
      cases hf
      obtain ⟨l, vs, rfl, q1, r1⟩ := hx
      exact ⟨xs, hl, .inl ⟨l, rfl, by rw [← strsD_ok r1 e1]; exact .inl (.inl q1)⟩, go xs hl rfl⟩
    · cases hf
  | str z =>
    simp only [srtD] at hf
    split at hf
    · rename_i hl
      cases hf
      cases hx
      exact ⟨_, by simpa using hl, .inr ⟨z, rfl, rfl⟩, go _ (by simpa using hl) rfl⟩
    · cases hf
  | _ => cases hf
theorem RvAll.rev : ∀ {vs : List V} {ds : List D}, RvAll c F io vs ds → RvAll c F io vs.reverse ds.reverse
  | _, _, .nil => .nil
  | _, _, .cons h r => by
    rw [List.reverse_cons, List.reverse_cons]
    exact (RvAll.rev r).append (.cons h .nil)
theorem pe_den_rev (hK : X.K = c.K) {k : Nat} {p1 p2 p3 : Pos} (ha : PE X a (den c W fa)) : PE X (.Subscript a (.Slice none none (some (.UnaryOp .USub (.Constant (.int 1) k p1) p2)) p3) pos) (den c W (eRev fa)) := by
  refine PE.weak (pe_revT ha) fun σ H Q h => op1_of (r := fun x H1 Q => ∃ a xs, x = .ref a ∧ SqT X.K H1 a xs ∧ NewF H1 xs.reverse Q) ?_ h
  intro B F H io st rh σ x d t Q g hx hf ho
  obtain ⟨e, hf, rfl⟩ := dV_some hf
  cases d with
  | tup ds =>
    cases hf
    have hx' : Rv c F io x (.tup ds) := hx
    obtain ⟨a, vs, rfl, q1, r1⟩ := Rv.sqT (a := 0) g.sub hx'
    exact ⟨a, vs, rfl, by rw [hK]; exact q1, ho.tup g r1.rev⟩
  | _ => cases hf
theorem pe_den_upper {apos : Pos} (ha : PE X a (den c W fa)) (hb : plainBase a = true) (hl : (apos.endLine == pos.line) = true) : PE X (.Call (.Attribute a "upper" apos) [] [] pos) (den c W (eM_upper fa)) := by
  refine PE.weak (pe_upper ha (plainBase_ok hb) hl) fun σ H Q h => op1_of (r := fun x H1 Q => (∃ a, x = .str a) ∧ ∃ a, x = .str a ∧ ([] : List V) = [] ∧ a.length ≤ 5592405 ∧ Q (.str (Txt.upper a)) H1) ?_ h
  intro B F H io st rh σ x d t Q g hx hf ho
  obtain ⟨e, hf, rfl⟩ := dV_some hf
  cases d <;> simp only [uppD] at hf <;> try (cases hf; done)
  split at hf
  · rename_i hz
    cases hf
    cases hx
    exact ⟨⟨_, rfl⟩, _, rfl, rfl, by omega, ho.same g.sub (.str _)⟩
  · cases hf
end
/-- a method of a text with one argument -/
def eSM1 (f : Str → D → Option TV) (fa fb : Sm) : Sm := fun rh st => (fa rh st).bind fun t1 st1 => match t1 with
  | .d (.str x) => eOp1 (fun _ => f x) fb rh st1
  | _ => .no
def sixS (a : Str) (d : D) : Option TV := dV (match d with
  | .str b => (match Builtin.Str.occurrences a b 0 a.length 1 with
    | i :: _ => some (.int (i : Nat))
    | [] => none)
  | _ => none)
def eM_index : Sm → Sm → Sm := eSM1 sixS
section
variable {X : Cx} {c : Ct} {W : WX} {a b e : Expr} {fa fb : Sm} {pos p p2 q : Pos} {B : Bs} {F H : Hp} {io : List Addr} {st : Sto} {rh : Rho} {σ : St}
theorem sm1_of {f : Str → D → Option TV} {r : V → List V → Hp → VK → Prop} (ok : ∀ x, Op1Ok c (fun y H Q => r (.str x) [y] H Q) (fun _ => f x)) {σ : St} {H : Hp} {Q : VK} (h : den c W (eSM1 f fa fb) σ H Q) : tM1 r (den c W fa) (den c W fb) σ H Q := by
  obtain ⟨B, F, io, st, rh, g, p⟩ := h
  refine ⟨B, F, io, st, rh, g, Pst.bind g p fun t1 st1 x H1 F1 io1 e1 S1 g1 T1 p1 => ?_⟩
  cases t1 with
  | d d =>
    cases d with
    | str s =>
      cases T1
      exact ⟨⟨s, rfl⟩, op1_of (ok s) ⟨B, F1, io1, st1, rh, g1, p1⟩⟩
    | _ => exact p1.elim
  | _ => exact p1.elim
theorem pe_den_index {apos : Pos} (ha : PE X a (den c W fa)) (hb : PE X b (den c W fb)) (hn : notStar b = true) (hp : plainBase a = true) (hl : (apos.endLine == pos.line) = true) : PE X (.Call (.Attribute a "index" apos) [b] [] pos) (den c W (eM_index fa fb)) := by
  refine PE.weak (pe_m1 F.slot_str_index F.type_str_index mt_sindex ha hb (star_cons hn) (plainBase_ok hp) hl) fun σ H Q h => sm1_of (fun x => ?_) h
  intro B F H io st rh σ y d t Q g hx hf ho
  obtain ⟨e, hf2, rfl⟩ := dV_some hf
  clear hf
  cases d with
  | str z =>
    replace hf2 : (match Builtin.Str.occurrences x z 0 x.length 1 with
      | i :: _ => some (D.int (i : Nat))
      | [] => none) = some e := hf2
    split at hf2
    · rename_i i rest hi
      cases hf2
      cases hx
      exact ⟨x, z, i, rest, rfl, rfl, hi, ho.same g.sub (.int _)⟩
    · cases hf2
  | _ => cases hf2
end
end KL

namespace KL
open PySem L2

/-! ### steps that change the store -/
section
variable {X : Cx} {c : Ct} {W : WX} {B : Bs} {F F' F1 F2 H H' H1 : Hp} {io io' io1 io2 : List Addr} {st st' st1 : Sto} {rh : Rho} {σ : St} {v : V} {t : TV} {d : D}
/-- an object of the store is another one -/
theorem Good.put (g : Good c B F io st rh σ H) {n : Nat} {a : Addr} (ho : HO) (hl : ∀ o u, F a ≠ some (.frz o u)) (hn : io[n]? = some a) (ht : ∀ ps, ho ≠ .tbl ps) : Stp c F io H (upd F a ho) io (upd H a ho) := by
  have ha : a ∈ io := List.mem_of_getElem? hn
  have fa : F a ≠ none := g.sim.dom ha
  obtain ⟨u, e, k1, k2⟩ := g.sim.kind ha
  have e' := g.sub _ _ e
  refine ⟨fun b u e => ?_, ⟨[], by simp⟩, fun b u e nb => ?_, fun b e => ?_, fun b u e nb ht => ?_, fun b e => ?_, fun _ h => .inl h, fun h0 => tabs_upd h0 e' k1 k2, fun h => h.upd ht, fun b o w e => by
    rw [upd_ne (fun z => hl o w (by rw [← z]; exact e))]; exact e⟩
  · by_cases z : b = a
    · subst z; rw [upd_same] at e ⊢; exact e
    · rw [upd_ne z] at e ⊢; exact g.sub b u e
  · rw [upd_ne (fun z => by subst z; exact nb ha)]; exact e
  · by_cases z : b = a
    · subst z; exact .inl fa
    · rw [upd_ne z] at e; exact .inl e
  · rw [upd_ne (fun z => by subst z; exact nb ha)]; exact e
  · by_cases z : b = a
    · subst z; rw [upd_same] at e; cases e
    · rw [upd_ne z] at e; exact e
theorem Good.putSim (g : Good c B F io st rh σ H) {n : Nat} {a : Addr} {ho : HO} {o' : O} (hl : ∀ o u, F a ≠ some (.frz o u)) (hn : io[n]? = some a) (ho' : Ob c (upd F a ho) io a o') : Sim c (upd F a ho) io (st.set n o') := (g.setObj hl hn ho').sim
/-- the store grows -/
theorem Rv.grow {p : Addr} (hF : ∀ a o, F a = some o → a ∉ io → F' a = some o ∧ a ∉ io ++ [p]) : ∀ {v : V} {d : D}, Rv c F io v d → Rv c F' (io ++ [p]) v d := fun {v d} h => by
  have P : Per0 F io F' (io ++ [p]) := ⟨⟨[p], rfl⟩, fun a o e n => (hF a o e n).1, fun a o e n => (hF a o e n).2⟩
  exact h.perm P
theorem Ob.per {a : Addr} {o : O} (P : Per0 F io F' io') (h : Ob c F io a o) (e : F' a = F a) : Ob c F' io' a o := by
  cases o with
  | lst ds => obtain ⟨vs, e1, r⟩ := h; exact ⟨vs, by rw [e]; exact e1, r.perm P⟩
  | dct lk kvs => cases lk with
    | false => obtain ⟨vs, e1, r⟩ := h; exact ⟨vs, by rw [e]; exact e1, r.perm P⟩
    | true => obtain ⟨ob, vs, e1, r⟩ := h; exact ⟨ob, vs, by rw [e]; exact e1, r.perm P⟩
  | lsk ds => obtain ⟨ob, vs, e1, r⟩ := h; exact ⟨ob, vs, by rw [e]; exact e1, r.perm P⟩
  | dcT lk kvs => obtain ⟨ob, xs, vs, e1, z, p, rk, r⟩ := h; exact ⟨ob, xs, vs, by rw [e]; exact e1, z, p, rk.perm P, r.perm P⟩
  | ins C fs => obtain ⟨dx, vs, e1, e2, e3, k, r⟩ := h; exact ⟨dx, vs, by rw [e]; exact e1, P.per _ _ e2 e3, P.nin _ _ e2 e3, k, r.perm P⟩
/-- a new object p of the store, with what stands beside it (more) -/
theorem Sim.alloc {p : Addr} {o : O} (s : Sim c F io st) (P : Per0 F io F' (io ++ [p])) (hk : ∀ a ∈ io, F' a = F a) (hp : p ∉ io) (ho : Ob c F' (io ++ [p]) p o) : Sim c F' (io ++ [p]) (st ++ [o]) := by
  refine ⟨by simp [s.len], ?_, fun n a u e1 e2 => ?_⟩
  · rw [List.nodup_append]
    exact ⟨s.nd, by simp, fun a ha b hb => by simp at hb; subst hb; intro z; subst z; exact hp ha⟩
  · by_cases hn : n < io.length
    · rw [List.getElem?_append_left hn] at e1
      rw [List.getElem?_append_left (by rw [← s.len]; exact hn)] at e2
      exact (s.ob n a u e1 e2).per P (hk a (List.mem_of_getElem? e1))
    · have hlt : n < (io ++ [p]).length := (List.getElem?_eq_some_iff.mp e1).1
      have en : n = io.length := by simp at hlt; omega
      subst en
      rw [List.getElem?_append_right (Nat.le_refl _)] at e1
      rw [s.len, List.getElem?_append_right (Nat.le_refl _)] at e2
      simp at e1 e2
      subst e1 e2
      exact ho
theorem Good.alloc (g : Good c B F io st rh σ H) {p : Addr} {ho : HO} {o : O} (hp : H p = none) (hob : Ob c (upd F p ho) (io ++ [p]) p o) :
    Stp c F io H (upd F p ho) (io ++ [p]) (upd H p ho) ∧ Sim c (upd F p ho) (io ++ [p]) (st ++ [o]) := by
  obtain ⟨f1, f2, f3⟩ := g.fresh hp
  have ne : ∀ a u, H a = some u → a ≠ p := fun a u e z => by subst z; rw [hp] at e; cases e
  have neF : ∀ a u, F a = some u → a ≠ p := fun a u e => ne a u (g.sub a u e)
  have P : Per0 F io (upd F p ho) (io ++ [p]) := ⟨⟨[p], rfl⟩, fun a u e _ => by rw [upd_ne (neF a u e)]; exact e, fun a u e n => by simp only [List.mem_append, List.mem_singleton, not_or]; exact ⟨n, neF a u e⟩⟩
  refine ⟨⟨fun a u e => ?_, P.ext, P.per, fun a e => ?_, fun a u e _ _ => by rw [upd_ne (ne a u e)]; exact e, fun a e => ?_, fun a h => ?_, fun h0 => h0.ext fun a u e => by rw [upd_ne (ne a u e)]; exact e, fun h => h.upd (ob_nt hob), fun a o u e => by rw [upd_ne (neF a _ e)]; exact e⟩, g.sim.alloc P (fun a ha => by rw [upd_ne (fun z => by subst z; exact f2 ha)]) f2 hob⟩
  · by_cases z : a = p
    · subst z; rw [upd_same] at e ⊢; exact e
    · rw [upd_ne z] at e ⊢; exact g.sub a u e
  · by_cases z : a = p
    · subst z; exact .inr hp
    · rw [upd_ne z] at e; exact .inl e
  · by_cases z : a = p
    · subst z; exact hp
    · rw [upd_ne z] at e; exact e
  · simp only [List.mem_append, List.mem_singleton] at h
    rcases h with h | h
    · exact .inl h
    · subst h; exact .inr hp
theorem rv_new {p : Addr} (s : Sim c F io st) : Rv c F' (io ++ [p]) (.ref p) (.loc st.length) := .loc (by rw [← s.len]; simp)
end

/-! ### fields -/
def fldD (f : Str) (st : Sto) : D → Option D
  | .loc n => (match st[n]? with
    | some (.ins _ fs) => fs.lookup f
    | _ => none)
  | _ => none
def eFld (f : Str) : Sm → Sm := eOp1 fun st d => dV (fldD f st d)
/-- the field f is v from now on -/
def putD (f : Str) (v : D) : List (Str × D) → List (Str × D)
  | [] => [(f, v)]
  | (g, w) :: r => if g = f then (g, v) :: r else (g, w) :: putD f v r
section
variable {X : Cx} {c : Ct} {W : WX} {B : Bs} {F F' F1 F2 H H' H1 : Hp} {io io' io1 io2 : List Addr} {st st' st1 : Sto} {rh : Rho} {σ : St} {v : V} {t : TV} {d : D} {a e : Expr} {fa fo : Sm} {pos p : Pos}
theorem RvF.look : ∀ {vs : List (Str × V)} {fs : List (Str × D)} {f : Str} {d : D}, RvF c F io vs fs → fs.lookup f = some d → ∃ v, vs.lookup f = some v ∧ Rv c F io v d
  | _, _, _, _, .nil, h => by cases h
  | _, _, f, d, .cons (x := x) h r, e => by
    rw [List.lookup_cons] at e ⊢
    by_cases q : f = x
    · have e' : (f == x) = true := by simpa using q
      rw [e'] at e ⊢
      cases e
      exact ⟨_, rfl, h⟩
    · have e' : (f == x) = false := by simpa using q
      rw [e'] at e ⊢
      exact RvF.look r e
theorem RvF.keys {κ : Type} : ∀ {vs : List (κ × V)} {fs : List (κ × D)}, RvF c F io vs fs → vs.map (·.1) = fs.map (·.1)
  | _, _, .nil => rfl
  | _, _, .cons _ r => by rw [List.map_cons, List.map_cons, RvF.keys r]
theorem RvF.len {κ : Type} : ∀ {vs : List (κ × V)} {fs : List (κ × D)}, RvF c F io vs fs → vs.length = fs.length
  | _, _, .nil => rfl
  | _, _, .cons _ r => by rw [List.length_cons, List.length_cons, RvF.len r]
theorem RvF.putF {f : Str} (hv : Rv c F io v d) : ∀ {vs : List (Str × V)} {fs : List (Str × D)}, RvF c F io vs fs → RvF c F io (L2.putF f v vs) (putD f d fs)
  | _, _, .nil => .cons hv .nil
  | _, _, .cons (x := x) h r => by
    unfold L2.putF putD
    by_cases q : x = f
    · rw [if_pos q, if_pos q]; exact .cons hv r
    · rw [if_neg q, if_neg q]; exact .cons h (RvF.putF hv r)
theorem lookup_mem {α : Type} {fs : List (Str × α)} {f : Str} {d : α} (h : fs.lookup f = some d) : (f, d) ∈ fs := PySem.mem_of_lookup h
theorem ins_at (g : Good c B F io st rh σ H) {n : Nat} {x : V} {C : Str} {fs : List (Str × D)} (h : Rv c F io x (.loc n)) (hs : st[n]? = some (.ins C fs)) :
    ∃ a dx vs, x = .ref a ∧ io[n]? = some a ∧ F a = some (.ins (c.ca C) dx vs) ∧ F dx = some (.own a) ∧ dx ∉ io ∧ ClsOk c C fs ∧ RvF c F io vs fs := by
  cases h with
  | loc hn =>
    rename_i a
    obtain ⟨dx, vs, e1, e2, e3, k, r⟩ := g.sim.ob n a _ hn hs
    exact ⟨a, dx, vs, rfl, hn, e1, e2, e3, k, r⟩
def rFld (K : PySem.W.Frag) (f : Str) (x : V) (H1 : Hp) (Q : VK) : Prop := ∃ a C dx fs v, x = .ref a ∧ H1 a = some (.ins C dx fs) ∧ Cls K C ∧ NoAttr K C f ∧ fs.lookup f = some v ∧ Q v H1
theorem fld_ok (hK : X.K = c.K) (f : Str) : Op1Ok c (rFld X.K f) (fun st d => dV (fldD f st d)) := by
  intro B F H io st rh σ x d t Q g hx hf ho
  unfold dV at hf
  rw [Option.map_eq_some_iff] at hf
  obtain ⟨r, hr, rfl⟩ := hf
  cases d with
  | loc n =>
    simp only [fldD] at hr
    split at hr
    · rename_i C fs hs
      obtain ⟨a, dx, vs, e0, _, e1, e2, e3, k, r⟩ := ins_at g hx hs
      obtain ⟨v, e4, rv⟩ := r.look hr
      exact ⟨a, c.ca C, dx, vs, v, e0, g.sub _ _ e1, by rw [hK]; exact k.1, by rw [hK]; exact k.2 _ (lookup_mem hr), e4, ho.same g.sub rv⟩
    · cases hr
  | _ => cases hr
theorem pe_den_fld (hK : X.K = c.K) {f : Str} (ha : PE X a (den c W fa)) (hb : plainBase a = true) : PE X (.Attribute a f pos) (den c W (eFld f fa)) :=
  PE.weak (pe_fld ha (plainBase_ok hb)) fun σ H Q h => op1_of (fld_ok hK f) h
end

/-! ### an expression's fresh list is laid into the store -/
/-- a value to be held by an object: a fresh list is laid into the store -/
def held (t : TV) (st : Sto) : Option (D × Sto) := match t with
  | .d d => some (d, st)
  | .fr ds => some (.loc st.length, st ++ [.lst ds])
  | .o _ => none
theorem held_ok {c : Ct} {F H F1 H1 : Hp} {io io1 : List Addr} {st1 st2 : Sto} {rh : Rho} {σ : St} {v : V} {t : TV} {d : D} (S : Stp c F io H F1 io1 H1) (s1 : Sim c F1 io1 st1) (T : Tvs c H F1 io1 rh σ H1 v t) (e : held t st1 = some (d, st2)) :
    ∃ F2 io2, Stp c F io H F2 io2 H1 ∧ Sim c F2 io2 st2 ∧ Rv c F2 io2 v d := by
  cases t with
  | d d' => simp only [held, Option.some.injEq, Prod.mk.injEq] at e; obtain ⟨rfl, rfl⟩ := e; exact ⟨F1, io1, S, s1, T⟩
  | o i => cases e
  | fr ds =>
    simp only [held, Option.some.injEq, Prod.mk.injEq] at e
    obtain ⟨rfl, rfl⟩ := e
    obtain ⟨p, vs, rfl, h0, h1, h2, r⟩ := T
    have hp : p ∉ io1 := fun z => s1.dom z h2
    have P : Per0 F1 io1 (upd F1 p (.lst vs)) (io1 ++ [p]) := ⟨⟨[p], rfl⟩, fun a u e _ => upd_more h2 a u e, fun a u e n => by
      simp only [List.mem_append, List.mem_singleton, not_or]
      exact ⟨n, fun z => by subst z; rw [h2] at e; cases e⟩⟩
    have S2 := S.lean h0 h1 h2
    refine ⟨upd F1 p (.lst vs), io1 ++ [p], ⟨S2.sub, ?_, S2.per, S2.new, S2.fr, S2.gro, fun a ha => ?_, S2.tab, S2.ntb, S2.lck⟩, s1.alloc P (fun a ha => by rw [upd_ne (fun z => by subst z; exact hp ha)]) hp ⟨vs, upd_same, r.perm P⟩, rv_new s1⟩
    · obtain ⟨m, e⟩ := S.ext
      exact ⟨m ++ [p], by rw [e, List.append_assoc]⟩
    · simp only [List.mem_append, List.mem_singleton] at ha
      rcases ha with ha | ha
      · exact S.nio a ha
      · subst ha; exact .inr h0

/-! ### o.f = e -/
/-- fl: the fields that a class may get -/
def setFld (fl : List (Str × Str)) (f : Str) (n : Nat) (d : D) (st : Sto) : Option Sto := match st[n]? with
  | some (.ins C fs) => if ((fs.lookup f).isSome || fl.contains (C, f)) && decide (fs.length < 1000) then some (st.set n (.ins C (putD f d fs))) else none
  | _ => none
def sFldS (fl : List (Str × Str)) (f : Str) (fo fe : Sm) : Ss := sThen fe fun t st1 rh => match held t st1 with
  | some (d, st2) => sThen fo (fun u st3 rh => match u with
    | .d (.loc n) => (match setFld fl f n d st3 with
      | some st4 => .nx rh st4
      | none => .no)
    | _ => .no) rh st2
  | none => .no
section
variable {X : Cx} {c : Ct} {W : WX} {B : Bs} {F F' F1 F2 H H' H1 : Hp} {io io' io1 io2 : List Addr} {st st' st1 : Sto} {rh : Rho} {σ : St} {v : V} {t : TV} {d : D} {o e : Expr} {fe fo : Sm} {pos p pos' : Pos}
theorem putD_keys {f : Str} {d : D} : ∀ {fs : List (Str × D)} {p : Str × D}, p ∈ putD f d fs → p.1 = f ∨ ∃ q ∈ fs, q.1 = p.1
  | [], p, h => by simp [putD] at h; subst h; exact .inl rfl
  | (g, w) :: r, p, h => by
    unfold putD at h
    split at h
    · rename_i q
      rcases List.mem_cons.mp h with h | h
      · subst h; exact .inl q
      · exact .inr ⟨p, List.mem_cons_of_mem _ h, rfl⟩
    · rcases List.mem_cons.mp h with h | h
      · subst h; exact .inr ⟨_, List.mem_cons_self, rfl⟩
      · rcases putD_keys h with z | ⟨q, hq, e⟩
        · exact .inl z
        · exact .inr ⟨q, List.mem_cons_of_mem _ hq, e⟩
theorem fldS_of {K : PySem.W.Frag} (hK : K = c.K) {fl : List (Str × Str)} {f : Str} (hfl : ∀ C f, (C, f) ∈ fl → NoAttr c.K (c.ca C) f) {D : Ends} {σ : St} {H : Hp} (h : denS c W (sFldS fl f fo fe) D σ H) : sFld K (den c W fo) (den c W fe) f D σ H := by
  obtain ⟨B, F, io, st, rh, g, p⟩ := h
  refine then_of g p fun t st1 v H1 F1 io1 S1 g1 s1 T1 q1 => ?_
  cases hh : held t st1 with
  | none => simp only [hh] at q1; exact q1.elim
  | some ds =>
    obtain ⟨d, st2⟩ := ds
    simp only [hh] at q1
    obtain ⟨F2, io2, S2, s2, r2⟩ := held_ok S1 s1 T1 hh
    have g2 := g.step S2 s2
    have q1 := Pss.per (S2.perm g.sub) q1
    refine then_of g2 q1 fun u st3 x H3 F3 io3 S3 g3 s3 T3 q3 => ?_
    cases u with
    | d e =>
      cases e with
      | loc n =>
        simp only at q3
        cases hs : setFld fl f n d st3 with
        | none => rw [hs] at q3; exact q3.elim
        | some st4 =>
          rw [hs] at q3
          unfold setFld at hs
          split at hs
          · rename_i C fs hst
            split at hs
            · rename_i hc
              cases hs
              rw [Bool.and_eq_true, Bool.or_eq_true, decide_eq_true_eq] at hc
              obtain ⟨a, dx, vs, e0, hn, e1, e2, e3, k, r⟩ := ins_at g3 T3 hst
              have na : NoAttr c.K (c.ca C) f := by
                rcases hc.1 with z | z
                · obtain ⟨y, hy⟩ := Option.isSome_iff_exists.mp z
                  exact k.2 _ (lookup_mem hy)
                · exact hfl C f (by simpa using z)
              have ha : a ∈ io3 := List.mem_of_getElem? hn
              have rv := r2.step S3 g2.sub
              have P : Per F3 io3 (upd F3 a (.ins (c.ca C) dx (L2.putF f v vs))) io3 := Per.upd ha (fun o u z => by rw [e1] at z; cases z)
              refine ⟨a, c.ca C, dx, vs, e0, g3.sub _ _ e1, by rw [hK]; exact k.1, by rw [hK]; exact na, by rw [r.len]; exact hc.2, ?_⟩
              refine q3 σ _ (upd F3 a (.ins (c.ca C) dx (L2.putF f v vs))) io3 ((S3.perm g2.sub).trans P) (g3.setObj (fun o u z => by rw [e1] at z; cases z) hn ⟨dx, _, upd_same, P.per _ _ e2 e3, e3, ⟨k.1, fun p hp => ?_⟩, (r.putF rv).perm P⟩)
              rcases putD_keys hp with z | ⟨q, hq, e⟩
              · rw [z]; exact na
              · rw [← e]; exact k.2 q hq
            · cases hs
          · cases hs
      | _ => exact q3.elim
    | _ => exact q3.elim
end
end KL

namespace KL
open PySem L2

/-! ### methods of own classes -/
theorem star_all {pos : Pos} {env : Env} : ∀ {es : List Expr}, es.all notStar = true → (backTo pos (starEach es env)).all (fun x => !x.1) = true
  | [], _ => rfl
  | e :: es, h => by
    rw [List.all_cons, Bool.and_eq_true] at h
    rw [star_cons h.1]
    show (true && (backTo pos (starEach es env)).all (fun x => !x.1)) = true
    rw [star_all h.2]
    rfl
theorem form_few {pos : Pos} {env : Env} {es : List Expr} (h : es.all notStar = true) (hl : es.length < 29) : methodCallForm (es.length + ([] : List Keyword).length) (backTo pos (starEach es env)) (backToKw pos (keywordEach [] env)) = true := by
  unfold methodCallForm
  rw [star_all h]
  have e : (backToKw pos (keywordEach [] env)) = [] := rfl
  rw [e]
  simp only [List.all_nil, Bool.and_self, Bool.true_and, List.isEmpty_nil, if_true, List.length_nil, Nat.add_zero, decide_eq_true_eq]
  omega
theorem meth_of {prog : Program} {w : World} {A : Around} {E : Value → Shared → Prop} {s : Shared} {env : Env} {o : Expr} {name : Str} {apos pos : Pos} {args : List Expr} {Q : Value → Shared → Prop}
    (hbase : attributeBase o name env (eval o env) = eval o env) (hform : methodCallForm (args.length + ([] : List Keyword).length) (backTo pos (starEach args env)) (backToKw pos (keywordEach [] env)) = true) (hline : (apos.endLine == pos.line) = true)
    (h : wpAny (model prog w) A (eval o env) (fun ov s₁ => wpAny (model prog w) A (getMethod ov name (do return (← importBound o env).getD true)) (fun fx s₂ => wpAny (model prog w) A (callWith pos fx.1 fx.2 (backTo pos (starEach args env)) (backToKw pos (keywordEach [] env))) Q E s₂) E s₁) E s) :
    wpAny (model prog w) A (eval (.Call (.Attribute o name apos) args [] pos) env) Q E s := by
  rw [PySem.arm_eval_Call, hbase]
  refine wpAny_bind (wpAny_mono h (fun ov s₁ h₁ => ?_) fun _ _ e => e)
  refine wpAny_bind (wpAny_standAt ?_)
  have hpos : methodCallPos true o env apos pos = pure pos := by unfold methodCallPos; simp [hline]
  unfold methodCall calleeOf
  rw [hform]
  simp only [if_true]
  refine wpAny_bind (wpAny_holding (wpAny_mono h₁ (fun fx s₂ h₂ => ?_) fun _ _ e => e))
  exact wpAny_bind (wpAny_of_eq hpos h₂)
/-- ml: the methods of own classes, by class and name: their names in the table -/
abbrev Ml := List ((Str × Str) × Str)
def eMeth (ml : Ml) (G : Tbl) (m : Str) (fo : Sm) (fs : List Ag) : Sm := fun rh st => (fo rh st).bind fun t st1 => match t with
  | .d (.loc n) => (match st1[n]? with
    | some (.ins C _) => (match ml.lookup (C, m) with
      | some g => (eArgsC fs rh st1).bind fun ds st2 => (G g (.loc n :: ds) st2).bind fun d st3 => .ok (.d d) st3
      | none => .no)
    | _ => .no)
  | _ => .no
structure MtAt (X : Cx) (c : Ct) (G : Tbl) (C m g : Str) (n : Nat) (k : Nat) (f : Addr) (fd : FuncData) (ps : List Str) : Prop where
  ok : FnOk X.prog X.w X.K X.mg X.base (L2N.CX X.prog X.w) k f fd ps (spM c n (G g))
  room : Room k X.A
  me : Meth X.K (c.ca C) m f
  bnd : Binds X.K fd ps []
section
variable {X : Cx} {c : Ct} {W : WX} {B : Bs} {F F' F1 F2 H H' H1 : Hp} {io io' io1 io2 : List Addr} {st st' st1 : Sto} {rh : Rho} {σ : St} {v : V} {t : TV} {d : D} {o e : Expr} {es : List Expr} {fa fo : Sm} {fs : List Ag} {pos p apos : Pos} {G : Tbl} {m : Str} {ml : Ml}
theorem nolook {K : PySem.W.Frag} {C f : Addr} {m : Str} (h : Meth K C m f) {fs : List (Str × V)} (hn : ∀ x ∈ fs.map (·.1), NoAttr K C x) : fs.lookup m = none := by
  cases q : fs.lookup m with
  | none => rfl
  | some v =>
    have z : PySem.W.findIn K (.ref C) m = some none := hn m (List.mem_map.mpr ⟨(m, v), lookup_mem q, rfl⟩)
    rw [h.at_] at z
    cases z
theorem pe_den_meth (C0 : Cok X c W) (hm : ∀ C g, ml.lookup (C, m) = some g → ∃ k f fd ps, MtAt X c G C m g (fs.length + 1) k f fd ps) (he : PE X o (den c W fo)) (hb : plainBase o = true) (ha : PA X es (denAC c W fs)) (hs : es.all notStar = true) (hl : es.length < 29) (hlen : fs.length = es.length) (hline : (apos.endLine == pos.line) = true) :
    PE X (.Call (.Attribute o m apos) es [] pos) (den c W (eMeth ml G m fo fs)) := by
  refine ⟨fun pins s σ H Q I ⟨B, F, io, st, rh, g, p⟩ => ?_⟩
  refine meth_of (plainBase_ok hb) (form_few hs hl) hline ?_
  refine thn (he.run pins s σ H (fun x H1 => ∃ C a dx vs g0 F1 io1 st1, x = .ref a ∧ H1 a = some (.ins (c.ca C) dx vs) ∧ Cls c.K (c.ca C) ∧ (∀ y ∈ vs.map (·.1), NoAttr c.K (c.ca C) y) ∧ ml.lookup (C, m) = some g0 ∧ Good c B F1 io1 st1 rh σ H1 ∧ ∃ n, io1[n]? = some a ∧
      Pst c W F1 io1 rh σ H1 Q ((eArgsC fs rh st1).bind fun ds st2 => (G g0 (.loc n :: ds) st2).bind fun d st3 => .ok (.d d) st3)) I ⟨B, F, io, st, rh, g, Pst.bind g p fun t st1 x H1 F1 io1 e1 S1 g1 T1 p1 => ?_⟩) fun u s1 ⟨x, H1, I1, rx, C, a, dx, vs, g0, F1, io1, st1, ex, ea, hc, hno, hg, g1, n, hn, p1⟩ => ?_
  · cases t with
    | d d =>
      cases d with
      | loc n =>
        have p1 : Pst c W F1 io1 rh σ H1 Q (match st1[n]? with
          | some (.ins C _) => (match ml.lookup (C, m) with
            | some g => (eArgsC fs rh st1).bind fun ds st2 => (G g (.loc n :: ds) st2).bind fun d st3 => .ok (.d d) st3
            | none => .no)
          | _ => .no) := p1
        split at p1
        · rename_i C fs' hst
          obtain ⟨a, dx, vs, e0, hn, e1, e2, e3, k, r⟩ := ins_at g1 T1 hst
          cases hg : ml.lookup (C, m) with
          | none => rw [hg] at p1; exact p1.elim
          | some g0 =>
            rw [hg] at p1
            refine ⟨C, a, dx, vs, g0, F1, io1, st1, e0, g1.sub _ _ e1, k.1, fun y hy => ?_, hg, g1, n, hn, p1⟩
            rw [r.keys] at hy
            obtain ⟨q, hq, rfl⟩ := List.mem_map.mp hy
            exact k.2 q hq
        · exact p1.elim
      | _ => exact p1.elim
    | _ => exact p1.elim
  · subst ex
    obtain rfl : u = Value.ref a := rx
    obtain ⟨k, f, fd, ps, A⟩ := hm C g0 hg
    have me := A.me
    refine getmeth_ok I1 ea (by rw [C0.hK]; exact hc) me (nolook me (by rw [C0.hK]; exact hno)) ?_
    have hA : denAC c W fs σ H1 fun vs H2 => spM c (fs.length + 1) (G g0) (.ref a :: vs) H2 Q (WE W σ) := by
      refine ⟨B, F1, io1, st1, rh, g1, PstAC.bind g1 p1 fun ds st2 vs H2 F2 io2 e2 S2 g2 r2 p2 => ?_⟩
      refine ⟨by rw [List.length_cons, r2.length, eArgsC_length e2], F2, io2, st2, .loc n :: ds, g2.sub, g2.stp.tab g2.btab, g2.stp.ntb g2.bnt, g2.sim, .cons (RvA.of (.loc (S2.ix hn))) r2, ?_⟩
      cases hr : G g0 (.loc n :: ds) st2 with
      | no => rw [hr] at p2; exact p2.elim
      | ex x s => rw [hr] at p2; exact p2
      | ok d s => rw [hr] at p2; exact fun v H' F' io' S s' T => p2 v H' F' io' S s' T
    cases es with
    | nil =>
      refine PySem.W.callWith_K0 (first := [.ref a]) I1.kIn me.kp ?_
      obtain ⟨B', F', io', st', rh', g', p'⟩ := hA
      cases fs with
      | nil => exact run_fnS (us := [.ref a]) (vs := [.ref a]) A.ok A.room A.bnd (L2N.passAt C0.tk σ) I1 (.cons rfl .nil) (p' [] H1 F' io' (Stp.refl g'.sub) g'.sim .nil)
      | cons f0 fs => cases hlen
    | cons e es =>
      rw [List.all_cons, Bool.and_eq_true] at hs
      refine PySem.W.callWith_K (first := [.ref a]) (h₀ := X.base) I.ok.mod.kin me.kp (thn (ha.run pos pins s1 σ H1 _ I1 hA) fun us s2 ⟨vs, H2, I2, r, q2⟩ => ⟨I2.kIn, ?_⟩) (star_cons hs.1) (star_any hs.2)
      exact run_fnS (us := .ref a :: us) (vs := .ref a :: vs) A.ok A.room A.bnd (L2N.passAt C0.tk σ) I2 (.cons rfl r) q2
end

/-! ### instances made -/
/-- C(..): a new instance without fields, then __init__ (g in the table) -/
def eMake (G : Tbl) (C g : Str) (fs : List Ag) : Sm := fun rh st => (eArgsC fs rh st).bind fun ds st1 => (G g (.loc st1.length :: ds) (st1 ++ [.ins C []])).bind fun d st2 => match d with
  | .non => .ok (.d (.loc st1.length)) st2
  | _ => .no
structure MkAt (X : Cx) (c : Ct) (G : Tbl) (C g : Str) (n : Nat) (k : Nat) (f : Addr) (fd : FuncData) (ps : List Str) : Prop where
  ok : FnOk X.prog X.w X.K X.mg X.base (L2N.CX X.prog X.w) k f fd ps (spM c n (G g))
  room : Room (k + 1) X.A
  mkr : Mk X.K (c.ca C) f
  bnd : Binds X.K fd ps []
  cls : Cls c.K (c.ca C)
  glo : X.mg C = some (.ref (c.ca C))
section
variable {X : Cx} {c : Ct} {W : WX} {B : Bs} {F F' F1 F2 H H' H1 : Hp} {io io' io1 io2 : List Addr} {st st' st1 : Sto} {rh : Rho} {σ : St} {v : V} {t : TV} {d : D} {o e : Expr} {es : List Expr} {fa fo : Sm} {fs : List Ag} {pos p apos : Pos} {G : Tbl} {m : Str} {ml : Ml}
theorem run_makeS {CX : CXT} {k : Nat} {f C : Addr} {fd : FuncData} {ps : List Str} {sp : Sp} {E : XK} {pins : List (Addr × Obj)} {s : Shared} {Q : VK} {us : List Value} {vs : List V} (M : Mk X.K C f) (F : FnOk X.prog X.w X.K X.mg X.base CX k f fd ps sp) (hr : Room (k + 1) X.A) (hb : Binds X.K fd ps [])
    (hx : PassesAt CX X σ E) (I : Inv X pins σ H s) (r : Vals vs us)
    (h : ∀ x dx, H x = none → H dx = none → dx ≠ x → sp (.ref x :: vs) (upd (upd H dx (.own x)) x (.ins C dx [])) (fun v H2 => v = .non ∧ Q (.ref x) H2) E) :
    wpAny (model X.prog X.w) X.A (call (.ref C) us) (EP X pins σ Q) X.xe s := by
  have hq := h (s.heap.objs.size + 1) s.heap.objs.size (I.hok.fresh (Nat.le_succ _)) (I.hok.fresh (Nat.le_refl _)) (Nat.ne_of_lt (Nat.lt_succ_self _))
  have I2 := Inv.made (C := C) I
  have r2 : Vals (V.ref (s.heap.objs.size + 1) :: vs) (Value.ref (s.heap.objs.size + 1) :: us) := .cons rfl r
  have hl : (Value.ref (s.heap.objs.size + 1) :: us ++ []).length = ps.length := by
    have e := r2.length
    rw [F.len _ _ _ _ hq] at e
    rw [List.append_nil]
    exact e.symm
  have b := hb _ (Value.ref (s.heap.objs.size + 1) :: us) I2.kIn hl
  rw [List.append_nil] at b
  refine wpAny_call (make_map (f := f) I.kIn M.makes M.init (beq_iff_eq.mp M.fn) (codeAny_mono (F.run _ X.stack _ _ ⟨Value.ref (s.heap.objs.size + 1) :: us, []⟩ (Value.ref (s.heap.objs.size + 1) :: us) _ _ E (hr.make C us [])
    (I2.env0.make C us []) b r2 hq) fun r s' hq' => ?_))
  cases r with
  | error e => exact hx pins _ _ e s' I2 hq'
  | ok fl =>
    cases fl with
    | ret u =>
      obtain ⟨v, H', I3, rv, ev, q3⟩ := I2.after hq'
      subst ev
      exact ⟨rv, ⟨V.ref (s.heap.objs.size + 1), H', I3, rfl, q3⟩⟩
    | next => exact False.elim hq'
    | brk => exact False.elim hq'
    | cont => exact False.elim hq'
/-- the new instance is a part of the store -/
theorem Good.made (g : Good c B F io st rh σ H) {C : Str} (hc : Cls c.K (c.ca C)) {x dx : Addr} (hx : H x = none) (hdx : H dx = none) (ne : dx ≠ x) :
    Stp c F io H (upd (upd F dx (.own x)) x (.ins (c.ca C) dx [])) (io ++ [x]) (upd (upd H dx (.own x)) x (.ins (c.ca C) dx [])) ∧ Sim c (upd (upd F dx (.own x)) x (.ins (c.ca C) dx [])) (io ++ [x]) (st ++ [.ins C []]) := by
  have S1 : Stp c F io H (upd F dx (.own x)) io (upd H dx (.own x)) := Stp.add g.sub hdx
  obtain ⟨f1, f2, f3⟩ := g.fresh hdx
  have g1 := g.step S1 (g.sim.more (upd_more f1))
  have hx1 : upd H dx (.own x) x = none := by rw [upd_ne (Ne.symm ne)]; exact hx
  have dn : dx ∉ io ++ [x] := by simp only [List.mem_append, List.mem_singleton, not_or]; exact ⟨f2, ne⟩
  have z := g1.alloc (p := x) (ho := .ins (c.ca C) dx []) (o := .ins C []) hx1 ⟨dx, [], upd_same, by rw [upd_ne ne, upd_same], dn, ⟨hc, fun p hp => by simp at hp⟩, .nil⟩
  exact ⟨S1.trans g.sub z.1, z.2⟩
theorem make_den {C : Str} {g0 : Str} (hc : Cls c.K (c.ca C)) {Q : VK} {vs : List V} {ds : List D} (g : Good c B F io st rh σ H) (r : RvAs c F io vs ds) {n : Nat} (hn : ds.length + 1 = n) (p : Pst c W F io rh σ H Q ((G g0 (.loc st.length :: ds) (st ++ [.ins C []])).bind fun d st2 => match d with
    | .non => .ok (.d (.loc st.length)) st2
    | _ => .no)) : ∀ x dx, H x = none → H dx = none → dx ≠ x → spM c n (G g0) (.ref x :: vs) (upd (upd H dx (.own x)) x (.ins (c.ca C) dx [])) (fun v H2 => v = .non ∧ Q (.ref x) H2) (WE W σ) := by
  intro x dx hx hdx ne
  obtain ⟨S, s1⟩ := g.made hc hx hdx ne
  have g1 := g.step S s1
  have rx : Rv c (upd (upd F dx (.own x)) x (.ins (c.ca C) dx [])) (io ++ [x]) (.ref x) (.loc st.length) := rv_new g.sim
  refine ⟨by rw [List.length_cons, r.length]; exact hn, _, _, _, .loc st.length :: ds, g1.sub, g1.stp.tab g1.btab, g1.stp.ntb g1.bnt, s1, .cons (RvA.of rx) (r.step S g.sub), ?_⟩
  cases hr : G g0 (.loc st.length :: ds) (st ++ [.ins C []]) with
  | no => rw [hr] at p; exact p.elim
  | ex e s => rw [hr] at p; exact fun H' F' io' S2 s' => p H' F' io' (S.trans g.sub S2) s'
  | ok d s =>
    rw [hr] at p
    intro v H' F' io' S2 s' T
    cases d with
    | non => cases T; exact ⟨rfl, p (.ref x) H' F' io' (S.trans g.sub S2) s' (rx.step S2 g1.sub)⟩
    | _ => exact p.elim
theorem pe_den_make {C g0 : Str} {n k : Nat} {f : Addr} {fd : FuncData} {ps : List Str} (C0 : Cok X c W) (A : MkAt X c G C g0 n k f fd ps) (hg : Gl X C) (ha : PA X es (denAC c W fs)) (hlen : fs.length = es.length) (hn : fs.length + 1 = n) (hdb : (C == ("__debug__" : Str)) = false) (hs : es.all notStar = true) :
    PE X (.Call (.Name C p) es [] pos) (den c W (eMake G C g0 fs)) := by
  refine ⟨fun pins s σ H Q I ⟨B, F, io, st, rh, g, p⟩ => ?_⟩
  refine wpAny_Call_Name_kw (ld_glob I hg A.glo ?_ hdb)
  have hA : denAC c W fs σ H fun vs H1 => ∀ x dx, H1 x = none → H1 dx = none → dx ≠ x → spM c n (G g0) (.ref x :: vs) (upd (upd H1 dx (.own x)) x (.ins (c.ca C) dx [])) (fun v H2 => v = .non ∧ Q (.ref x) H2) (WE W σ) :=
    ⟨B, F, io, st, rh, g, PstAC.bind g p fun ds st1 vs H1 F1 io1 e1 S1 g1 r1 p1 => make_den A.cls g1 r1 (by rw [eArgsC_length e1]; exact hn) p1⟩
  cases es with
  | nil =>
    cases fs with
    | nil =>
      obtain ⟨B', F', io', st', rh', g', p'⟩ := hA
      exact PySem.W.callWith_K0 I.kIn A.mkr.kp (run_makeS (us := []) A.mkr A.ok A.room A.bnd (L2N.passAt C0.tk σ) I .nil (p' [] H F' io' (Stp.refl g'.sub) g'.sim .nil))
    | cons f0 fs => cases hlen
  | cons e es =>
    rw [List.all_cons, Bool.and_eq_true] at hs
    refine PySem.W.callWith_K (h₀ := X.base) I.ok.mod.kin A.mkr.kp (thn (ha.run pos pins s σ H _ I hA) fun us s1 ⟨vs, H1, I1, r, q⟩ => ⟨I1.kIn, ?_⟩) (star_cons hs.1) (star_any hs.2)
    exact run_makeS A.mkr A.ok A.room A.bnd (L2N.passAt C0.tk σ) I1 r q
end
end KL

namespace KL
open PySem L2

/-! ### while -/
def wLoop (fc : Sm) (body : Ss) : Nat → Ss
  | 0 => fun _ _ => .no
  | n + 1 => sThen fc fun t st rh => match t with
    | .d (.bl true) => (match body rh st with
      | .nx rh2 st2 => wLoop fc body n rh2 st2
      | .ct rh2 st2 => wLoop fc body n rh2 st2
      | .bk rh2 st2 => .nx rh2 st2
      | r => r)
    | .d (.bl false) => .nx rh st
    | _ => .no
def sWhile (fc : Sm) (body : Ss) : Ss := wLoop fc body 400
section
variable {X : Cx} {c : Ct} {W : WX} {B : Bs} {F F' F1 F2 H H' H1 : Hp} {io io' io1 io2 : List Addr} {st st' st1 : Sto} {rh : Rho} {σ : St} {v : V} {t : TV} {d : D}
theorem while_of {fc : Sm} {body : Ss} {D : Ends} {σ : St} {H : Hp} (n : Nat) (h : denS c W (wLoop fc body n) D σ H) : tWhile (denT c W fc) (denS c W body) D σ H := by
  refine ⟨fun m σ H => denS c W (wLoop fc body m) D σ H, ⟨n, h⟩, ?_⟩
  intro m σ H h
  obtain ⟨B, F, io, st, rh, g, p⟩ := h
  cases m with
  | zero => exact p.elim
  | succ k =>
    refine then_of g p fun t st1 v H1 F1 io1 S g1 s1 T q => ?_
    have P := S.perm g.sub
    cases t with
    | d d =>
      cases d with
      | bl b =>
        cases T
        refine ⟨b, rfl, ?_⟩
        cases b with
        | false => exact iteF (q σ H1 F1 io1 P g1)
        | true =>
          refine iteT ⟨fun σ' H' => denS c W (wLoop fc body k) D σ' H', fun σ' H' z => ⟨k, Nat.lt_succ_self k, z⟩, B, F1, io1, st1, rh, g1, ?_⟩
          have q : Pss c W B F io D (match body rh st1 with
            | .nx rh2 st2 => wLoop fc body k rh2 st2
            | .ct rh2 st2 => wLoop fc body k rh2 st2
            | .bk rh2 st2 => .nx rh2 st2
            | r => r) := q
          cases hb : body rh st1 with
          | nx rh2 st2 =>
            rw [hb] at q
            exact fun σ2 H2 F2 io2 P2 g2 => ⟨B, F2, io2, st2, rh2, g2, Pss.per (r := wLoop fc body k rh2 st2) (P.trans P2) q⟩
          | ct rh2 st2 =>
            rw [hb] at q
            exact fun σ2 H2 F2 io2 P2 g2 => ⟨B, F2, io2, st2, rh2, g2, Pss.per (r := wLoop fc body k rh2 st2) (P.trans P2) q⟩
          | bk rh2 st2 =>
            rw [hb] at q
            exact fun σ2 H2 F2 io2 P2 g2 => q σ2 H2 F2 io2 (P.trans P2) g2
          | rt d s => rw [hb] at q; exact fun v H' F' io' S' l' s' r' => q v H' F' io' S' ((S.perm g.sub).trans l') s' r'
          | ex e rh3 s => rw [hb] at q; exact Pss.per (r := .ex e rh3 s) P q
          | no => rw [hb] at q; exact q
      | _ => exact q.elim
    | _ => exact q.elim
end

/-! ### raise -/
structure XcAt (X : Cx) (c : Ct) (e : Str) (C : Addr) : Prop where
  at_ : c.xc e = .ref C
  exc : PySem.W.excIn X.K C He.veBase "ValueError.__new__" = true
  glo : X.mg e = some (.ref C)
  keep : PySem.W.keepIn X.K (.ref C) = true
  sub : PySem.W.subIn X.K (.ref C) (.type "BaseException") = some true
  ty : PySem.W.typeIn X.K (.ref C) = some (.type "type")
def sRaise (e : Str) : Ss := fun rh st => .ex e rh st
section
variable {X : Cx} {c : Ct} {W : WX}
theorem ps_den_raise (C0 : Cok X c W) {e m : Str} {C : Addr} {j : Nat} {p p2 p3 pos : Pos} (A : XcAt X c e C) (hg : Gl X e) (hdb : (e == ("__debug__" : Str)) = false) : PS X (.Raise (some (.Call (.Name e p) [.Constant (.str m) j p2] [] p3)) none pos) (denS c W (sRaise e)) := by
  refine PS.weak (L2N.ps_raise C0.calm C0.tk (L2N.pmk_own PySem.F.excBase_ValueError A.exc A.glo A.keep (raises_own A.sub A.ty) hg hdb)) fun D σ H h => ?_
  obtain ⟨B, F, io, st, rh, g, p⟩ := h
  have q := p σ H F io Per.refl g
  rw [A.at_] at q
  exact q
end

/-! ### try: .. except L: suite -/
def noEx : RS → RS
  | .ex _ _ _ => .no
  | r => r
/-- xs: the exceptions that the clause catches -/
def sTry (xs : List Str) (fb fs : Ss) : Ss := fun rh st => match fb rh st with
  | .ex e rh' st' => if xs.contains e then noEx (fs rh' st') else .no
  | r => r
/-- .. as e: return the exception's word -/
def sTryW (ws : List (Str × Str)) (i : Nat) (fb : Ss) : Ss := fun rh st => match fb rh st with
  | .ex e _ st' => (match ws.lookup e with
    | some w => .rt (.str w) st'
    | none => .no)
  | r => r
section
variable {X : Cx} {c : Ct} {W : WX}
theorem noEx_pss {B : Bs} {F : Hp} {io : List Addr} {D : Ends} {r : RS} (h : Pss c W B F io D (noEx r)) : Pss c W0 B F io D r := by
  cases r with
  | ex e rh st => exact h.elim
  | _ => exact h
theorem try_of {cl : Value} {xs : List Str} (hx : ∀ e ∈ xs, PySem.W.exmOne X.K (c.xc e) cl = some true) {fb fs : Ss} {D : Ends} {σ : St} {H : Hp} (h : denS c W (sTry xs fb fs) D σ H) :
    denS c (wMany X.K W D [(cl, fun _ _ _ => denS c W0 fs)]) fb D σ H := by
  obtain ⟨B, F, io, st, rh, g, p⟩ := h
  refine ⟨B, F, io, st, rh, g, ?_⟩
  unfold sTry at p
  cases hb : fb rh st with
  | nx rh2 st2 => rw [hb] at p; exact p
  | ct rh2 st2 => rw [hb] at p; exact p
  | bk rh2 st2 => rw [hb] at p; exact p
  | rt d s => rw [hb] at p; exact p
  | no => rw [hb] at p; exact p
  | ex e rh2 st2 =>
    rw [hb] at p
    have p : Pss c W B F io D (if xs.contains e = true then noEx (fs rh2 st2) else .no) := p
    split at p
    · rename_i hc
      intro σ' H' F' io' P' g'
      refine ⟨true, hx e (by simpa using hc), fun _ a _ => ⟨B, F', io', st2, rh2, g', noEx_pss (Pss.per P' p)⟩, fun z => by cases z⟩
    · exact p.elim
end
end KL

namespace KL
open PySem L2

/-! ### join, split, partition -/
def joinD (sep : Str) : D → Option TV
  | .lst ds => (strsD ds).bind fun ys => if (ys.map (·.length)).sum + ys.length * sep.length ≤ 16777216 then some (.d (.str (Txt.join sep ys))) else none
  | .tup ds => (strsD ds).bind fun ys => if (ys.map (·.length)).sum + ys.length * sep.length ≤ 16777216 then some (.d (.str (Txt.join sep ys))) else none
  | _ => none
def splitD (a : Str) : D → Option TV
  | .str b => if (b.length == 0) = false ∧ a.length + 2 ≤ sizeLine then some (.fr ((Txt.split a b).map .str)) else none
  | _ => none
def partD (a : Str) : D → Option TV
  | .str b => if (b.length == 0) = false ∧ a.length ≤ sizeLine then some (.d (.raw [.str (Txt.partition a b).1, .str (Txt.partition a b).2.1, .str (Txt.partition a b).2.2])) else none
  | _ => none
def eM_join : Sm → Sm → Sm := eSM1 joinD
def eM_split : Sm → Sm → Sm := eSM1 splitD
def eM_part : Sm → Sm → Sm := eSM1 partD
section
variable {X : Cx} {c : Ct} {W : WX} {a b e : Expr} {fa fb : Sm} {pos p p2 q apos : Pos} {B : Bs} {F H : Hp} {io : List Addr} {st : Sto} {rh : Rho} {σ : St}
theorem pe_den_join (hK : X.K = c.K) (ha : PE X a (den c W fa)) (hb : PE X b (den c W fb)) (hn : notStar b = true) (hp : plainBase a = true) (hl : (apos.endLine == pos.line) = true) : PE X (.Call (.Attribute a "join" apos) [b] [] pos) (den c W (eM_join fa fb)) := by
  refine PE.weak (pe_join ha hb (star_cons hn) (plainBase_ok hp) hl) fun σ H Q h => sm1_of (fun x => ?_) h
  intro B F H io st rh σ y d t Q g hx hf ho
  cases d with
  | lst ds =>
    simp only [joinD, Option.bind_eq_some_iff] at hf
    obtain ⟨ys, h1, hf⟩ := hf
    split at hf
    · rename_i hz
      cases hf
      obtain ⟨p, vs, rfl, q1, r1⟩ := hx
      exact ⟨x, p, ys, rfl, rfl, .inl (.inl (.inl (by rw [← strsD_ok r1 h1]; exact q1))), hz, ho.same g.sub (.str _)⟩
    · cases hf
  | tup ds =>
    simp only [joinD, Option.bind_eq_some_iff] at hf
    obtain ⟨ys, h1, hf⟩ := hf
    split at hf
    · rename_i hz
      cases hf
      have hx' : Rv c F io y (.tup ds) := hx
      obtain ⟨p, vs, rfl, q1, r1⟩ := Rv.sqT (a := 0) g.sub hx'
      exact ⟨x, p, ys, rfl, rfl, .inr (by rw [← strsD_ok r1 h1, hK]; exact q1), hz, ho.same g.sub (.str _)⟩
    · cases hf
  | _ => cases hf
theorem pe_den_split (ha : PE X a (den c W fa)) (hb : PE X b (den c W fb)) (hn : notStar b = true) (hp : plainBase a = true) (hl : (apos.endLine == pos.line) = true) : PE X (.Call (.Attribute a "split" apos) [b] [] pos) (den c W (eM_split fa fb)) := by
  refine PE.weak (pe_split ha hb (star_cons hn) (plainBase_ok hp) hl) fun σ H Q h => sm1_of (fun x => ?_) h
  intro B F H io st rh σ y d t Q g hx hf ho
  cases d with
  | str z =>
    simp only [splitD] at hf
    split at hf
    · rename_i hz
      cases hf
      cases hx
      refine ⟨x, z, rfl, rfl, hz.1, hz.2, fun p hp => ho.lst g (rv_strs _) p hp⟩
    · cases hf
  | _ => cases hf
theorem pe_den_part (ha : PE X a (den c W fa)) (hb : PE X b (den c W fb)) (hn : notStar b = true) (hp : plainBase a = true) (hl : (apos.endLine == pos.line) = true) : PE X (.Call (.Attribute a "partition" apos) [b] [] pos) (den c W (eM_part fa fb)) := by
  refine PE.weak (pe_partition ha hb (star_cons hn) (plainBase_ok hp) hl) fun σ H Q h => sm1_of (fun x => ?_) h
  intro B F H io st rh σ y d t Q g hx hf ho
  cases d with
  | str z =>
    simp only [partD] at hf
    split at hf
    · rename_i hz
      cases hf
      cases hx
      exact ⟨x, z, rfl, rfl, hz.1, hz.2, fun p hp => ho.raw g (.cons (.str _) (.cons (.str _) (.cons (.str _) .nil))) p hp⟩
    · cases hf
  | _ => cases hf
end

/-! ### min, max of two -/
def mnD : D → D → Option TV
  | .int i, .int j => some (.d (.int (if j < i then j else i)))
  | _, _ => none
def mxD : D → D → Option TV
  | .int i, .int j => some (.d (.int (if j > i then j else i)))
  | _, _ => none
def eMin2 : Sm → Sm → Sm := eOp2 fun _ => mnD
def eMax2 : Sm → Sm → Sm := eOp2 fun _ => mxD
section
variable {X : Cx} {c : Ct} {W : WX} {a b e : Expr} {fa fb : Sm} {pos p : Pos}
theorem pe_den_min2 (hc : X.calm = true) (hg : Gl X "min") (hm : X.mg "min" = none) (ha : PE X a (den c W fa)) (hb : PE X b (den c W fb)) (hn : notStar a = true) (hn2 : notStar b = true) : PE X (.Call (.Name "min" p) [a, b] [] pos) (den c W (eMin2 fa fb)) := by
  have A1 : PA X [a, b] (tCons (den c W fa) (tCons (den c W fb) tNil)) := pa_cons ha (pa_cons hb pa_nil (star_cons hn2)) (star_cons hn)
  refine PE.weak (pe_callB (call_min2 hc) hg hm (by decide +kernel) A1 (he := star_cons hn) (hpl := star_any (by simp [hn2]))) fun σ H Q h => op2_of (r := fun x y H Q => ∃ i j, [x, y] = [V.int i, V.int j] ∧ Q (.int (if j < i then j else i)) H) ?_ h
  intro B F H io st rh σ x y d e t Q g hx hy hf ho
  cases d <;> cases e <;> simp only [mnD, reduceCtorEq] at hf
  cases hf; cases hx; cases hy
  exact ⟨_, _, rfl, ho.same g.sub (.int _)⟩
theorem pe_den_max2 (hc : X.calm = true) (hg : Gl X "max") (hm : X.mg "max" = none) (ha : PE X a (den c W fa)) (hb : PE X b (den c W fb)) (hn : notStar a = true) (hn2 : notStar b = true) : PE X (.Call (.Name "max" p) [a, b] [] pos) (den c W (eMax2 fa fb)) := by
  have A1 : PA X [a, b] (tCons (den c W fa) (tCons (den c W fb) tNil)) := pa_cons ha (pa_cons hb pa_nil (star_cons hn2)) (star_cons hn)
  refine PE.weak (pe_callB (call_max2 hc) hg hm (by decide +kernel) A1 (he := star_cons hn) (hpl := star_any (by simp [hn2]))) fun σ H Q h => op2_of (r := fun x y H Q => ∃ i j, [x, y] = [V.int i, V.int j] ∧ Q (.int (if j > i then j else i)) H) ?_ h
  intro B F H io st rh σ x y d e t Q g hx hy hf ho
  cases d <;> cases e <;> simp only [mxD, reduceCtorEq] at hf
  cases hf; cases hx; cases hy
  exact ⟨_, _, rfl, ho.same g.sub (.int _)⟩
end
end KL

namespace KL
open PySem L2

/-! ### dict(t) of a tuple of pairs -/
/-- a tuple that has no dict of its own -/
def SqF (K : PySem.W.Frag) (H : Hp) (a : Addr) (xs : List V) : Prop := (∃ o, H a = some (.frz o (.tup xs)) ∧ o.dict = none) ∨ KTup K a xs
section
variable {X : Cx} {pins : List (Addr × Obj)} {σ : St} {H : Hp} {s : Shared}
theorem SqF.seq {a : Addr} {xs : List V} (I : Inv X pins σ H s) (h : SqF X.K H a xs) : ∃ its : List Value, Vals xs its ∧ PySem.PlainSeq "tuple" s.heap a its.toArray ∧ xs.length ≤ sizeLine := by
  rcases h with ⟨o, h, hd⟩ | ⟨o, its, n, hk, hc, hd, hs, hz, r⟩
  · obtain ⟨e, z, its, r, o', e', hc, n, hdat⟩ := I.hok a _ h
    rw [e] at e'
    cases e'
    exact ⟨its, r, ⟨o, n, e, hc, hd, hdat⟩, z⟩
  · refine ⟨its.toList, r, ⟨o, n, I.kIn a o hk, hc, hd, by simpa using hs⟩, ?_⟩
    have e := r.length
    simp only [Array.length_toList] at e
    omega
theorem prs_of (I : Inv X pins σ H s) : ∀ {ps : List Addr} {kvs : List (Key × V)}, Paired (fun p kv => SqT X.K H p [kV kv.1, kv.2]) ps kvs →
    ∃ (vps : List (Value × Value)) (prs : List (Key × Value)), KV kvs prs ∧ vps.length = ps.length ∧ prs.length = ps.length ∧ ∀ (j : Nat) (k v : Value), vps[j]? = some (k, v) → ∃ b q, ps[j]? = some b ∧ PyProof.Rows.IsTup s.heap b #[k, v] ∧ prs[j]? = some (q, v) ∧ keyIs q k = true
  | _, _, .nil => ⟨[], [], .nil, rfl, rfl, fun j k v e => by simp at e⟩
  | _, _, .cons (a := p) (b := kv) h t => by
    obtain ⟨vps, prs, r, hl, hl2, hp⟩ := prs_of I t
    obtain ⟨its, rv, ht, _⟩ := I.tuple h
    obtain ⟨u, y, ei, ru, ry⟩ := vals2 rv
    subst ei
    refine ⟨(u, y) :: vps, (kv.1, y) :: prs, .cons ⟨rfl, ry⟩ r, by simp [hl], by simp [hl2], fun j k v e => ?_⟩
    cases j with
    | zero =>
      simp at e
      obtain ⟨rfl, rfl⟩ := e
      exact ⟨p, kv.1, rfl, ht, rfl, kV_is (P := X.prog) (w := X.w) ru⟩
    | succ j =>
      obtain ⟨b, q, e1, e2, e3, e4⟩ := hp j k v (by simpa using e)
      exact ⟨b, q, by simpa using e1, e2, by simpa using e3, e4⟩
theorem call_dictF (hcalm : X.calm = true) : CallR X (.type "dict") (fun xs H Q => ∃ (a : Addr) (ps : List Addr) (kvs : List (Key × V)), xs = [.ref a] ∧ SqF X.K H a (ps.map V.ref) ∧ Paired (fun p kv => SqT X.K H p [kV kv.1, kv.2]) ps kvs ∧
    ∀ p, H p = none → Q (.ref p) (upd H p (.dK (mergeK [] kvs)))) := by
  intro pins s σ H xs us Q I r q
  obtain ⟨a, ps, kvs, ex, hq, hp, q⟩ := q
  subst ex
  obtain ⟨u, eu, rx⟩ := vals1 r
  subst eu
  cases rx
  obtain ⟨its, rv, pl, hz⟩ := hq.seq I
  have ei := refs_at rv
  subst ei
  rw [List.length_map] at hz
  obtain ⟨vps, prs, rel, hl, hl2, hpr⟩ := prs_of I hp
  have PI : PySem.PairItems s.heap (ps.map Value.ref).toArray (fun j => ps.getD j 0) vps := by
    refine ⟨by simp [hl], fun j k v e => ?_⟩
    obtain ⟨b, q', e1, e2, e3, e4⟩ := hpr j k v e
    exact ⟨by simp [e1], .inl (by simp only [List.getD_eq_getElem?_getD, e1, Option.getD_some]; exact e2)⟩
  refine PySem.call_dict_pairs (knd := mixKind X.prog X.w) (kvs := prs) (PySem.PairArg.tuple a _ _ vps) (I.ok.hd hcalm) ⟨pl, PI⟩ ⟨by rw [hl2, hl], fun i k v hr => ?_⟩ (by rw [hl]; exact hz) fun h' tk hd' k => ?_
  · obtain ⟨b, q', e1, e2, e3, e4⟩ := hpr i k v hr
    exact ⟨q', e3, e4⟩
  · have hm : (s.heap.objs.size == sysModules) = false := beq_eq_false_iff_ne.mpr (Nat.ne_of_gt I.big)
    have hlen : (mergeK [] kvs).length ≤ sizeLine := by
      refine Nat.le_trans (length_mergeK kvs []) ?_
      rw [List.length_nil, Nat.zero_add, rel.length, hl2]
      exact hz
    exact ⟨.ref s.heap.objs.size, upd H s.heap.objs.size (.dK (mergeK [] kvs)), I.laid (t' := tk) (fun b o e => k b o (by simp) e) (Nat.le_refl _) (show ObjOk X.prog X.w _ _ _ (.dK (mergeK [] kvs)) from ⟨hlen, hm, merged [] prs, KV.merge rel .nil, hd'⟩), rfl, q _ (I.hok.fresh (Nat.le_refl _))⟩
/-! keys that are tuples of whole numbers -/
theorem stored_new : ∀ (ps xs : List (List Key × Addr × Value)), ((xs ++ ps).map (·.1)).Nodup → storedAllH xs ps = xs ++ ps
  | [], xs, _ => by simp [storedAllH]
  | p :: ps, xs, h => by
    show storedAllH (storedH xs p.1 p.2.1 p.2.2) ps = _
    have hn : atKey xs p.1 = none := by
      unfold atKey
      rw [Option.map_eq_none_iff, List.find?_eq_none]
      intro y hy
      simp only [decide_eq_true_eq]
      intro e
      rw [List.map_append, List.nodup_append] at h
      exact h.2.2 y.1 (List.mem_map.mpr ⟨y, hy, rfl⟩) p.1 (by simp) e
    rw [storedH_new hn]
    have := stored_new ps (xs ++ [(p.1, p.2.1, p.2.2)]) (by simpa using h)
    rw [this]
    simp
theorem entry_inl (P P' : Program) (w w' : World) (ks : List Int) (q : Addr) (v : Value) : entryOfKey (tupleKind (mixKind P w)) (ks.map Sum.inl, q, v) = entryOfKey (tupleKind (mixKind P' w')) (ks.map Sum.inl, q, v) := by
  have e : ∀ (P : Program) (w : World), (ks.map (Sum.inl : Int → Key)).map (mixKind P w).hash = ks.map hashInt := fun P w => by rw [List.map_map]; rfl
  show (⟨reduceHash (Builtin.Tuple.tupleHashOf ((ks.map (Sum.inl : Int → Key)).map (mixKind P w).hash)), .ref q, v⟩ : DictEntry) = ⟨reduceHash (Builtin.Tuple.tupleHashOf ((ks.map (Sum.inl : Int → Key)).map (mixKind P' w').hash)), .ref q, v⟩
  rw [e, e]
abbrev PrT (K : PySem.W.Frag) (H : Hp) (p : Addr) (k : List Int × Addr × V) : Prop := SqT K H p [.ref k.2.1, k.2.2] ∧ SqT K H k.2.1 ((k.1.map (Sum.inl : Int → Key)).map kV)
abbrev PzT (k : List Int × Addr × V) (z : List Key × Addr × Value) : Prop := z.1 = k.1.map Sum.inl ∧ z.2.1 = k.2.1 ∧ RelV k.2.2 z.2.2
theorem prs_T (I : Inv X pins σ H s) : ∀ {ps : List Addr} {ks : List (List Int × Addr × V)}, Paired (PrT X.K H) ps ks →
    ∃ (vps : List (Value × Value)) (zs : List (List Key × Addr × Value)), vps.length = ps.length ∧ zs.length = ps.length ∧ Paired PzT ks zs ∧ ∀ (j : Nat) (k v : Value), vps[j]? = some (k, v) → ∃ b z, ps[j]? = some b ∧ PyProof.Rows.IsTup s.heap b #[k, v] ∧ zs[j]? = some z ∧ k = .ref z.2.1 ∧ v = z.2.2
  | _, _, .nil => ⟨[], [], rfl, rfl, .nil, fun j k v e => by simp at e⟩
  | _, _, .cons (a := p) (b := kv) h t => by
    obtain ⟨vps, zs, hl, hl2, pz, hp⟩ := prs_T I t
    obtain ⟨its, rv, ht, _⟩ := I.tuple h.1
    obtain ⟨u, y, ei, ru, ry⟩ := vals2 rv
    subst ei
    cases (show u = Value.ref kv.2.1 from ru)
    refine ⟨(.ref kv.2.1, y) :: vps, (kv.1.map Sum.inl, kv.2.1, y) :: zs, by simp [hl], by simp [hl2], .cons ⟨rfl, rfl, ry⟩ pz, fun j k v e => ?_⟩
    cases j with
    | zero =>
      simp at e
      obtain ⟨rfl, rfl⟩ := e
      exact ⟨p, _, rfl, ht, rfl, rfl, rfl⟩
    | succ j =>
      obtain ⟨b, z, e1, e2, e3, e4, e5⟩ := hp j k v (by simpa using e)
      exact ⟨b, z, by simpa using e1, e2, by simpa using e3, e4, e5⟩
theorem pz_keys : ∀ {ks : List (List Int × Addr × V)} {zs : List (List Key × Addr × Value)}, Paired PzT ks zs → zs.map (·.1) = ks.map fun k => k.1.map Sum.inl
  | _, _, .nil => rfl
  | _, _, .cons h t => by rw [List.map_cons, List.map_cons, pz_keys t, h.1]
theorem pz_at {K : PySem.W.Frag} {H : Hp} : ∀ {ps : List Addr} {ks : List (List Int × Addr × V)} {zs : List (List Key × Addr × Value)}, Paired (PrT K H) ps ks → Paired PzT ks zs → ∀ z ∈ zs, ∃ k : List Int, z.1 = k.map Sum.inl ∧ SqT K H z.2.1 (z.1.map kV)
  | _, _, _, .nil, h' => by
    cases h'
    intro z hz
    cases hz
  | _, _, _, .cons (b := k) h t, h' => by
    cases h' with
    | cons h1 t' =>
      intro z hz
      rcases List.mem_cons.mp hz with e | e
      · subst e
        exact ⟨k.1, h1.1, by rw [h1.1, h1.2.1]; exact h.2⟩
      · exact pz_at t t' z e
theorem call_dictT (hcalm : X.calm = true) (hu : X.A.units + 2 < cLine) : CallR X (.type "dict") (fun xs H Q => ∃ (a : Addr) (ps : List Addr) (ks : List (List Int × Addr × V)), xs = [.ref a] ∧ SqL X.K H a (ps.map V.ref) ∧ Paired (PrT X.K H) ps ks ∧ (ks.map (·.1)).Nodup ∧
    ∀ p o zs, H p = none → DzP p o zs → Paired PzT ks zs → Q (.ref p) (upd H p (.frz o (.own 0)))) := by
  intro pins s σ H xs us Q I r q
  obtain ⟨a, ps, ks, ex, hq, hp, hnd, q⟩ := q
  subst ex
  obtain ⟨u, eu, rx⟩ := vals1 r
  subst eu
  cases rx
  obtain ⟨its, rv, pl, hz⟩ := I.list hq
  have ei := refs_at rv
  subst ei
  rw [List.length_map] at hz
  obtain ⟨vps, zs, hl, hl2, pz, hpr⟩ := prs_T I hp
  have zk := pz_at hp pz
  have nd : (zs.map (·.1)).Nodup := by
    have e : (ks.map fun k => k.1.map (Sum.inl : Int → Key)) = (ks.map (·.1)).map fun k => k.map Sum.inl := by rw [List.map_map]; rfl
    rw [pz_keys pz, e]
    exact List.Pairwise.map _ (fun a b hab z => hab (inls_inj a b z)) hnd
  have PI : PySem.PairItems s.heap (ps.map Value.ref).toArray (fun j => ps.getD j 0) vps := by
    refine ⟨by simp [hl], fun j k v e => ?_⟩
    obtain ⟨b, z, e1, e2, e3, e4, e5⟩ := hpr j k v e
    exact ⟨by simp [e1], .inl (by simp only [List.getD_eq_getElem?_getD, e1, Option.getD_some]; exact e2)⟩
  have hst : PySem.KeysStay (tupleKind (mixKind X.prog X.w)) s.heap s.heap.objs.size [] zs := by
    intro h' hk z hz'
    obtain ⟨k, e1, e2⟩ := zk z hz'
    obtain ⟨o, items, n, g1, g2, g3, g4⟩ := key_sq I e2
    exact ⟨o, items, n, hk _ _ (Nat.ne_of_lt (Heap.lt_size g1)) (by simp) g1, g2, g3, g4⟩
  refine PySem.call_dict_pairsH (knd := tupleKind (mixKind X.prog X.w)) (ps := zs) (PySem.PairArg.list a _ _ vps) (I.ok.hd hcalm) hu ⟨pl, PI⟩ ⟨by rw [hl2, hl], fun i k v hr => ?_⟩ hst (by rw [hl]; exact hz) fun h' tk hd' k => ?_
  · obtain ⟨b, z, e1, e2, e3, e4, e5⟩ := hpr i k v hr
    exact ⟨z.1, z.2.1, by rw [e3, e5], e4⟩
  · have hm : (s.heap.objs.size == sysModules) = false := beq_eq_false_iff_ne.mpr (Nat.ne_of_gt I.big)
    rw [stored_new zs [] (by simpa using nd), List.nil_append] at hd'
    obtain ⟨o, es, ep, ho, hx, hdt, he, _, hn⟩ := hd'
    have dz : DzP s.heap.objs.size o zs := ⟨hx, hm, by rw [hl2]; exact hz, nd, es, ep, hdt, fun P w => he.trans (List.map_congr_left fun z hz' => by
      obtain ⟨k, e1, _⟩ := zk z hz'
      obtain ⟨z1, z2, z3⟩ := z
      simp only at e1
      subst e1
      exact entry_inl _ _ _ _ k z2 z3)⟩
    exact ⟨.ref s.heap.objs.size, upd H s.heap.objs.size (.frz o (.own 0)), I.laid (t' := tk) (fun b o e => k b o (by simp) e) (Nat.le_refl _) (show ObjOk X.prog X.w _ _ _ (.frz o (.own 0)) from ⟨ho, o, ho⟩), rfl, q _ o zs (I.hok.fresh (Nat.le_refl _)) dz pz⟩
theorem call_dictC : CallR X (.type "dict") (fun xs H Q => ∃ (a : Addr) (kvs : List (Key × V)), xs = [.ref a] ∧ Rd H a (.dK kvs) ∧ ∀ p, H p = none → Q (.ref p) (upd H p (.dK kvs))) := by
  intro pins s σ H xs us Q I r q
  obtain ⟨a, kvs, ex, e, q⟩ := q
  subst ex
  obtain ⟨u, eu, rx⟩ := vals1 r
  subst eu
  cases rx
  exact d_copyOf I e fun p s' hp I' => ⟨.ref p, _, I', rfl, q p hp⟩
end

/-! ### dicts by data -/
/-- in its place, or at the end -/
def putS (kvs : List (Str × D)) (k : Str) (d : D) : List (Str × D) :=
  if (kvs.any fun kv => decide (kv.1 = k)) = true then kvs.map (fun kv => if kv.1 = k then (kv.1, d) else kv) else kvs ++ [(k, d)]
def dropS (kvs : List (Str × D)) (k : Str) : List (Str × D) := kvs.filter fun kv => decide (kv.1 ≠ k)
def mergeS (kvs more : List (Str × D)) : List (Str × D) := more.foldl (fun acc kv => putS acc kv.1 kv.2) kvs
abbrev kS (vs : List (Str × V)) : List (Key × V) := vs.map fun p => (Sum.inr p.1, p.2)
section
variable {c : Ct} {F : Hp} {io : List Addr}
theorem any_kS (k : Str) : ∀ vs : List (Str × V), ((kS vs).any fun kv => decide (kv.1 = Sum.inr k)) = vs.any fun kv => decide (kv.1 = k)
  | [] => rfl
  | p :: vs => by
    rw [kS, List.map_cons, List.any_cons, List.any_cons]
    have e : decide ((Sum.inr p.1 : Key) = Sum.inr k) = decide (p.1 = k) := key_rr _ _
    rw [e]
    exact congrArg _ (any_kS k vs)
theorem any_rvF {κ : Type} (q : κ → Bool) : ∀ {vs : List (κ × V)} {kvs : List (κ × D)}, RvF c F io vs kvs → (vs.any fun kv => q kv.1) = kvs.any fun kv => q kv.1
  | _, _, .nil => rfl
  | _, _, .cons _ r => by rw [List.any_cons, List.any_cons, any_rvF q r]
theorem RvF.append {κ : Type} : ∀ {vs ws : List (κ × V)} {ds es : List (κ × D)}, RvF c F io vs ds → RvF c F io ws es → RvF c F io (vs ++ ws) (ds ++ es)
  | _, _, _, _, .nil, s => s
  | _, _, _, _, .cons h r, s => .cons h (r.append s)
theorem RvF.repl {k : Str} {v : V} {d : D} (h : Rv c F io v d) : ∀ {vs : List (Str × V)} {kvs : List (Str × D)}, RvF c F io vs kvs → RvF c F io (vs.map (fun kv => if kv.1 = k then (kv.1, v) else kv)) (kvs.map (fun kv => if kv.1 = k then (kv.1, d) else kv))
  | _, _, .nil => .nil
  | _, _, .cons (x := x) hd r => by
    rw [List.map_cons, List.map_cons]
    by_cases q : x = k
    · rw [if_pos q, if_pos q]; exact .cons h (RvF.repl h r)
    · rw [if_neg q, if_neg q]; exact .cons hd (RvF.repl h r)
theorem RvF.put {vs : List (Str × V)} {kvs : List (Str × D)} {k : Str} {v : V} {d : D} (r : RvF c F io vs kvs) (h : Rv c F io v d) : ∃ ws, putK (kS vs) (Sum.inr k) v = kS ws ∧ RvF c F io ws (putS kvs k d) := by
  unfold putK putS
  rw [any_kS, any_rvF (fun x => decide (x = k)) r]
  split
  · refine ⟨vs.map (fun kv => if kv.1 = k then (kv.1, v) else kv), ?_, ?_⟩
    · rw [kS, kS, List.map_map, List.map_map]
      apply List.map_congr_left
      intro p _
      show (if (Sum.inr p.1 : Key) = Sum.inr k then _ else _) = _
      by_cases e : p.1 = k
      · rw [if_pos (by rw [e]), Function.comp_apply, if_pos e]
      · rw [if_neg (fun z => e (Sum.inr.inj z)), Function.comp_apply, if_neg e]
    · exact RvF.repl h r
  · exact ⟨vs ++ [(k, v)], by simp [kS], r.append (.cons h .nil)⟩
theorem RvF.dropS {vs : List (Str × V)} {kvs : List (Str × D)} {k : Str} (r : RvF c F io vs kvs) : ∃ ws, dropK (kS vs) (Sum.inr k) = kS ws ∧ RvF c F io ws (KL.dropS kvs k) := by
  unfold dropK KL.dropS
  refine ⟨vs.filter fun kv => decide (kv.1 ≠ k), ?_, ?_⟩
  · rw [kS, kS, List.filter_map]
    congr 1
    apply List.filter_congr
    intro p _
    simp
  · induction r with
    | nil => exact .nil
    | @cons x w vs e ds hd r ih =>
      rw [List.filter_cons, List.filter_cons]
      by_cases q : x = k
      · rw [if_neg (by simp [q]), if_neg (by simp [q])]; exact ih
      · rw [if_pos (by simp [q]), if_pos (by simp [q])]; exact .cons hd ih
theorem RvF.merge : ∀ {ws : List (Str × V)} {more : List (Str × D)} {vs : List (Str × V)} {kvs : List (Str × D)}, RvF c F io ws more → RvF c F io vs kvs → ∃ us, mergeK (kS vs) (kS ws) = kS us ∧ RvF c F io us (mergeS kvs more)
  | _, _, vs, kvs, .nil, r => ⟨vs, rfl, r⟩
  | _, _, vs, kvs, .cons (x := x) (v := v) (vs := ws) (d := d) (ds := ds) h t, r => by
    obtain ⟨us, e, r2⟩ := r.put (k := x) h
    obtain ⟨zs, e2, r3⟩ := RvF.merge t r2
    refine ⟨zs, ?_, r3⟩
    rw [← e2, ← e]
    rfl
end
/-- pairs of a text and a value -/
def prsD : List D → Option (List (Str × D))
  | [] => some []
  | .tup [.str k, d] :: ds => (prsD ds).map ((k, d) :: ·)
  | _ :: _ => none
def dictD (st : Sto) : D → Option (List (Str × D))
  | .loc n => (match st[n]? with
    | some (.dct _ kvs) => some kvs
    | _ => none)
  | .tup ds => (prsD ds).map (mergeS [])
  | .lst ds => (prsD ds).map (mergeS [])
  | _ => none
/-- pairs of a tuple of whole numbers and a value -/
def prsT : List D → Option (List (List Int × D))
  | [] => some []
  | .tup [.tup ks, d] :: ds => (keyI ks).bind fun k => (prsT ds).map ((k, d) :: ·)
  | _ :: _ => none
def dictT : D → Option (List (List Int × D))
  | .lst ds => (prsT ds).bind fun kvs => if (kvs.map (·.1)).Nodup then some kvs else none
  | _ => none
def eDict (fa : Sm) : Sm := fun rh st => (fa rh st).bind fun t st1 => match (view rh st1 t).bind (dictD st1) with
  | some kvs => .ok (.d (.loc st1.length)) (st1 ++ [.dct false kvs])
  | none => (match (view rh st1 t).bind dictT with
    | some kvs => .ok (.d (.loc st1.length)) (st1 ++ [.dcT false kvs])
    | none => .no)
def eDictNew : Sm := fun _ st => .ok (.d (.loc st.length)) (st ++ [.dct false []])
section
variable {X : Cx} {c : Ct} {W : WX} {B : Bs} {F F' F1 F2 H H' H1 : Hp} {io io' io1 io2 : List Addr} {st st' st1 : Sto} {rh : Rho} {σ : St} {v : V} {t : TV} {d : D} {a b e o : Expr} {fa fb fo fe : Sm} {pos p : Pos}
theorem newDct (g : Good c B F io st rh σ H) {vs : List (Str × V)} {kvs : List (Str × D)} (r : RvF c F io vs kvs) {Q : VK} (h : Pst c W F io rh σ H Q (.ok (.d (.loc st.length)) (st ++ [.dct false kvs]))) (q : Addr) (hq : H q = none) : Q (.ref q) (upd H q (.dK (kS vs))) := by
  obtain ⟨f1, f2, f3⟩ := g.fresh hq
  have P : Per0 F io (upd F q (.dK (kS vs))) (io ++ [q]) := ⟨⟨[q], rfl⟩, fun a u e _ => upd_more f1 a u e, fun a u e n => by
    simp only [List.mem_append, List.mem_singleton, not_or]
    exact ⟨n, fun z => by subst z; rw [f1] at e; cases e⟩⟩
  obtain ⟨S, s1⟩ := g.alloc (p := q) (ho := .dK (kS vs)) (o := .dct false kvs) hq ⟨vs, upd_same, r.perm P⟩
  exact h _ _ _ _ S s1 (rv_new g.sim)
theorem pe_den_dnew : PE X (.Dict [] [] pos) (den c W eDictNew) :=
  PE.weak pe_dnewK fun σ H Q ⟨B, F, io, st, rh, g, p⟩ q hq => newDct (vs := []) g .nil p q hq
theorem prs_rv (hK : X.K = c.K) (hs : ∀ a o, F a = some o → H a = some o) : ∀ {vs : List V} {ds : List D} {kvs : List (Str × D)}, RvAll c F io vs ds → prsD ds = some kvs →
    ∃ (ps : List Addr) (ws : List (Str × V)), vs = ps.map V.ref ∧ Paired (fun p (kv : Key × V) => SqT X.K H p [kV kv.1, kv.2]) ps (kS ws) ∧ RvF c F io ws kvs
  | _, _, _, .nil, e => by cases e; exact ⟨[], [], rfl, .nil, .nil⟩
  | _, _, kvs, .cons (d := d) h r, e => by
    unfold prsD at e
    split at e
    · rename_i z1 z2
      cases z2
    · rename_i k d' ds z
      cases z
      rw [Option.map_eq_some_iff] at e
      obtain ⟨kvs', e1, rfl⟩ := e
      obtain ⟨ps, ws, rfl, h2, h3⟩ := prs_rv hK hs r e1
      obtain ⟨a, us, rfl, q1, r1⟩ := Rv.sqT (a := 0) hs h
      cases r1 with
      | cons hk r1 =>
        cases hk
        cases r1 with
        | cons hv r1 =>
          cases r1
          rename_i v
          exact ⟨a :: ps, (k, v) :: ws, rfl, .cons (by rw [hK]; exact q1) h2, .cons hv h3⟩
    · cases e
theorem keyI_eq : ∀ {ds : List D} {ks : List Int}, keyI ds = some ks → ds = ks.map D.int
  | [], _, h => by cases h; rfl
  | d :: ds, ks, h => by
    cases d <;> simp only [keyI, Option.map_eq_some_iff, reduceCtorEq] at h
    obtain ⟨ks', e1, rfl⟩ := h
    rw [List.map_cons, ← keyI_eq e1]
theorem prs_rvT (hK : X.K = c.K) (hs : ∀ a o, F a = some o → H a = some o) : ∀ {vs : List V} {ds : List D} {kvs : List (List Int × D)}, RvAll c F io vs ds → prsT ds = some kvs →
    ∃ (ps : List Addr) (ks : List (List Int × Addr × V)), vs = ps.map V.ref ∧ Paired (PrT X.K H) ps ks ∧ RvAll c F io (ks.map fun k => V.ref k.2.1) (kvs.map fun p => tI p.1) ∧ RvF c F io (ks.map fun k => (k.1, k.2.2)) kvs ∧ kvs.map (·.1) = ks.map (·.1)
  | _, _, _, .nil, e => by cases e; exact ⟨[], [], rfl, .nil, .nil, .nil, rfl⟩
  | _, _, kvs, .cons (d := d) h r, e => by
    unfold prsT at e
    split at e
    · rename_i z1 z2
      cases z2
    · rename_i kd d' ds z
      cases z
      rw [Option.bind_eq_some_iff] at e
      obtain ⟨k, ek, e⟩ := e
      rw [Option.map_eq_some_iff] at e
      obtain ⟨kvs', e1, rfl⟩ := e
      obtain ⟨ps, ks, rfl, h2, h3, h4, h5⟩ := prs_rvT hK hs r e1
      obtain ⟨a, us, rfl, q1, r1⟩ := Rv.sqT (a := 0) hs h
      cases r1 with
      | cons hk r1 =>
        cases r1 with
        | cons hv r1 =>
          cases r1
          rename_i v
          obtain ⟨b, ws, e5, q2, r2⟩ := Rv.sqT (a := 0) hs hk
          subst e5
          have ew := keyI_ok r2 ek
          subst ew
          have ed := keyI_eq ek
          subst ed
          exact ⟨a :: ps, (k, b, v) :: ks, rfl, .cons ⟨by rw [hK]; exact q1, by rw [hK]; exact q2⟩ h2, .cons hk h3, .cons hv h4, by rw [List.map_cons, List.map_cons, h5]⟩
    · cases e
theorem pz_zs {c : Ct} {F : Hp} {io : List Addr} : ∀ {ks : List (List Int × Addr × V)} {zs : List (List Key × Addr × Value)}, Paired PzT ks zs → (zs.map fun q => V.ref q.2.1) = (ks.map fun k => V.ref k.2.1) ∧ Paired (fun (p : List Int × V) (q : List Key × Addr × Value) => q.1 = p.1.map Sum.inl ∧ RelV p.2 q.2.2) (ks.map fun k => (k.1, k.2.2)) zs
  | _, _, .nil => ⟨rfl, .nil⟩
  | _, _, .cons h t => by
    obtain ⟨e1, e2⟩ := pz_zs (c := c) (F := F) (io := io) t
    exact ⟨by rw [List.map_cons, List.map_cons, e1, h.2.1], .cons ⟨h.1, h.2.2⟩ e2⟩
theorem newDctT (g : Good c B F io st rh σ H) {ks : List (List Int × Addr × V)} {kvs : List (List Int × D)} (rk : RvAll c F io (ks.map fun k => V.ref k.2.1) (kvs.map fun p => tI p.1)) (r : RvF c F io (ks.map fun k => (k.1, k.2.2)) kvs) {Q : VK} (h : Pst c W F io rh σ H Q (.ok (.d (.loc st.length)) (st ++ [.dcT false kvs]))) (q : Addr) (ob : Obj) (zs : List (List Key × Addr × Value)) (hq : H q = none) (z : DzP q ob zs) (pz : Paired PzT ks zs) : Q (.ref q) (upd H q (.frz ob (.own 0))) := by
  obtain ⟨f1, f2, f3⟩ := g.fresh hq
  have P : Per0 F io (upd F q (.frz ob (.own 0))) (io ++ [q]) := ⟨⟨[q], rfl⟩, fun a u e _ => upd_more f1 a u e, fun a u e n => by
    simp only [List.mem_append, List.mem_singleton, not_or]
    exact ⟨n, fun z => by subst z; rw [f1] at e; cases e⟩⟩
  obtain ⟨e1, e2⟩ := pz_zs (c := c) (F := F) (io := io) pz
  rw [← e1] at rk
  obtain ⟨S, s1⟩ := g.alloc (p := q) (ho := .frz ob (.own 0)) (o := .dcT false kvs) hq ⟨ob, zs, _, upd_same, z, e2, rk.perm P, r.perm P⟩
  exact h _ _ _ _ S s1 (rv_new g.sim)
theorem pe_den_dict (hK : X.K = c.K) (hc : X.calm = true) (hu : X.A.units + 2 < cLine) (hg : Gl X "dict") (hm : X.mg "dict" = none) (ha : PE X a (den c W fa)) (hn : notStar a = true) : PE X (.Call (.Name "dict" p) [a] [] pos) (den c W (eDict fa)) := by
  have A1 : PA X [a] (tCons (den c W fa) tNil) := pa_cons ha pa_nil (star_cons hn)
  refine PE.weak (pe_callTy (((call_dictC.or (call_dictF hc)).or (call_dictP hc)).or (call_dictT hc hu)) hg hm (by decide +kernel) A1 (he := star_cons hn)) fun σ H Q ⟨B, F, io, st, rh, g, p⟩ => ?_
  refine ⟨B, F, io, st, rh, g, Pst.bind g p fun t1 st1 x H1 F1 io1 e1 S1 g1 T1 p1 => ?_⟩
  cases h1 : view rh st1 t1 with
  | none => rw [h1] at p1; exact p1.elim
  | some d =>
    rw [h1] at p1
    replace p1 : Pst c W F1 io1 rh σ H1 Q (match dictD st1 d with
      | some kvs => .ok (.d (.loc st1.length)) (st1 ++ [.dct false kvs])
      | none => (match dictT d with
        | some kvs => .ok (.d (.loc st1.length)) (st1 ++ [.dcT false kvs])
        | none => .no)) := p1
    cases h2 : dictD st1 d with
    | none =>
      rw [h2] at p1
      cases h3 : dictT d with
      | none => rw [h3] at p1; exact p1.elim
      | some kvs =>
        rw [h3] at p1
        have hv := view_ok g1 (T1.r g1.sim) h1
        cases d with
        | lst ds =>
          simp only [dictT, Option.bind_eq_some_iff] at h3
          obtain ⟨kvs', e1, e2⟩ := h3
          split at e2
          · rename_i hnd
            cases e2
            obtain ⟨a', vs, rfl, q1, r⟩ := hv
            obtain ⟨ps, ks, rfl, h3, h4, h5, h6⟩ := prs_rvT hK g1.sub r e1
            exact .inr ⟨_, ps, ks, rfl, .inl (.inl q1), h3, by rw [← h6]; exact hnd, fun q ob zs hq z pz => newDctT g1 h4 h5 p1 q ob zs hq z pz⟩
          · cases e2
        | _ => cases h3
    | some kvs =>
      rw [h2] at p1
      have hv := view_ok g1 (T1.r g1.sim) h1
      cases d with
      | loc n =>
        simp only [dictD] at h2
        split at h2
        · rename_i lk kvs' hs
          cases h2
          cases hv with
          | loc hn =>
            rename_i a'
            have ob := g1.sim.ob n a' _ hn hs
            cases lk with
            | false => obtain ⟨vs, e, r⟩ := ob; exact .inl (.inl (.inl ⟨a', kS vs, rfl, .inl (g1.sub _ _ e), fun q hq => newDct g1 r p1 q hq⟩))
            | true => obtain ⟨ob', vs, e, r⟩ := ob; exact .inl (.inl (.inl ⟨a', kS vs, rfl, .inr ⟨ob', g1.sub _ _ e⟩, fun q hq => newDct g1 r p1 q hq⟩))
        · cases h2
      | tup ds =>
        simp only [dictD, Option.map_eq_some_iff] at h2
        obtain ⟨kvs', e1, rfl⟩ := h2
        have hv' : Rv c F1 io1 x (.tup ds) := hv
        cases hv' with
        | tup ht r =>
          obtain ⟨ps, ws, rfl, h3, h4⟩ := prs_rv hK g1.sub r e1
          obtain ⟨us, e5, r5⟩ := RvF.merge h4 (RvF.nil (c := c) (F := F1) (io := io1))
          refine .inl (.inl (.inr ⟨_, ps, kS ws, rfl, ?_, h3, fun q hq => ?_⟩))
          · rcases ht with ⟨o, z1, z2, z3⟩ | z
            · exact .inl ⟨o, g1.sub _ _ z1, z3⟩
            · rw [hK]; exact .inr z
          · have e6 : mergeK [] (kS ws) = kS us := e5
            rw [e6]
            exact newDct g1 r5 p1 q hq
      | lst ds =>
        simp only [dictD, Option.map_eq_some_iff] at h2
        obtain ⟨kvs', e1, rfl⟩ := h2
        obtain ⟨a', vs, rfl, q1, r⟩ := hv
        obtain ⟨ps, ws, rfl, h3, h4⟩ := prs_rv hK g1.sub r e1
        obtain ⟨us, e5, r5⟩ := RvF.merge h4 (RvF.nil (c := c) (F := F1) (io := io1))
        refine .inl (.inr ⟨_, ps, kS ws, rfl, .inl (.inl q1), h3, fun q hq => ?_⟩)
        have e6 : mergeK [] (kS ws) = kS us := e5
        rw [e6]
        exact newDct g1 r5 p1 q hq
      | _ => cases h2
end
end KL

namespace KL
open PySem L2

/-! ### o[k] = e, of a dict -/
def putAt (n : Nat) (k d : D) (st : Sto) : Option Sto := match st[n]?, k with
  | some (.dct false kvs), .str x => if kvs.length < sizeLine then some (st.set n (.dct false (putS kvs x d))) else none
  | _, _ => none
def sPut (fo fk fe : Sm) : Ss := sThen fe fun t st1 rh => match held t st1 with
  | some (d, st2) => sThen fo (fun u st3 rh => sThen fk (fun w st4 rh => match u, w with
    | .d (.loc n), .d k => (match putAt n k d st4 with
      | some st5 => .nx rh st5
      | none => .no)
    | _, _ => .no) rh st3) rh st2
  | none => .no
section
variable {X : Cx} {c : Ct} {W : WX} {B : Bs} {F F' F1 F2 H H' H1 : Hp} {io io' io1 io2 : List Addr} {st st' st1 : Sto} {rh : Rho} {σ : St} {v : V} {t : TV} {d : D} {a b e o : Expr} {fa fb fo fe fk : Sm} {pos p : Pos}
theorem put_of {D : Ends} {σ : St} {H : Hp} (h : denS c W (sPut fo fk fe) D σ H) : sDPut (den c W fo) (den c W fk) (den c W fe) D σ H := by
  obtain ⟨B, F, io, st, rh, g, p⟩ := h
  refine then_of g p fun t st1 v H1 F1 io1 S1 g1 s1 T1 q1 => ?_
  cases hh : held t st1 with
  | none => simp only [hh] at q1; exact q1.elim
  | some ds =>
    obtain ⟨d, st2⟩ := ds
    simp only [hh] at q1
    obtain ⟨F2, io2, S2, s2, r2⟩ := held_ok S1 s1 T1 hh
    have g2 := g.step S2 s2
    have q1 := Pss.per (S2.perm g.sub) q1
    refine then_of g2 q1 fun u st3 x H3 F3 io3 S3 g3 s3 T3 q3 => ?_
    have q3 := Pss.per (S3.perm g2.sub) q3
    refine then_of g3 q3 fun w st4 y H4 F4 io4 S4 g4 s4 T4 q4 => ?_
    cases u with
    | d e =>
      cases e with
      | loc n =>
        cases w with
        | d k =>
          simp only at q4
          cases hp : putAt n k d st4 with
          | none => rw [hp] at q4; exact q4.elim
          | some st5 =>
            rw [hp] at q4
            unfold putAt at hp
            split at hp
            · rename_i kvs xk hst
              split at hp
              · rename_i hl
                cases hp
                cases T4
                have T3' : Rv c F4 io4 x (.loc n) := Rv.step S4 g3.sub T3
                cases T3' with
                | loc hn =>
                  rename_i a
                  obtain ⟨vs, e1, r⟩ := g4.sim.ob n a _ hn hst
                  have rv := (r2.step S3 g2.sub).step S4 g3.sub
                  obtain ⟨ws, e2, r3⟩ := r.put (k := xk) rv
                  have ha : a ∈ io4 := List.mem_of_getElem? hn
                  have P : Per F4 io4 (upd F4 a (.dK (kS ws))) io4 := Per.upd ha (fun o u z => by rw [e1] at z; cases z)
                  refine ⟨a, _, rfl, DPut.k (k := Sum.inr xk) (g4.sub _ _ e1) (by rw [List.length_map, r.len]; exact hl), ?_⟩
                  have e3 : putK (vs.map fun p => ((Sum.inr p.1 : Key), p.2)) (Sum.inr xk) v = kS ws := e2
                  rw [e3]
                  exact q4 σ _ (upd F4 a (.dK (kS ws))) io4 ((S4.perm g3.sub).trans P) (g4.setObj (fun o u z => by rw [e1] at z; cases z) hn ⟨ws, upd_same, r3.perm P⟩)
              · cases hp
            · cases hp
        | _ => exact q4.elim
      | _ => exact q4.elim
    | _ => exact q4.elim
theorem ps_den_put (hu0 : X.A.units + 65 < cLine) {spos : Pos} (ho : PE X o (den c W fo)) (hk : PE X b (den c W fk)) (he : PE X e (den c W fe)) (hs : swapsWith e (some (.Subscript o b spos)) pos.line X.env = pure false) : PS X (.Assign [.Subscript o b spos] e pos) (denS c W (sPut fo fk fe)) :=
  PS.weak (ps_dput (by omega) ho hk he hs) fun D σ H h => put_of h
end

/-! ### a written dict with texts as keys -/
def eHelds : List Sm → Rho → Sto → R (List D)
  | [], _, st => .ok [] st
  | f :: fs, rh, st => (f rh st).bind fun t st1 => match held t st1 with
    | none => .no
    | some (d, st2) => (eHelds fs rh st2).bind fun ds st3 => .ok (d :: ds) st3
def eDisp (ks : List Str) (fs : List Sm) : Sm := fun rh st => (eHelds fs rh st).bind fun ds st1 => .ok (.d (.loc st1.length)) (st1 ++ [.dct false (mergeS [] (ks.zip ds))])
section
variable {X : Cx} {c : Ct} {W : WX} {B : Bs} {F F' F1 F2 H H' H1 : Hp} {io io' io1 io2 : List Addr} {st st' st1 : Sto} {rh : Rho} {σ : St} {v : V} {t : TV} {d : D} {a b e o : Expr} {fa fb fo fe fk : Sm} {pos p : Pos}
theorem pairs_den : ∀ (ks : List Str) (fs : List Sm), ks.length = fs.length → ∀ {F H : Hp} {io : List Addr} {st : Sto} {Q : List (V × V) → Hp → Prop}, Good c B F io st rh σ H →
    PstA c W F io σ H (fun vs H' => Q ((ks.zip vs).map fun p => (.str p.1, p.2)) H') (eHelds fs rh st) → tPairs ((ks.zip fs).map fun p => (tC (.str p.1), den c W p.2)) σ H Q
  | [], [], _, F, H, io, st, Q, g, p => p [] H F io (Stp.refl g.sub) g.sim .nil
  | [], _ :: _, h, _, _, _, _, _, _, _ => by cases h
  | _ :: _, [], h, _, _, _, _, _, _, _ => by cases h
  | k :: ks, f :: fs, hl, F, H, io, st, Q, g, p => by
    show den c W f σ H fun y H2 => tPairs ((ks.zip fs).map fun p => (tC (.str p.1), den c W p.2)) σ H2 fun ps H3 => Q ((.str k, y) :: ps) H3
    refine ⟨B, F, io, st, rh, g, ?_⟩
    unfold eHelds at p
    cases hr : f rh st with
    | no => rw [hr] at p; exact p.elim
    | ex x st' => rw [hr] at p; exact p
    | ok t st1 =>
      rw [hr] at p
      intro v H1 F1 io1 S s1 T
      replace p : PstA c W F io σ H (fun vs H' => Q (((k :: ks).zip vs).map fun p => (.str p.1, p.2)) H') (match held t st1 with
        | none => .no
        | some (d, st2) => (eHelds fs rh st2).bind fun ds st3 => .ok (d :: ds) st3) := p
      cases ht : held t st1 with
      | none => rw [ht] at p; exact p.elim
      | some ds =>
        obtain ⟨d, st2⟩ := ds
        rw [ht] at p
        obtain ⟨F2, io2, S2, s2, r2⟩ := held_ok S s1 T ht
        have g2 := g.step S2 s2
        refine pairs_den ks fs (by simpa using hl) g2 ?_
        replace p : PstA c W F io σ H (fun vs H' => Q (((k :: ks).zip vs).map fun p => (.str p.1, p.2)) H') ((eHelds fs rh st2).bind fun ds st3 => .ok (d :: ds) st3) := p
        replace p := PstA.step g S2 p
        cases hq : eHelds fs rh st2 with
        | no => rw [hq] at p; exact p.elim
        | ex x st' => rw [hq] at p; exact p
        | ok ds st3 =>
          rw [hq] at p
          intro vs H3 F3 io3 S3 s3 T3
          exact p (v :: vs) H3 F3 io3 S3 s3 (.cons (r2.step S3 g2.sub) T3)
theorem eHelds_length : ∀ {fs : List Sm} {rh : Rho} {st st1 : Sto} {ds : List D}, eHelds fs rh st = .ok ds st1 → ds.length = fs.length
  | [], _, _, _, _, h => by cases h; rfl
  | f :: fs, rh, st, st1, ds, h => by
    unfold eHelds at h
    cases hr : f rh st with
    | no => rw [hr] at h; cases h
    | ex x st' => rw [hr] at h; cases h
    | ok t st2 =>
      rw [hr] at h
      simp only [R.bind] at h
      cases ht : held t st2 with
      | none => rw [ht] at h; cases h
      | some d =>
        rw [ht] at h
        simp only at h
        cases hq : eHelds fs rh d.2 with
        | no => rw [hq] at h; cases h
        | ex x st' => rw [hq] at h; cases h
        | ok ds' st3 =>
          rw [hq] at h
          simp only [R.ok.injEq] at h
          obtain ⟨rfl, rfl⟩ := h
          rw [List.length_cons, List.length_cons, eHelds_length hq]
theorem zip_rvF : ∀ (ks : List Str) {vs : List V} {ds : List D}, RvAll c F io vs ds → RvF c F io (ks.zip vs) (ks.zip ds)
  | [], _, _, _ => .nil
  | _ :: _, _, _, .nil => .nil
  | k :: ks, _, _, .cons h r => .cons h (zip_rvF ks r)
/-- an object that came up on the way becomes a part of the store -/
theorem Stp.turn (S : Stp c F io H F1 io1 H1) {q : Addr} {o : HO} (hq : H q = none) (hq1 : H1 q = some (.dK [])) (fq : F1 q = none) (ht : ∀ ps, o ≠ .tbl ps := by intro _ z; cases z) : Stp c F io H (upd F1 q o) (io1 ++ [q]) (upd H1 q o) := by
  have ne : ∀ a u, H a = some u → a ≠ q := fun a u e z => by subst z; rw [hq] at e; cases e
  refine ⟨fun a u e => ?_, ?_, fun a u e n => ?_, fun a e => ?_, fun a u e n ht => ?_, fun a e => ?_, fun a ha => ?_, fun h0 => tabs_upd (S.tab h0) hq1 (fun _ z => by cases z) (fun _ z => by cases z), fun h => (S.ntb h).upd ht, fun a o u e => upd_more fq a _ (S.lck a o u e)⟩
  · by_cases z : a = q
    · subst z; rw [upd_same] at e ⊢; exact e
    · rw [upd_ne z] at e ⊢; exact S.sub a u e
  · obtain ⟨m, e⟩ := S.ext
    exact ⟨m ++ [q], by rw [e, List.append_assoc]⟩
  · exact upd_more fq a u (S.per a u e n)
  · by_cases z : a = q
    · subst z; exact .inr hq
    · rw [upd_ne z] at e; exact S.new a e
  · rw [upd_ne (ne a u e)]; exact S.fr a u e n ht
  · by_cases z : a = q
    · subst z; exact hq
    · rw [upd_ne z] at e; exact S.gro a e
  · simp only [List.mem_append, List.mem_singleton] at ha
    rcases ha with ha | ha
    · exact S.nio a ha
    · subst ha; exact .inr hq
theorem disp_of {ks : List Str} {fs : List Sm} (hl : ks.length = fs.length) (h15 : ks.length ≤ 15) {σ : St} {H : Hp} {Q : VK} (h : den c W (eDisp ks fs) σ H Q) : tDisp ((ks.zip fs).map fun p => (tC (.str p.1), den c W p.2)) σ H Q := by
  obtain ⟨B, F, io, st, rh, g, p⟩ := h
  intro q hq
  obtain ⟨f1, f2, f3⟩ := g.fresh hq
  have S0 : Stp c F io H F io (upd H q (.dK [])) := Stp.lay g.sub hq
  have g0 := g.step S0 g.sim
  refine pairs_den ks fs hl g0 ?_
  unfold eDisp at p
  cases hr : eHelds fs rh st with
  | no => rw [hr] at p; exact p.elim
  | ex x s => rw [hr] at p; exact fun H' F' io' S s' => p H' F' io' (S0.trans g.sub S) s'
  | ok ds st1 =>
    rw [hr] at p
    intro vs H1 F1 io1 S1 s1 r1
    have hq1 : H1 q = some (.dK []) := S1.fr q _ upd_same f2 (fun ps z => by cases z)
    have fq : F1 q = none := S1.out upd_same f1
    have hn : q ∉ io1 := fun z => s1.dom z fq
    obtain ⟨us, e2, r2⟩ := RvF.merge (zip_rvF ks r1) (RvF.nil (c := c) (F := F1) (io := io1))
    refine ⟨hq1, kS (ks.zip vs), ?_, ?_, ?_⟩
    · rw [kS, List.map_map]
      rfl
    · rw [kS, List.length_map, List.length_zip]
      omega
    · have e3 : mergeK [] (kS (ks.zip vs)) = kS us := e2
      rw [e3]
      have P : Per0 F1 io1 (upd F1 q (.dK (kS us))) (io1 ++ [q]) := ⟨⟨[q], rfl⟩, fun a u e _ => upd_more fq a u e, fun a u e n => by
        simp only [List.mem_append, List.mem_singleton, not_or]
        exact ⟨n, fun z => by subst z; rw [fq] at e; cases e⟩⟩
      have S01 : Stp c F io H F1 io1 H1 := S0.trans g.sub S1
      refine p (.ref q) _ (upd F1 q (.dK (kS us))) (io1 ++ [q]) (S01.turn hq hq1 fq) (s1.alloc P (fun a ha => by rw [upd_ne (fun z => by subst z; exact hn ha)]) hn ⟨us, upd_same, r2.perm P⟩) (rv_new s1)
theorem pe_den_disp {ks : List Str} {fs : List Sm} {es : List Expr} {keys : List (Option Expr)} (h : PPs X pos keys es ((ks.zip fs).map fun p => (tC (.str p.1), den c W p.2))) (hall : keys.all (·.isSome) = true) (hl : keys.length = es.length) (h0 : keys ≠ []) (h15 : keys.length ≤ 15) (hk : ks.length = fs.length) (hk2 : ks.length = keys.length) : PE X (.Dict keys es pos) (den c W (eDisp ks fs)) :=
  PE.weak (pe_disp h hall hl h0 h15) fun σ H Q q => disp_of hk (by omega) q
end
end KL

namespace KL
open PySem L2

/-! ### o.pop() -/
def ePop0 (fo : Sm) : Sm := fun rh st => (fo rh st).bind fun t st1 => match t with
  | .d (.loc n) => (match st1[n]? with
    | some (.lst ds) => (match ds[ds.length - 1]? with
      | some d => .ok (.d d) (st1.set n (.lst ds.dropLast))
      | none => .no)
    | _ => .no)
  | _ => .no
section
variable {X : Cx} {c : Ct} {W : WX} {B : Bs} {F F' F1 F2 H H' H1 : Hp} {io io' io1 io2 : List Addr} {st st' st1 : Sto} {rh : Rho} {σ : St} {v : V} {t : TV} {d : D} {a b e o : Expr} {fa fb fo fe fk : Sm} {pos p apos : Pos}
theorem RvAll.dropLast : ∀ {vs : List V} {ds : List D}, RvAll c F io vs ds → RvAll c F io vs.dropLast ds.dropLast
  | _, _, .nil => .nil
  | _, _, .cons h .nil => .nil
  | _, _, .cons h (.cons h2 r) => .cons h (RvAll.dropLast (.cons h2 r))
theorem RvAll.eraseIdx : ∀ (k : Nat) {vs : List V} {ds : List D}, RvAll c F io vs ds → RvAll c F io (vs.eraseIdx k) (ds.eraseIdx k)
  | _, _, _, .nil => .nil
  | 0, _, _, .cons _ r => r
  | k + 1, _, _, .cons h r => .cons h (RvAll.eraseIdx k r)
/-- an object of the store is changed; what comes of it -/
theorem Pst.put (g : Good c B F io st rh σ H) {n : Nat} {a' : Addr} {ho : HO} {o' : O} {Q : VK} (hl : ∀ o u, F a' ≠ some (.frz o u)) (hn : io[n]? = some a') (h : Pst c W F io rh σ H Q (.ok (.d d) (st.set n o'))) (r : Rv c F io v d) (ho' : ∀ P : Per F io (upd F a' ho) io, Ob c (upd F a' ho) io a' o') : Q v (upd H a' ho) := by
  have P : Per F io (upd F a' ho) io := Per.upd (List.mem_of_getElem? hn) hl
  exact h v _ _ io (g.put ho hl hn (ob_nt (ho' P))) (g.putSim hl hn (ho' P)) (r.perm P)
theorem pe_den_pop0 (ho : PE X o (den c W fo)) (hb : plainBase o = true) (hl : (apos.endLine == pos.line) = true) : PE X (.Call (.Attribute o "pop" apos) [] [] pos) (den c W (ePop0 fo)) := by
  refine PE.weak (pe_bm0 PySem.F.plainAttrs_list PySem.F.slot_list_pop PySem.F.type_list_pop mt_pop ho (plainBase_ok hb) hl) fun σ H Q ⟨B, F, io, st, rh, g, p⟩ => ?_
  refine ⟨B, F, io, st, rh, g, Pst.bind g p fun t1 st1 x H1 F1 io1 e1 S1 g1 T1 p1 => ?_⟩
  cases t1 with
  | d e =>
    cases e with
    | loc n =>
      replace p1 : Pst c W F1 io1 rh σ H1 Q (match st1[n]? with
        | some (.lst ds) => (match ds[ds.length - 1]? with
          | some d => .ok (.d d) (st1.set n (.lst ds.dropLast))
          | none => .no)
        | _ => .no) := p1
      split at p1
      · rename_i ds hst
        split at p1
        · rename_i d hd
          cases T1 with
          | loc hn =>
            rename_i a'
            obtain ⟨vs, e1, r⟩ := g1.sim.ob n a' _ hn hst
            obtain ⟨v, hv, rv⟩ := r.get hd
            exact ⟨tyV_list (g1.sub _ _ e1), a', vs, v, rfl, rfl, g1.sub _ _ e1, by rw [r.length]; exact hv, Pst.put g1 (fun o u z => by rw [e1] at z; cases z) hn p1 rv (fun P => ⟨_, upd_same, r.dropLast.perm P⟩)⟩
        · exact p1.elim
      · exact p1.elim
    | _ => exact p1.elim
  | _ => exact p1.elim
end

/-! ### o.pop(e), of a dict or a list -/
def popD (n : Nat) (st : Sto) (k : D) : Option (D × Sto) := match st[n]?, k with
  | some (.dct false kvs), .str x => (vget kvs x).map fun d => (d, st.set n (.dct false (dropS kvs x)))
  | some (.lst ds), .int i => if -(2 ^ 63) ≤ i ∧ i < 2 ^ 63 then (seqIndex? i ds.length).bind fun j => (ds[j]?).map fun d => (d, st.set n (.lst (ds.eraseIdx j))) else none
  | _, _ => none
def isCont (n : Nat) (st : Sto) : Option Bool := match st[n]? with
  | some (.dct false _) => some true
  | some (.lst _) => some false
  | _ => none
def ePop1 (fo fe : Sm) : Sm := fun rh st => (fo rh st).bind fun t st1 => match t with
  | .d (.loc n) => (match isCont n st1 with
    | some b => (fe rh st1).bind fun u st2 => (match u with
      | .d k => if isCont n st2 = some b then (match popD n st2 k with
        | some (d, st3) => .ok (.d d) st3
        | none => .no) else .no
      | _ => .no)
    | none => .no)
  | _ => .no
section
variable {X : Cx} {c : Ct} {W : WX} {B : Bs} {F F' F1 F2 H H' H1 : Hp} {io io' io1 io2 : List Addr} {st st' st1 : Sto} {rh : Rho} {σ : St} {v : V} {t : TV} {d : D} {a b e o : Expr} {fa fb fo fe fk : Sm} {pos p apos : Pos}
theorem m1_of {m : Str} (hb : plainBase o = true) (hn : notStar e = true) (hl : (apos.endLine == pos.line) = true) : M1 X o m apos e pos := ⟨plainBase_ok hb, few1 hn, hl, by rw [star_cons hn]; rfl⟩
theorem pop_cases {Q : VK} (g : Good c B F io st rh σ H) (p : Pst c W F io rh σ H Q (ePop1 fo fe rh st)) :
    (∃ x s, fo rh st = .ex x s ∧ Pst c W F io rh σ H Q (.ex x s)) ∨ ∃ n st1 b, fo rh st = .ok (.d (.loc n)) st1 ∧ isCont n st1 = some b ∧ Pst c W F io rh σ H Q ((fe rh st1).bind fun u st2 => (match u with
      | .d k => if isCont n st2 = some b then (match popD n st2 k with
        | some (d, st3) => .ok (.d d) st3
        | none => .no) else .no
      | _ => .no)) := by
  unfold ePop1 at p
  cases hr : fo rh st with
  | no => rw [hr] at p; exact p.elim
  | ex x s => rw [hr] at p; exact .inl ⟨x, s, rfl, p⟩
  | ok t st1 =>
    rw [hr] at p
    cases t with
    | d e =>
      cases e with
      | loc n =>
        replace p : Pst c W F io rh σ H Q (match isCont n st1 with
          | some b => (fe rh st1).bind fun u st2 => (match u with
            | .d k => if isCont n st2 = some b then (match popD n st2 k with
              | some (d, st3) => .ok (.d d) st3
              | none => .no) else .no
            | _ => .no)
          | none => .no) := p
        cases hc : isCont n st1 with
        | none => rw [hc] at p; exact p.elim
        | some b => rw [hc] at p; exact .inr ⟨n, st1, b, rfl, hc, p⟩
      | _ => exact p.elim
    | _ => exact p.elim
theorem isCont_true {n : Nat} {st : Sto} (h : isCont n st = some true) : ∃ kvs, st[n]? = some (.dct false kvs) := by
  unfold isCont at h
  split at h
  · rename_i kvs e; exact ⟨kvs, e⟩
  · cases h
  · cases h
theorem isCont_false {n : Nat} {st : Sto} (h : isCont n st = some false) : ∃ ds, st[n]? = some (.lst ds) := by
  unfold isCont at h
  split at h
  · cases h
  · rename_i ds e; exact ⟨ds, e⟩
  · cases h
theorem pe_den_pop1 (ho : PE X o (den c W fo)) (he : PE X e (den c W fe)) (hb : plainBase o = true) (hn : notStar e = true) (hl : (apos.endLine == pos.line) = true) : PE X (.Call (.Attribute o "pop" apos) [e] [] pos) (den c W (ePop1 fo fe)) := by
  refine PE.weak (PE.or (pe_dpop1 ho he (m1_of hb hn hl)) (pe_bm PySem.F.plainAttrs_list PySem.F.slot_list_pop PySem.F.type_list_pop mt_popAt ho (pa_cons he pa_nil (star_cons hn)) (plainBase_ok hb) (few1 hn) hl (star_cons hn) rfl)) fun σ H Q ⟨B, F, io, st, rh, g, p⟩ => ?_
  rcases pop_cases g p with ⟨x, s, hr, p⟩ | ⟨n, st1, b, hr, hc, p⟩
  · exact .inl ⟨B, F, io, st, rh, g, by rw [hr]; exact p⟩
  · have go : ∀ {x : V} {H1 F1 : Hp} {io1 : List Addr} {K : V → Hp → Prop} (S1 : Stp c F io H F1 io1 H1) (s1 : Sim c F1 io1 st1) (T1 : Rv c F1 io1 x (.loc n)),
        (∀ (y : V) (H2 F2 : Hp) (io2 : List Addr) (st2 st3 : Sto) (k d : D) (a' : Addr), Good c B F2 io2 st2 rh σ H2 → isCont n st2 = some b → popD n st2 k = some (d, st3) → Rv c F2 io2 y k → io2[n]? = some a' → x = .ref a' → Pst c W F2 io2 rh σ H2 Q (.ok (.d d) st3) → K y H2) → den c W fe σ H1 K := by
      intro x H1 F1 io1 K S1 s1 T1 hk
      have g1 := g.step S1 s1
      refine ⟨B, F1, io1, st1, rh, g1, Pst.bind g1 (Pst.step g S1 p) fun u st2 y H2 F2 io2 e2 S2 g2 T2 p2 => ?_⟩
      cases u with
      | d k =>
        replace p2 : Pst c W F2 io2 rh σ H2 Q (if isCont n st2 = some b then (match popD n st2 k with
          | some (d, st3) => .ok (.d d) st3
          | none => .no) else .no) := p2
        split at p2
        · rename_i hc2
          cases hp : popD n st2 k with
          | none => rw [hp] at p2; exact p2.elim
          | some ds =>
            obtain ⟨d, st3⟩ := ds
            rw [hp] at p2
            cases T1 with
            | loc hn1 => exact hk y H2 F2 io2 st2 st3 k d _ g2 hc2 hp T2 (S2.ix hn1) rfl p2
        · exact p2.elim
      | _ => exact p2.elim
    cases b with
    | true =>
      refine .inl ⟨B, F, io, st, rh, g, ?_⟩
      rw [hr]
      intro x H1 F1 io1 S1 s1 T1
      obtain ⟨kvs, hst⟩ := isCont_true hc
      have T1' : Rv c F1 io1 x (.loc n) := T1
      cases T1' with
      | loc hn1 =>
        rename_i a'
        obtain ⟨vs, e1, r⟩ := s1.ob n a' _ hn1 hst
        refine ⟨a', rfl, .inl ⟨_, .inl (S1.sub _ _ e1)⟩, go S1 s1 T1 fun y H2 F2 io2 st2 st3 k d a2 g2 hc2 hp T2 hn2 ex p2 => ?_⟩
        cases ex
        obtain ⟨kvs2, hst2⟩ := isCont_true hc2
        unfold popD at hp
        rw [hst2] at hp
        cases k <;> simp only [reduceCtorEq, Option.map_eq_some_iff, Prod.mk.injEq] at hp
        rename_i xk
        obtain ⟨d', hv, rfl, rfl⟩ := hp
        cases T2
        obtain ⟨vs2, e2, r2⟩ := g2.sim.ob n a' _ hn2 hst2
        obtain ⟨ws, e3, r3⟩ := r2.dropS (k := xk)
        have ov := r2.val inr_inj xk
        rw [hv] at ov
        cases hz : valV (vs2.map fun p => ((Sum.inr p.1 : Key), p.2)) (Sum.inr xk) with
        | none => rw [hz] at ov; exact ov.elim
        | some v =>
          rw [hz] at ov
          refine ⟨_, Sum.inr xk, v, g2.sub _ _ e2, rfl, hz, ?_⟩
          have e4 : dropK (vs2.map fun p => ((Sum.inr p.1 : Key), p.2)) (Sum.inr xk) = kS ws := e3
          rw [e4]
          exact Pst.put g2 (fun o u z => by rw [e2] at z; cases z) hn2 p2 ov (fun P => ⟨ws, upd_same, r3.perm P⟩)
    | false =>
      refine .inr ⟨B, F, io, st, rh, g, ?_⟩
      rw [hr]
      intro x H1 F1 io1 S1 s1 T1
      obtain ⟨ds, hst⟩ := isCont_false hc
      have T1' : Rv c F1 io1 x (.loc n) := T1
      cases T1' with
      | loc hn1 =>
        rename_i a'
        obtain ⟨vs, e1, r⟩ := s1.ob n a' _ hn1 hst
        refine ⟨tyV_list (S1.sub _ _ e1), go S1 s1 T1 fun y H2 F2 io2 st2 st3 k d a2 g2 hc2 hp T2 hn2 ex p2 => ?_⟩
        cases ex
        obtain ⟨ds2, hst2⟩ := isCont_false hc2
        unfold popD at hp
        rw [hst2] at hp
        cases k <;> simp only [reduceCtorEq] at hp
        rename_i i
        split at hp
        · rename_i hi
          simp only [Option.bind_eq_some_iff, Option.map_eq_some_iff, Prod.mk.injEq] at hp
          obtain ⟨j, hj, d', hd, rfl, rfl⟩ := hp
          cases T2
          obtain ⟨vs2, e2, r2⟩ := g2.sim.ob n a' _ hn2 hst2
          obtain ⟨v, hv, rv⟩ := r2.get hd
          exact ⟨a', vs2, i, j, v, rfl, rfl, g2.sub _ _ e2, hi.1, hi.2, by rw [r2.length]; exact hj, hv, Pst.put g2 (fun o u z => by rw [e2] at z; cases z) hn2 p2 rv (fun P => ⟨_, upd_same, (r2.eraseIdx j).perm P⟩)⟩
        · cases hp
end

/-! ### o.get(k, x) -/
def get2R (n : Nat) (st : Sto) (u w : TV) : R TV := match st[n]?, u, w with
  | some (.dct false kvs), .d (.str k), .d x => .ok (.d ((vget kvs k).getD x)) st
  | _, _, _ => .no
def eGet2 (fo fk fx : Sm) : Sm := fun rh st => (fo rh st).bind fun t st1 => match t with
  | .d (.loc n) => (match isCont n st1 with
    | some true => (fk rh st1).bind fun u st2 => (fx rh st2).bind fun w st3 => get2R n st3 u w
    | _ => .no)
  | _ => .no
section
variable {X : Cx} {c : Ct} {W : WX} {B : Bs} {F F' F1 F2 H H' H1 : Hp} {io io' io1 io2 : List Addr} {st st' st1 : Sto} {rh : Rho} {σ : St} {v : V} {t : TV} {d : D} {a b e f o : Expr} {fa fb fo fe fk fx : Sm} {pos p apos : Pos}
theorem m2_of {m : Str} (hb : plainBase o = true) (hn : notStar e = true) (hn2 : notStar f = true) (hl : (apos.endLine == pos.line) = true) : M2 X o m apos e f pos :=
  ⟨plainBase_ok hb, by rw [star_cons hn, star_cons hn2]; rfl, hl, by rw [star_cons hn, star_cons hn2]; rfl⟩
theorem pe_den_get2 (hu0 : X.A.units + 65 < cLine) (ho : PE X o (den c W fo)) (he : PE X e (den c W fk)) (hf : PE X f (den c W fx)) (hb : plainBase o = true) (hn : notStar e = true) (hn2 : notStar f = true) (hl : (apos.endLine == pos.line) = true) :
    PE X (.Call (.Attribute o "get" apos) [e, f] [] pos) (den c W (eGet2 fo fk fx)) := by
  have hu : X.A.units + 64 < cLine := by omega
  refine PE.weak (pe_dget2 (by omega) ho he hf (m2_of hb hn hn2 hl)) fun σ H Q ⟨B, F, io, st, rh, g, p⟩ => ?_
  refine ⟨B, F, io, st, rh, g, Pst.bind g p fun t1 st1 x H1 F1 io1 e1 S1 g1 T1 p1 => ?_⟩
  cases t1 with
  | d e =>
    cases e with
    | loc n =>
      replace p1 : Pst c W F1 io1 rh σ H1 Q (match isCont n st1 with
        | some true => (fk rh st1).bind fun u st2 => (fx rh st2).bind fun w st3 => get2R n st3 u w
        | _ => .no) := p1
      split at p1
      · rename_i hc
        obtain ⟨kvs, hst⟩ := isCont_true hc
        have T1' : Rv c F1 io1 x (.loc n) := T1
        cases T1' with
        | loc hn1 =>
          rename_i a'
          obtain ⟨vs, e1, r⟩ := g1.sim.ob n a' _ hn1 hst
          refine ⟨a', rfl, .inl ⟨_, .inl (g1.sub _ _ e1)⟩, B, F1, io1, st1, rh, g1, Pst.bind g1 p1 fun u st2 y H2 F2 io2 e2 S2 g2 T2 p2 => ?_⟩
          refine ⟨B, F2, io2, st2, rh, g2, Pst.bind g2 p2 fun w st3 z H3 F3 io3 e3 S3 g3 T3 p3 => ?_⟩
          unfold get2R at p3
          split at p3
          · rename_i kvs3 xk xd hst3
            have hk : Rv c F3 io3 y (.str xk) := Rv.step S3 g2.sub T2
            have hx' : Rv c F3 io3 z xd := T3
            cases hk
            have hn3 : io3[n]? = some a' := S3.ix (S2.ix hn1)
            obtain ⟨vs3, e4, r3⟩ := g3.sim.ob n a' _ hn3 hst3
            refine ⟨_, .inl ⟨_, Sum.inr xk, .inl (g3.sub _ _ e4), rfl, rfl⟩, ?_⟩
            have ov := r3.val inr_inj xk
            cases hz : valV (vs3.map fun p => ((Sum.inr p.1 : Key), p.2)) (Sum.inr xk) with
            | none =>
              rw [hz] at ov
              cases hv : vget kvs3 xk with
              | none => rw [hv] at p3; exact p3 z H3 F3 io3 (Stp.refl g3.sub) g3.sim hx'
              | some q => rw [hv] at ov; exact ov.elim
            | some v =>
              rw [hz] at ov
              cases hv : vget kvs3 xk with
              | none => rw [hv] at ov; exact ov.elim
              | some q => rw [hv] at p3 ov; exact p3 v H3 F3 io3 (Stp.refl g3.sub) g3.sim ov
          · exact p3.elim
      · exact p1.elim
    | _ => exact p1.elim
  | _ => exact p1.elim
end
end KL

namespace KL
open PySem L2

/-! ### sorted(list of whole numbers) -/
def insI (i : Int) : List Int → List Int
  | [] => [i]
  | j :: r => if i ≤ j then i :: j :: r else j :: insI i r
def srtI : List Int → List Int
  | [] => []
  | i :: r => insI i (srtI r)
theorem insI_perm (i : Int) : ∀ l : List Int, (insI i l).Perm (i :: l)
  | [] => List.Perm.refl _
  | j :: r => by
    unfold insI
    split
    · exact List.Perm.refl _
    · exact ((insI_perm i r).cons j).trans (List.Perm.swap i j r)
theorem srtI_perm : ∀ l : List Int, (srtI l).Perm l
  | [] => List.Perm.refl _
  | i :: r => (insI_perm i _).trans ((srtI_perm r).cons i)
theorem insI_sorted (i : Int) : ∀ {l : List Int}, l.Pairwise (· ≤ ·) → (insI i l).Pairwise (· ≤ ·)
  | [], _ => by simp [insI]
  | j :: r, h => by
    unfold insI
    rw [List.pairwise_cons] at h
    split
    · rename_i hij
      rw [List.pairwise_cons, List.pairwise_cons]
      refine ⟨fun a ha => ?_, h⟩
      rcases List.mem_cons.mp ha with e | e
      · rw [e]; exact hij
      · exact Int.le_trans hij (h.1 a e)
    · rename_i hij
      rw [List.pairwise_cons]
      refine ⟨fun a ha => ?_, insI_sorted i h.2⟩
      rcases List.mem_cons.mp ((insI_perm i r).subset ha) with e | e
      · rw [e]; omega
      · exact h.1 a e
theorem srtI_sorted : ∀ l : List Int, (srtI l).Pairwise (· ≤ ·)
  | [] => List.Pairwise.nil
  | i :: r => insI_sorted i (srtI_sorted r)
theorem sorted_uniq : ∀ {a b : List Int}, a.Perm b → a.Pairwise (· ≤ ·) → b.Pairwise (· ≤ ·) → a = b
  | [], b, p, _, _ => (List.Perm.nil_eq p)
  | x :: a, [], p, _, _ => absurd p.symm (by simp)
  | x :: a, y :: b, p, h1, h2 => by
    rw [List.pairwise_cons] at h1 h2
    have e : x = y := by
      have m1 : x ∈ y :: b := p.subset List.mem_cons_self
      have m2 : y ∈ x :: a := p.symm.subset List.mem_cons_self
      rcases List.mem_cons.mp m1 with z | z
      · exact z
      · rcases List.mem_cons.mp m2 with w | w
        · exact w.symm
        · have := h1.1 y w
          have := h2.1 x z
          omega
    subst e
    rw [sorted_uniq (List.Perm.cons_inv p) h1.2 h2.2]
def intsOf : List D → Option (List Int)
  | [] => some []
  | .int i :: ds => (intsOf ds).map (i :: ·)
  | _ :: _ => none
def srtLD : D → Option TV
  | .lst ds => (intsOf ds).bind fun ns => if ns.length < 64 then some (.fr ((srtI ns).map .int)) else none
  | _ => none
/-- texts: no text twice -/
def srtSD (xs : List Str) : Option TV := if xs.length < 64 ∧ xs.Nodup then some (.fr ((KU.srt xs).map .str)) else none
def srtA (st : Sto) : D → Option TV
  | .lst ds => (match intsOf ds with
    | some ns => if ns.length < 64 then some (.fr ((srtI ns).map .int)) else none
    | none => (strsD ds).bind srtSD)
  | .loc n => (match st[n]? with
    | some (.dct false kvs) => srtSD (kvs.map (·.1))
    | _ => none)
  | _ => none
def eSrtI : Sm → Sm := eOp1 srtA
theorem srt_is {ns xs : List Str} (h : PyProof.Rows.sortedS ns = true) (p : ns.Perm xs) (nd : xs.Nodup) : ns = KU.srt xs := by
  refine KU.uniq (KU.sorted_nd (KU.sorted_le h) (p.nodup_iff.mpr nd)) (KU.srt_lt xs) fun x => ?_
  rw [p.mem_iff, KU.mem_srt]
theorem CallR.or {X : Cx} {f : Value} {r1 r2 : List V → Hp → VK → Prop} (h1 : CallR X f r1) (h2 : CallR X f r2) : CallR X f (fun xs H Q => r1 xs H Q ∨ r2 xs H Q) := by
  intro pins s σ H vs us Q I r h
  rcases h with h | h
  · exact h1 pins s σ H vs us Q I r h
  · exact h2 pins s σ H vs us Q I r h
section
variable {X : Cx} {c : Ct} {W : WX} {a : Expr} {fa : Sm} {pos p : Pos} {F H : Hp} {io : List Addr}
theorem intsOf_ok : ∀ {vs : List V} {ds : List D} {ns : List Int}, RvAll c F io vs ds → intsOf ds = some ns → vs = ns.map V.int
  | _, _, _, .nil, e => by cases e; rfl
  | _, _, _, .cons (d := d) h r, e => by
    cases d with
    | int i =>
      simp only [intsOf, Option.map_eq_some_iff] at e
      obtain ⟨ns, e, rfl⟩ := e
      cases h
      rw [intsOf_ok r e]
      rfl
    | _ => cases e
theorem rv_ints : ∀ (ns : List Int), RvAll c F io (ns.map V.int) (ns.map D.int)
  | [] => .nil
  | i :: r => .cons (.int i) (rv_ints r)
theorem rvf_keys : ∀ {vs : List (Str × V)} {ds : List (Str × D)}, RvF c F io vs ds → vs.map (·.1) = ds.map (·.1)
  | _, _, .nil => rfl
  | _, _, .cons _ r => by rw [List.map_cons, List.map_cons, rvf_keys r]
theorem pe_den_srtI (hK : X.K = c.K) (hc : X.calm = true) (hg : Gl X "sorted") (hm : X.mg "sorted" = none) (ha : PE X a (den c W fa)) (hn : notStar a = true) : PE X (.Call (.Name "sorted" p) [a] [] pos) (den c W (eSrtI fa)) := by
  have A1 : PA X [a] (tCons (den c W fa) tNil) := pa_cons ha pa_nil (star_cons hn)
  refine PE.weak (pe_callB (CallR.or cr_sorted (CallR.or cr_sortedS (call_sortedD hc))) hg hm (by decide +kernel) A1 (he := star_cons hn)) fun σ H Q h => op1_of (r := fun x H Q => rSorted X.K [x] H Q ∨ rSortedS X.K [x] H Q ∨ ∃ (a : Addr) (kvs : List (Key × V)) (ks : List Str), [x] = [.ref a] ∧ Rd H a (.dK kvs) ∧ kvs.map (·.1) = ks.map Sum.inr ∧ ks.length < 64 ∧ ∀ (ys : List Str) (p : Addr), ys.Perm ks → PyProof.Rows.sortedS ys = true → H p = none → Q (.ref p) (upd H p (.lst (ys.map V.str)))) ?_ h
  intro B F H io st rh σ x d t Q g hx hf ho
  cases d with
  | lst ds =>
    obtain ⟨p, vs, rfl, q1, r1⟩ := hx
    unfold srtA at hf
    simp only at hf
    split at hf
    · rename_i ns h1
      split at hf
      · rename_i h64
        cases hf
        refine .inl ⟨p, ns, rfl, .inl (.inl ?_), h64, fun ns' p' hp1 hp2 hp3 => ?_⟩
        · rw [← intsOf_ok r1 h1]; exact q1
        · rw [sorted_uniq (hp1.trans (srtI_perm ns).symm) hp2 (srtI_sorted ns)]
          exact ho.lst g (rv_ints _) p' hp3
      · cases hf
    · rw [Option.bind_eq_some_iff] at hf
      obtain ⟨xs, h1, hf⟩ := hf
      unfold srtSD at hf
      split at hf
      · rename_i h64
        cases hf
        refine .inr (.inl ⟨p, xs, rfl, .inl (.inl ?_), h64.1, fun ys p' hp1 hp2 hp3 => ?_⟩)
        · rw [← strsD_ok r1 h1]; exact q1
        · rw [srt_is hp2 hp1 h64.2]
          exact ho.lst g (rv_strs _) p' hp3
      · cases hf
  | loc n =>
    unfold srtA at hf
    simp only at hf
    cases hx with
    | loc hio =>
      split at hf
      · rename_i kvs hst
        unfold srtSD at hf
        split at hf
        · rename_i h64
          cases hf
          obtain ⟨vs, e1, r1⟩ := g.sim.ob n _ _ hio hst
          refine .inr (.inr ⟨_, _, kvs.map (·.1), rfl, .inl (g.sub _ _ e1), ?_, h64.1, fun ys p' hp1 hp2 hp3 => ?_⟩)
          · rw [← rvf_keys r1, List.map_map, List.map_map]
            rfl
          · rw [srt_is hp2 hp1 h64.2]
            exact ho.lst g (rv_strs _) p' hp3
        · cases hf
      · cases hf
  | _ => cases hf
end
end KL

namespace KL
open PySem L2

/-! ### list.index of flat items -/
def ixD (y : D) : List D → Option Nat
  | [] => none
  | d :: ds => if eqF d y then some 0 else (ixD y ds).map (· + 1)
theorem ixD_some {y : D} : ∀ {ds : List D} {j : Nat}, ixD y ds = some j → (∃ z, ds[j]? = some z ∧ eqF z y = true) ∧ ∀ m z, m < j → ds[m]? = some z → eqF z y = false
  | [], _, h => by cases h
  | d :: ds, j, h => by
    unfold ixD at h
    split at h
    · rename_i q
      cases h
      exact ⟨⟨d, rfl, q⟩, fun m z hm => by omega⟩
    · rename_i q
      rw [Option.map_eq_some_iff] at h
      obtain ⟨i, h, rfl⟩ := h
      obtain ⟨⟨z, h1, h2⟩, h3⟩ := ixD_some h
      refine ⟨⟨z, by simpa using h1, h2⟩, fun m w hm hw => ?_⟩
      cases m with
      | zero => simp at hw; subst hw; simpa using q
      | succ m => exact h3 m w (by omega) (by simpa using hw)
def ixP (y : PyData) : List PyData → Option Nat
  | [] => none
  | d :: ds => if PyData.eqv d y then some 0 else (ixP y ds).map (· + 1)
theorem ixP_some {y : PyData} : ∀ {ds : List PyData} {j : Nat}, ixP y ds = some j → (∃ z, ds[j]? = some z ∧ PyData.eqv z y = true) ∧ ∀ m z, m < j → ds[m]? = some z → PyData.eqv z y = false
  | [], _, h => by cases h
  | d :: ds, j, h => by
    unfold ixP at h
    split at h
    · rename_i q
      cases h
      exact ⟨⟨d, rfl, q⟩, fun m z hm => by omega⟩
    · rename_i q
      rw [Option.map_eq_some_iff] at h
      obtain ⟨i, h, rfl⟩ := h
      obtain ⟨⟨z, h1, h2⟩, h3⟩ := ixP_some h
      refine ⟨⟨z, by simpa using h1, h2⟩, fun m w hm hw => ?_⟩
      cases m with
      | zero => simp at hw; subst hw; simpa using q
      | succ m => exact h3 m w (by omega) (by simpa using hw)
def ixG (ds : List D) (y : D) : Option Nat := (toPys ds).bind fun ps => (toPy y).bind fun q => if SeqAt.shaped (.list ps) && SeqAt.shaped q then ixP q ps else none
def lixD (ds : List D) (y : D) : Option TV := if flatD y && ds.all flatD then (ixD y ds).map fun j => .d (.int (j : Nat)) else (ixG ds y).map fun j => .d (.int (j : Nat))
def eLix (fa fb : Sm) : Sm := fun rh st => (fa rh st).bind fun t1 st1 => if isL rh st1 t1 then (fb rh st1).bind fun t2 st2 => (match view rh st2 t1, view rh st2 t2 with
  | some (.lst ds), some y => (match lixD ds y with
    | some t => .ok t st2
    | none => .no)
  | _, _ => .no) else .no
/-- o.index(e): of a text or of a list -/
def eIndex (fa fb : Sm) : Sm := fun rh st => match fa rh st with
  | .ok (.d (.str _)) _ => eM_index fa fb rh st
  | _ => eLix fa fb rh st
section
variable {X : Cx} {c : Ct} {W : WX} {a b : Expr} {fa fb : Sm} {pos apos : Pos}
theorem lix_of (hK : X.K = c.K) {σ : St} {H : Hp} {Q : VK} (h : den c W (eLix fa fb) σ H Q) : tBM X.K "list" (fun x xs H Q => rIndex X.K x xs H Q ∨ rIndexD X.K x xs H Q) (den c W fa) (tCons (den c W fb) tNil) σ H Q := by
  obtain ⟨B, F, io, st, rh, g, p⟩ := h
  refine ⟨B, F, io, st, rh, g, Pst.bind g p fun t1 st1 x H1 F1 io1 e1 S1 g1 T1 p1 => ?_⟩
  have p1 : Pst c W F1 io1 rh σ H1 Q (if isL rh st1 t1 = true then (fb rh st1).bind fun t2 st2 => (match view rh st2 t1, view rh st2 t2 with
    | some (.lst ds), some y => (match lixD ds y with
      | some t => .ok t st2
      | none => .no)
    | _, _ => .no) else .no) := p1
  split at p1
  case isFalse => exact p1.elim
  rename_i hl
  obtain ⟨us, hv⟩ := isL_some hl
  obtain ⟨a0, vs0, e0, h0, _⟩ := view_ok g1 (T1.r g1.sim) hv
  refine ⟨by rw [e0]; exact tyV_list h0, B, F1, io1, st1, rh, g1, Pst.bind g1 p1 fun t2 st2 y H2 F2 io2 e2 S2 g2 T2 p2 => ?_⟩
  cases h1 : view rh st2 t1 with
  | none => rw [h1] at p2; exact p2.elim
  | some dl =>
    cases h2 : view rh st2 t2 with
    | none => rw [h1, h2] at p2; cases dl <;> exact p2.elim
    | some dy =>
      rw [h1, h2] at p2
      cases dl with
      | lst ds =>
        have p2 : Pst c W F2 io2 rh σ H2 Q (match lixD ds dy with
          | some t => .ok t st2
          | none => .no) := p2
        cases hx : lixD ds dy with
        | none => rw [hx] at p2; exact p2.elim
        | some t =>
          rw [hx] at p2
          unfold lixD at hx
          split at hx
          · rename_i hfl
            rw [Bool.and_eq_true] at hfl
            rw [Option.map_eq_some_iff] at hx
            obtain ⟨j, hx, rfl⟩ := hx
            obtain ⟨a', vs, ex, ha, r⟩ := view_ok g2 ((T1.r g1.sim).step S2 g1.sub) h1
            have ry := (view_ok g2 (T2.r g2.sim) h2).flat hfl.1
            obtain ⟨⟨z, k1, k2⟩, k3⟩ := ixD_some hx
            obtain ⟨v, q1, q2⟩ := r.get k1
            have fz : ∀ m w, ds[m]? = some w → flatD w = true := fun m w hw => List.all_eq_true.mp hfl.2 w (List.mem_of_getElem? hw)
            refine .inl ⟨a', vs, y, j, v, ex, rfl, SqL.of ha, ry.flat hfl.1, r.flats hfl.2, q1, by rw [q2.eqf ry (fz _ _ k1) hfl.1]; exact k2, fun m z' hm hz => ?_, (Pst.out g2 p2).same g2.sub (.int _)⟩
            have hlt : m < ds.length := by
              have := (List.getElem?_eq_some_iff.mp hz).1
              rw [r.length] at this
              exact this
            obtain ⟨v2, q3, q4⟩ := r.get (List.getElem?_eq_getElem hlt)
            rw [hz] at q3
            cases q3
            rw [q4.eqf ry (fz _ _ (List.getElem?_eq_getElem hlt)) hfl.1]
            exact k3 m _ hm (List.getElem?_eq_getElem hlt)
          · rw [Option.map_eq_some_iff] at hx
            obtain ⟨j, hx, rfl⟩ := hx
            unfold ixG at hx
            rw [Option.bind_eq_some_iff] at hx
            obtain ⟨ps, e1, hx⟩ := hx
            rw [Option.bind_eq_some_iff] at hx
            obtain ⟨q, e2, hx⟩ := hx
            split at hx
            · rename_i hc
              rw [Bool.and_eq_true] at hc
              obtain ⟨⟨z, k1, k2⟩, k3⟩ := ixP_some hx
              have rl := view_ok g2 ((T1.r g1.sim).step S2 g1.sub) h1
              have ry := view_ok g2 (T2.r g2.sim) h2
              obtain ⟨a', vs, ex, ha, r⟩ := id rl
              refine .inr ⟨a', y, q, ps, j, z, ex, rfl, ?_, ?_, hc.1, hc.2, k1, k2, k3, (Pst.out g2 p2).same g2.sub (.int _)⟩
              · rw [← ex, hK]
                exact Vw.dp (d := .lst ds) g2.sub rl (by simp [toPy, e1])
              · rw [hK]
                exact Vw.dp g2.sub ry e2
            · cases hx
      | _ => exact p2.elim
theorem MtR.or {id : String} {r1 r2 : V → List V → Hp → VK → Prop} (h1 : MtR X id r1) (h2 : MtR X id r2) : MtR X id (fun x xs H Q => r1 x xs H Q ∨ r2 x xs H Q) := fun pins s σ H x xs v us Q I rx rxs h => h.elim (h1 pins s σ H x xs v us Q I rx rxs) (h2 pins s σ H x xs v us Q I rx rxs)
theorem pe_den_ix (hK : X.K = c.K) (hu : X.A.units + 65 < cLine) (ha : PE X a (den c W fa)) (hb : PE X b (den c W fb)) (hn : notStar b = true) (hp : plainBase a = true) (hl : (apos.endLine == pos.line) = true) : PE X (.Call (.Attribute a "index" apos) [b] [] pos) (den c W (eIndex fa fb)) := by
  refine PE.weak (PE.or (pe_den_index ha hb hn hp hl) (pe_bm PySem.F.plainAttrs_list PySem.F.slot_list_index PySem.F.type_list_index (MtR.or mt_index (mt_indexD hu)) ha (pa_cons hb pa_nil (star_cons hn)) (plainBase_ok hp) (few1 hn) hl (star_cons hn) rfl)) fun σ H Q ⟨B, F, io, st, rh, g, p⟩ => ?_
  unfold eIndex at p
  split at p
  · exact .inl ⟨B, F, io, st, rh, g, p⟩
  · exact .inr (lix_of hK ⟨B, F, io, st, rh, g, p⟩)
end
end KL

namespace KL
open PySem L2

/-! ### some pinned objects left out, and brought back -/
open Classical in
noncomputable def del (H : Hp) (S : Addr → Prop) : Hp := fun a => if S a then none else H a
open Classical in
noncomputable def mrg (H0 H : Hp) (S : Addr → Prop) : Hp := fun a => if S a then H a else H0 a
section
variable {H H0 H' F F' F0 : Hp} {S : Addr → Prop} {a b : Addr} {o : HO}
theorem del_in (h : S a) : del H S a = none := by unfold del; rw [if_pos h]
theorem del_out (h : ¬ S a) : del H S a = H a := by unfold del; rw [if_neg h]
theorem del_some (e : del H S a = some o) : H a = some o ∧ ¬ S a := by
  by_cases h : S a
  · rw [del_in h] at e; cases e
  · rw [del_out h] at e; exact ⟨e, h⟩
theorem mrg_in (h : S a) : mrg H0 H S a = H a := by unfold mrg; rw [if_pos h]
theorem mrg_out (h : ¬ S a) : mrg H0 H S a = H0 a := by unfold mrg; rw [if_neg h]
/-- all of S are pinned -/
def Pnd (S : Addr → Prop) (H : Hp) : Prop := ∀ a, S a → ∃ co, H a = some (PinO a co)
theorem Pnd.ne (h : Pnd S H) (e : H a = some o) (hx : ∀ φ, o ≠ .ext φ) : ¬ S a := fun z => by
  obtain ⟨co, q⟩ := h a z
  rw [e] at q
  exact hx _ (Option.some.inj q)
theorem Pnd.at {P : Program} {w : World} {h : Heap} (x : HOk P w H h) {co : Obj} (e : H a = some (PinO a co)) : h.get? a = some co := (x a _ e).1
variable {P : Program} {w : World} {h h' : Heap}
theorem hok_del (x : HOk P w H h) (hp : Pnd S H) : HOk P w (del H S) h := fun a o e => by
  obtain ⟨e, na⟩ := del_some e
  exact (x a o e).stay (fun _ _ _ q => q) (fun b q => by rw [del_out (hp.ne q (fun φ z => by cases z))]; exact q) fun b xs q => by rw [del_out (hp.ne q (fun φ z => by cases z))]; exact q
theorem pin_ok {co : Obj} (e : h.get? a = some co) : ObjOk P w H h a (PinO a co) := ⟨e, ⟨co, e⟩, fun _ _ q st => st _ q⟩
theorem hok_mrg (x : HOk P w H' h') (hS : ∀ a, S a → H' a = none) (hp : ∀ a, S a → ∃ co, H a = some (PinO a co) ∧ h'.get? a = some co) : HOk P w (mrg H' H S) h' := fun a o e => by
  by_cases z : S a
  · rw [mrg_in z] at e
    obtain ⟨co, q1, q2⟩ := hp a z
    rw [q1] at e
    cases e
    exact pin_ok q2
  · rw [mrg_out z] at e
    have ns : ∀ b u, H' b = some u → ¬ S b := fun b u q r => by rw [hS b r] at q; cases q
    exact (x a o e).stay (fun _ _ _ q => q) (fun b q => by rw [mrg_out (ns b _ q)]; exact q) fun b xs q => by rw [mrg_out (ns b _ q)]; exact q
theorem env0_del {K : PySem.W.Frag} {mg : Str → Option Value} {base : Heap} {A : Around} {outer : List Env} {s : Shared} (e : Env0 P w K mg base A outer s H) (hp : Pnd S H) : Env0 P w K mg base A outer s (del H S) :=
  ⟨e.frames, e.mod, fun b o q => ⟨(e.bs b o q).1, by
    by_cases z : S b
    · exact del_in z
    · rw [del_out z]; exact (e.bs b o q).2⟩, e.bsz, e.funs, fun b hb => by
    by_cases z : S b
    · exact del_in z
    · rw [del_out z]; exact e.frf b hb, hok_del e.hok hp, e.bare⟩
/-- a call's end, told with the pinned objects again -/
theorem ce_mrg {outer : List Env} {s s' : Shared} {Q : VK} {u : Value} (hok0 : HOk P w H s.heap) (frf : ∀ b ∈ frs outer, H b = none) (hp : Pnd S H) (h : CE outer P w (del H S) s (fun v H' => (∀ a, S a → H' a = none) → Q v (mrg H' H S)) u s') : CE outer P w H s Q u s' := by
  obtain ⟨v, H', os, bare, un, hok, rv, q⟩ := h
  have hS : ∀ a, S a → H' a = none := fun a z => by
    obtain ⟨co, e⟩ := hp a z
    exact un.free a co (Pnd.at hok0 e) (del_in z) (by simp)
  have hn : ∀ b, H b = none → ¬ S b := fun b e z => by
    obtain ⟨co, q⟩ := hp b z
    rw [e] at q; cases q
  have d0 : ∀ b, H b = none → del H S b = none := fun b e => by rw [del_out (hn b e)]; exact e
  have ns : ∀ b u, H' b = some u → ¬ S b := fun b u q r => by rw [hS b r] at q; cases q
  refine ⟨v, mrg H' H S, os, bare, ⟨fun b o e n hb hx => un.keep b o e (d0 b n) hb hx, fun b o e n hb hx => un.slot b o e (d0 b n) hb hx, fun b o e n hx => by rw [mrg_out (hn b n)]; exact un.free b o e (d0 b n) hx, fun b o e hx => un.there b o e hx,
    fun b xs e => ?_, fun b o xs e => ?_, fun b ps e => ?_⟩, hok_mrg hok hS (fun a z => ?_), rv, q hS⟩
  · have nb := hp.ne e (fun φ z => by cases z)
    rw [mrg_out nb]
    exact un.tups b xs (by rw [del_out nb]; exact e)
  · have nb := hp.ne e (fun φ z => by cases z)
    rw [mrg_out nb]
    exact un.frzs b o xs (by rw [del_out nb]; exact e)
  · have nb := hp.ne e (fun φ z => by cases z)
    rw [mrg_out nb]
    exact un.tbls b ps (by rw [del_out nb]; exact e)
  · obtain ⟨co, e⟩ := hp a z
    exact ⟨co, e, un.keep a co (Pnd.at hok0 e) (del_in z) (fun hb => by rw [frf a hb] at e; cases e) (by simp)⟩
theorem cx_mrg {outer : List Env} {s s' : Shared} {E : XK} {u : Value} (hok0 : HOk P w H s.heap) (frf : ∀ b ∈ frs outer, H b = none) (hp : Pnd S H) (h : L2N.CX P w outer (del H S) s (fun cls d H' => (∀ a, S a → H' a = none) → E cls d (mrg H' H S)) u s') : L2N.CX P w outer H s E u s' := by
  obtain ⟨a, B, H', cls, d, rfl, fl, hok, ub, na, os, ag, hE⟩ := h
  have hS : ∀ a, S a → H' a = none := fun a z => by
    obtain ⟨co, e⟩ := hp a z
    exact ub.free a co (Pnd.at hok0 e) (del_in z)
  have hn : ∀ b, H b = none → ¬ S b := fun b e z => by
    obtain ⟨co, q⟩ := hp b z
    rw [e] at q; cases q
  have d0 : ∀ b, H b = none → del H S b = none := fun b e => by rw [del_out (hn b e)]; exact e
  have kp : ∀ a, S a → ∃ co, H a = some (PinO a co) ∧ B.get? a = some co := fun a z => by
    obtain ⟨co, e⟩ := hp a z
    exact ⟨co, e, ub.keep a co (Pnd.at hok0 e) (del_in z) (fun hb => by rw [frf a hb] at e; cases e)⟩
  refine ⟨a, B, mrg H' H S, cls, d, rfl, fl, hok_mrg hok hS kp, ⟨fun b o e n hb => ub.keep b o e (d0 b n) hb, ub.slot, fun b o e n => by rw [mrg_out (hn b n)]; exact ub.free b o e (d0 b n), ub.there, fun b xs e => ?_, fun b o xs e => ?_, fun b ps e => ?_⟩, ?_, os, ag, hE hS⟩
  · have nb := hp.ne e (fun φ z => by cases z)
    rw [mrg_out nb]
    exact ub.tups b xs (by rw [del_out nb]; exact e)
  · have nb := hp.ne e (fun φ z => by cases z)
    rw [mrg_out nb]
    exact ub.frzs b o xs (by rw [del_out nb]; exact e)
  · have nb := hp.ne e (fun φ z => by cases z)
    rw [mrg_out nb]
    exact ub.tbls b ps (by rw [del_out nb]; exact e)
  · rw [mrg_out (fun z => ?_)]
    · exact na
    · obtain ⟨co, _, e⟩ := kp a z
      have n := fl.2.1
      rw [e] at n
      cases n
end

/-! ### data do not lean on pinned objects -/
section
variable {c : Ct} {F F0 H : Hp} {io : List Addr} {st : Sto}
mutual
theorem Rv.nx (hf : ∀ a o, F a = some o → (∀ φ, o ≠ .ext φ) → F0 a = some o) : ∀ {v : V} {d : D}, Rv c F io v d → Rv c F0 io v d
  | _, _, .non => .non
  | _, _, .bl b => .bl b
  | _, _, .int i => .int i
  | _, _, .str x => .str x
  | _, _, .tup h r => .tup (h.imp (fun ⟨o, h1, h2, h3⟩ => ⟨o, hf _ _ h1 (fun φ z => by cases z), h2, h3⟩) id) (RvAll.nx hf r)
  | _, _, .raw h n r => .raw (hf _ _ h (fun φ z => by cases z)) n (RvAll.nx hf r)
  | _, _, .lst h n r => .lst (hf _ _ h (fun φ z => by cases z)) n (RvAll.nx hf r)
  | _, _, .loc h => .loc h
  | _, _, .scr h => .scr (h.imp (fun ⟨h, n⟩ => by
      rcases h with h | ⟨o, h⟩
      · exact ⟨.inl (hf _ _ h (fun φ z => by cases z)), n⟩
      · exact ⟨.inr ⟨o, hf _ _ h (fun φ z => by cases z)⟩, n⟩) id)
theorem RvAll.nx (hf : ∀ a o, F a = some o → (∀ φ, o ≠ .ext φ) → F0 a = some o) : ∀ {vs : List V} {ds : List D}, RvAll c F io vs ds → RvAll c F0 io vs ds
  | _, _, .nil => .nil
  | _, _, .cons h r => .cons (Rv.nx hf h) (RvAll.nx hf r)
end
theorem RvF.nx {κ : Type} (hf : ∀ a o, F a = some o → (∀ φ, o ≠ .ext φ) → F0 a = some o) : ∀ {vs : List (κ × V)} {ds : List (κ × D)}, RvF c F io vs ds → RvF c F0 io vs ds
  | _, _, .nil => .nil
  | _, _, .cons h r => .cons (h.nx hf) (RvF.nx hf r)
theorem Ob.nx (hf : ∀ a o, F a = some o → (∀ φ, o ≠ .ext φ) → F0 a = some o) {a : Addr} {o : O} (h : Ob c F io a o) : Ob c F0 io a o := by
  cases o with
  | lst ds => obtain ⟨vs, e, r⟩ := h; exact ⟨vs, hf _ _ e (fun φ z => by cases z), r.nx hf⟩
  | dct lk kvs => cases lk with
    | false => obtain ⟨vs, e, r⟩ := h; exact ⟨vs, hf _ _ e (fun φ z => by cases z), r.nx hf⟩
    | true => obtain ⟨ob, vs, e, r⟩ := h; exact ⟨ob, vs, hf _ _ e (fun φ z => by cases z), r.nx hf⟩
  | lsk ds => obtain ⟨ob, vs, e, r⟩ := h; exact ⟨ob, vs, hf _ _ e (fun φ z => by cases z), r.nx hf⟩
  | dcT lk kvs => obtain ⟨ob, xs, vs, e, z, p, rk, r⟩ := h; exact ⟨ob, xs, vs, hf _ _ e (fun φ z => by cases z), z, p, rk.nx hf, r.nx hf⟩
  | ins C fs => obtain ⟨dx, vs, e, e2, e3, k, r⟩ := h; exact ⟨dx, vs, hf _ _ e (fun φ z => by cases z), hf _ _ e2 (fun φ z => by cases z), e3, k, r.nx hf⟩
theorem Sim.nx (hf : ∀ a o, F a = some o → (∀ φ, o ≠ .ext φ) → F0 a = some o) (h : Sim c F io st) : Sim c F0 io st := ⟨h.len, h.nd, fun n a o e1 e2 => (h.ob n a o e1 e2).nx hf⟩
end
/-- what follows with the pinned objects left out gives what follows with them -/
theorem stp_mrg {c : Ct} {F H F' H' : Hp} {io io' : List Addr} {st' : Sto} {S : Addr → Prop} (hs : ∀ a o, F a = some o → H a = some o) (hp : Pnd S H) (hF : ∀ a, S a → F a ≠ none) (t0 : LamX.Tabs c.T (del H S)) (T : Stp c (del F S) io (del H S) F' io' H') (s' : Sim c F' io' st') (hS : ∀ a, S a → H' a = none) :
    Stp c F io H (mrg F' F S) io' (mrg H' H S) ∧ Sim c (mrg F' F S) io' st' ∧ ∀ v d, Rv c F' io' v d → Rv c (mrg F' F S) io' v d := by
  have hF' : ∀ a, S a → F' a = none := fun a z => by
    cases q : F' a with
    | none => rfl
    | some o => have := T.sub a o q; rw [hS a z] at this; cases this
  have nio : ∀ a, a ∈ io' → ¬ S a := fun a h z => s'.dom h (hF' a z)
  have mF : ∀ a o, F' a = some o → mrg F' F S a = some o := fun a o e => by rw [mrg_out (fun z => by rw [hF' a z] at e; cases e)]; exact e
  have mH : ∀ a o, H' a = some o → mrg H' H S a = some o := fun a o e => by rw [mrg_out (fun z => by rw [hS a z] at e; cases e)]; exact e
  refine ⟨⟨fun a o e => ?_, T.ext, fun a o e n => ?_, fun a e => ?_, fun a o e n ht => ?_, fun a e => ?_, fun a h => ?_, fun _ => (T.tab t0).ext mH, fun h0 a ps e => ?_, fun a o u e => by
    by_cases z : S a
    · rw [mrg_in z]; exact e
    · rw [mrg_out z]; exact T.lck a o u (by rw [del_out z]; exact e)⟩, s'.more mF, fun v d r => r.more mF⟩
  · by_cases z : S a
    · rw [mrg_in z] at e ⊢; exact hs a o e
    · rw [mrg_out z] at e ⊢; exact T.sub a o e
  · by_cases z : S a
    · rw [mrg_in z]; exact e
    · rw [mrg_out z]; exact T.per a o (by rw [del_out z]; exact e) n
  · by_cases z : S a
    · exact .inl (hF a z)
    · rw [mrg_out z] at e
      rcases T.new a e with q | q
      · rw [del_out z] at q; exact .inl q
      · rw [del_out z] at q; exact .inr q
  · by_cases z : S a
    · rw [mrg_in z]; exact e
    · rw [mrg_out z]; exact T.fr a o (by rw [del_out z]; exact e) n ht
  · by_cases z : S a
    · rw [mrg_in z] at e; exact e
    · rw [mrg_out z] at e
      have q := T.gro a e
      rw [del_out z] at q
      exact q
  · rcases T.nio a h with q | q
    · exact .inl q
    · rw [del_out (nio a h)] at q; exact .inr q
  · by_cases z : S a
    · rw [mrg_in z] at e; exact h0 a ps e
    · rw [mrg_out z] at e
      exact T.ntb (fun b qs q => h0 b qs (del_some q).1) a ps e
end KL

namespace KL
open PySem L2

/-! ### a lambda's body -/
/-- the lambda's promise: its function on data (parameters, then what it captured) -/
structure LamOk (P : Program) (w : World) (c : Ct) (mg : Str → Option Value) (base : Heap) (k : Nat) (ld : LamD) (G : List D → Sto → R D) : Prop where
  run : ∀ (A : Around) (outer : List Env) (s : Shared) (H : Hp) (f c' : Addr) (cl : List (Str × Addr)) (pm ctv : Value) (us : List Value) (vs ws : List V) (Q : VK) (E : XK), Room k A → Env0 P w c.K mg base A outer s H → s.heap.get? f = some (lamObj ld cl pm c' ctv) → s.heap.CodeRec (.ref c') ld.qual →
    NdefX.CellsAt cl ld.fr (ws.map some) s.heap H → Vals vs us → vs.length = ld.ps.length → spM c (ld.ps.length + ld.fr.length) G (vs ++ ws) H Q E → codeAny (model P w) A (.call (.ref f) ⟨us, []⟩) (CR (L2N.CX P w) outer P w H s Q E) s
/-- the context of a lambda's body -/
structure BdyL (X : Cx) (P : Program) (w : World) (c : Ct) (mg : Str → Option Value) (base : Heap) (N : List Str) (scope : Scope) (k : Nat) (W : WX) : Prop where
  prog : X.prog = P
  w : X.w = w
  mg : X.mg = mg
  base : X.base = base
  N : X.N = N
  sc : X.env.scope = scope
  ok : Cok X c W
  room : Room k X.A
section
variable {P : Program} {w : World} {c : Ct} {mg : Str → Option Value} {base : Heap} {ld : LamD}
theorem startF_at {N : List Str} {vs ws : List V} {i : Nat} {v : V} (h : (vs ++ ws)[i]? = some v) : (NdefX.startF N vs (ws.map some))[i]? = some (some v) := by
  unfold NdefX.startF
  rw [← List.append_assoc, ← List.map_append]
  have hi : i < (vs ++ ws).length := (List.getElem?_eq_some_iff.mp h).1
  rw [List.getElem?_append_left (by rw [List.length_map]; exact hi), List.getElem?_map, h]
  rfl
theorem lam_den {k : Nat} {fe : Sm} (S : NdefX.NScope (ld.ps ++ ld.fr) ld.ps ld.fr ld.scope) (hbind : ∀ (cl : List (Str × Addr)) (pm cv ctv : Value) (us : List Value), us.length = ld.ps.length → bindArgs (PySem.W.kla_fn "<lambda>" ld.qual ld.params ld.body ld.scope cl pm cv ctv) ⟨us, []⟩ = pure (ld.ps.zip us))
    (hB : ∀ (X : Cx) (W : WX), BdyL X P w c mg base (ld.ps ++ ld.fr) ld.scope k W → PE X ld.body (den c W fe)) : LamOk P w c mg base (k + 1) ld (fnR (ld.ps ++ ld.fr).length (sRet fe)) := by
  refine ⟨fun A outer s H f c' cl pm ctv us vs ws Q E hr e0 hf hcd C r hlv hsp => ?_⟩
  obtain ⟨hl, F, io, st, ds, hs, htab, hnt, sm, rr, p⟩ := hsp
  have lim : s.heap.NoLimit := e0.mod.nolimit.keeps fun b o e => (e0.bs b o e).1
  refine PySem.W.kla_callFunE hr.depth hf rfl S.co S.gen rfl hcd ?_
  rw [hbind cl pm (.ref c') ctv us (by rw [← r.length]; exact hlv)]
  refine wpAny_pure (wpAny_newFunctionEnv S.nocell (fun ⟨n, _⟩ hy => S.par n (List.of_mem_zip hy).1) (fun h₁ hns hsb => ⟨lim.fresh _ hsb, ?_⟩) S.kind)
  have kp : ∀ b o, s.heap.get? b = some o → h₁.get? b = some o := fun b o e => hsb.extBut b o (Nat.ne_of_lt (Heap.lt_size e)) (Heap.get?_push_of_some _ e)
  have J : Inv (NdefX.ncx (L2N.CX P w) P w c.K mg base (ld.ps ++ ld.fr) ⟨"<lambda>", ld.qual, ld.params, [], ld.scope, cl, c'⟩ f A outer s H E) [] (NdefX.startF (ld.ps ++ ld.fr) vs (ws.map some)) H { s with heap := h₁, toks := s.toks + (ld.ps.zip us).length } :=
    NdefX.inv_startN S hr.hd e0 hlv r C hns kp
  have B := hB (NdefX.ncx (L2N.CX P w) P w c.K mg base (ld.ps ++ ld.fr) ⟨"<lambda>", ld.qual, ld.params, [], ld.scope, cl, c'⟩ f A outer s H E) (fun cls d _ H => E cls d H)
    ⟨rfl, rfl, rfl, rfl, rfl, rfl, ⟨rfl, S.nd, rfl, units65 (hr.deeper _), L2N.takes_of rfl rfl rfl rfl⟩, hr.deeper _⟩
  have hlen : (NdefX.startF (ld.ps ++ ld.fr) vs (ws.map some)).length = (ld.ps ++ ld.fr).length := J.len
  have g0 : Good c ⟨F, io, H⟩ F io st (rho0 (ld.ps ++ ld.fr).length ds) (NdefX.startF (ld.ps ++ ld.fr) vs (ws.map some)) H := by
    refine good_of hs htab hnt sm hlen (by rw [← rr.length, hl, List.length_append]; exact Nat.le_refl _) fun i d e => ?_
    obtain ⟨v, e1, q⟩ := rr.get e
    exact ⟨v, startF_at e1, q⟩
  have hd : den c (fun cls d _ H => E cls d H) fe (NdefX.startF (ld.ps ++ ld.fr) vs (ws.map some)) H Q := by
    refine ⟨⟨F, io, H⟩, F, io, st, _, g0, ?_⟩
    unfold fnR sRet sThen at p
    cases hb : fe (rho0 (ld.ps ++ ld.fr).length ds) st with
    | no => rw [hb] at p; exact p.elim
    | ex e st' =>
      rw [hb] at p
      intro H' F' io' S' s'
      obtain ⟨io2, S2, s2, r2⟩ := cut_ok (v := .non) (d := .non) S' s' sm.len .non
      exact p H' F' io2 S2 s2
    | ok t st' =>
      rw [hb] at p
      intro v H' F' io' S' s' T
      cases t with
      | d d =>
        obtain ⟨io2, S2, s2, r2⟩ := cut_ok S' s' sm.len (show Rv c F' io' v d from T)
        exact p v H' F' io2 S2 s2 r2
      | fr us =>
        obtain ⟨F2, S2, s2, r2⟩ := Tvs.give S' s' T rfl
        obtain ⟨io3, S3, s3, r3⟩ := cut_ok S2 s2 sm.len r2
        exact p v H' F2 io3 S3 s3 r3
      | o i =>
        exfalso
        obtain ⟨⟨us, e1⟩, _⟩ := T
        obtain ⟨d', _, e2⟩ := rho0_at e1
        exact cellD_own e2
  refine PySem.W.kla_codeExpr (wpAny_mono (B.run [] _ _ H Q J hd) (fun v s' hq => ?_) fun e s' hq => hq)
  obtain ⟨w', H', J', rv, q⟩ := hq
  exact ⟨w', H', J'.os, J'.bare, J'.base, J'.hok, rv, q⟩
end

/-! ### a closure called -/
def capAt (rh : Rho) (i : Nat) : Option (Nat × List D) := match rh[i]? with
  | some (some (.clo t cs)) => some (t, cs)
  | _ => none
/-- ls: the lambdas' names in the table -/
def eCallV (ls : List Str) (G : Tbl) (i : Nat) (fs : List Sm) : Sm := fun rh st => match capAt rh i with
  | some (t, cs) => (match ls[t]? with
    | some g => (eArgs fs rh st).bind fun ds st1 => (G g (ds ++ cs) st1).bind fun d st2 => .ok (.d d) st2
    | none => .no)
  | none => .no
/-- the cells that a closure holds -/
def Cls1 (cl : List (Str × Addr)) : Addr → Prop := fun a => ∃ y, cl.lookup y = some a
section
variable {X : Cx} {c : Ct} {W : WX} {B : Bs} {F F' F1 F2 H H' H1 : Hp} {io io' io1 io2 : List Addr} {st st' st1 : Sto} {rh : Rho} {σ : St} {v : V} {t : TV} {d : D} {a b e o : Expr} {es : List Expr} {fa fb fo fe fk : Sm} {fs : List Sm} {pos p apos : Pos} {cl : List (Str × Addr)}
theorem CapR.pnd : ∀ {ys : List Str} {ds : List D}, CapR c F io cl ys ds → ∀ y ∈ ys, ∃ a co u, cl.lookup y = some a ∧ F a = some (PinO a co) ∧ co.data = .cell (some u)
  | _, _, .nil, y, h => by simp at h
  | _, _, .cons h1 h2 _ h4 _ _ r, y, h => by
    rcases List.mem_cons.mp h with e | h
    · subst e; exact ⟨_, _, _, h1, h2, h4⟩
    · exact CapR.pnd r y h
theorem CapR.vals : ∀ {ys : List Str} {ds : List D}, CapR c F io cl ys ds → ∃ ws : List V, ws.length = ys.length ∧ RvAll c F io ws ds ∧ ∀ (i : Nat) (y : Str), ys[i]? = some y → ∃ a co u v, cl.lookup y = some a ∧ F a = some (PinO a co) ∧ co.data = .cell (some u) ∧ ws[i]? = some v ∧ RelV v u
  | _, _, .nil => ⟨[], rfl, .nil, fun i y e => by simp at e⟩
  | _, _, .cons h1 h2 _ h4 h5 h6 r => by
    obtain ⟨ws, hl, hr, hk⟩ := CapR.vals r
    refine ⟨_ :: ws, by simp [hl], .cons h6 hr, fun i y e => ?_⟩
    cases i with
    | zero => simp at e; subst e; exact ⟨_, _, _, _, h1, h2, h4, rfl, h5⟩
    | succ i =>
      obtain ⟨a, co, u, v, q1, q2, q3, q4, q5⟩ := hk i y (by simpa using e)
      exact ⟨a, co, u, v, q1, q2, q3, by simpa using q4, q5⟩
theorem tabs_del {T : List (Addr × Str)} {S : Addr → Prop} {P : Program} {w : World} {h : Heap} (t : LamX.Tabs T H) (x : HOk P w H h) (hp : ∀ a, S a → ∃ co u, H a = some (PinO a co) ∧ co.data = .cell u) : LamX.Tabs T (del H S) := by
  intro q hq
  obtain ⟨ps, a1, a2, a3⟩ := t q hq
  refine ⟨ps, ?_, a2, fun pos cv hc => ?_⟩
  · rw [del_out (fun z => ?_)]
    · exact a1
    · obtain ⟨co, u, e, _⟩ := hp _ z
      rw [a1] at e
      unfold PinO at e
      cases e
  · obtain ⟨c0, e1, e2⟩ := a3 pos cv hc
    refine ⟨c0, e1, ?_⟩
    rw [del_out (fun z => ?_)]
    · exact e2
    · obtain ⟨co, u, e, hd⟩ := hp _ z
      obtain ⟨⟨oc, vs, t, q1, q2, _⟩, _⟩ := x _ _ e2
      have q3 := Pnd.at x e
      rw [q1] at q3
      cases q3
      rw [hd] at q2
      cases q2
/-- the closure runs: its cells are left out meanwhile -/
theorem run_clo {k t : Nat} {cs ds : List D} {vs : List V} {us : List Value} {ld : LamD} {G : List D → Sto → R D} {pins : List (Addr × Obj)} {s : Shared} {Q : VK} (C0 : Cok X c W) (I : Inv X pins σ H s) (g : Good c B F io st rh σ H) (ok : LamOk X.prog X.w c X.mg X.base k ld G) (hr : Room k X.A) (hK : X.K = c.K) (hld : c.L[t]? = some ld)
    (hc : Rc c F io v t cs) (r : Vals vs us) (rv : RvAll c F io vs ds) (hlv : vs.length = ld.ps.length) (p : Pst c W F io rh σ H Q ((G (ds ++ cs) st).bind fun d st2 => .ok (.d d) st2)) :
    ∃ f, v = .ref f ∧ wpAny (model X.prog X.w) X.A (call (.ref f) us) (EP X pins σ Q) X.xe s := by
  obtain ⟨ld', f, c', cl, pm, ctv, rfl, q2, q3, q4, q5, q6, inj, sub, cap⟩ := hc
  rw [hld] at q2
  cases q2
  refine ⟨f, rfl, ?_⟩
  obtain ⟨ws, hlw, rws, hat⟩ := cap.vals
  have hcell : ∀ a, Cls1 cl a → ∃ co u, H a = some (PinO a co) ∧ co.data = .cell (some u) := fun a ⟨y, e⟩ => by
    obtain ⟨a', co, u, e1, e2, e3⟩ := cap.pnd y (sub y a e)
    rw [e] at e1
    cases e1
    exact ⟨co, u, g.sub _ _ e2, e3⟩
  have hp : Pnd (Cls1 cl) H := fun a z => let ⟨co, u, e, _⟩ := hcell a z; ⟨co, e⟩
  have hF : ∀ a, Cls1 cl a → F a ≠ none := fun a ⟨y, e⟩ => by
    obtain ⟨a', co, u, e1, e2, e3⟩ := cap.pnd y (sub y a e)
    rw [e] at e1
    cases e1
    rw [e2]
    simp
  have t1 : LamX.Tabs c.T H := g.stp.tab g.btab
  have t0 : LamX.Tabs c.T (del H (Cls1 cl)) := tabs_del t1 I.hok fun a z => let ⟨co, u, e, h⟩ := hcell a z; ⟨co, _, e, h⟩
  have hf : ∀ a o, F a = some o → (∀ φ, o ≠ .ext φ) → del F (Cls1 cl) a = some o := fun a o e hx => by rw [del_out (hp.ne (g.sub _ _ e) hx)]; exact e
  have fo : s.heap.get? f = some (lamObj ld cl pm c' ctv) := Pnd.at I.hok (g.sub _ _ q3)
  have co : s.heap.CodeRec (.ref c') ld.qual := NdefX.codeO_at I.hok (g.sub _ _ q5)
  have CA : NdefX.CellsAt cl ld.fr (ws.map some) s.heap (del H (Cls1 cl)) := by
    refine ⟨by rw [List.length_map, hlw], fun y a e => ?_, inj, fun i y e => ?_⟩
    · obtain ⟨co, u, e1, e2⟩ := hcell a ⟨y, e⟩
      exact ⟨del_in ⟨y, e⟩, some u, co, Pnd.at I.hok e1, e2⟩
    · obtain ⟨a, co, u, v, e1, e2, e3, e4, e5⟩ := hat i y e
      refine ⟨a, e1, fun v' e6 => ?_⟩
      rw [List.getElem?_map, e4] at e6
      cases e6
      exact ⟨u, e5, co, Pnd.at I.hok (g.sub _ _ e2), e3⟩
  have sp : spM c (ld.ps.length + ld.fr.length) G (vs ++ ws) (del H (Cls1 cl)) (fun v H' => (∀ a, Cls1 cl a → H' a = none) → Q v (mrg H' H (Cls1 cl))) (fun cls d H' => (∀ a, Cls1 cl a → H' a = none) → W cls d σ (mrg H' H (Cls1 cl))) := by
    refine ⟨by rw [List.length_append, hlv, hlw], del F (Cls1 cl), io, st, ds ++ cs, fun a o e => ?_, t0, fun a ps e => g.stp.ntb g.bnt a ps (del_some e).1, g.sim.nx hf, RvAs.of ((rv.nx hf).append (rws.nx hf)), ?_⟩
    · obtain ⟨e, n⟩ := del_some e
      rw [del_out n]
      exact g.sub a o e
    · cases hG : G (ds ++ cs) st with
      | no => rw [hG] at p; exact p.elim
      | ex x st' =>
        rw [hG] at p
        intro H' F' io' T s' hS
        obtain ⟨T2, s2, _⟩ := stp_mrg g.sub hp hF t0 T s' hS
        exact p _ _ _ T2 s2
      | ok d st' =>
        rw [hG] at p
        intro v H' F' io' T s' rv' hS
        obtain ⟨T2, s2, k2⟩ := stp_mrg g.sub hp hF t0 T s' hS
        exact p v _ _ _ T2 s2 (k2 v d rv')
  have e0 : Env0 X.prog X.w c.K X.mg X.base X.A X.stack s H := by rw [← hK]; exact I.env0
  refine wpAny_call (codeAny_mono (ok.run X.A X.stack s (del H (Cls1 cl)) f c' cl pm ctv us vs ws _ _ hr (env0_del e0 hp) fo co CA r hlv sp) fun r s' hq => ?_)
  cases r with
  | error e => exact L2N.passAt C0.tk σ pins H s e s' I (cx_mrg I.hok e0.frf hp hq)
  | ok fl =>
    cases fl with
    | ret u => exact I.after (ce_mrg I.hok e0.frf hp hq)
    | next => exact False.elim hq
    | brk => exact False.elim hq
    | cont => exact False.elim hq
end
end KL

namespace KL
open PySem L2

/-- all closures: their promises by the table -/
structure LvAt (X : Cx) (c : Ct) (G : Tbl) (ls : List Str) : Prop where
  at_ : ∀ (t : Nat) (ld : LamD), c.L[t]? = some ld → ld.ps.length = 1 ∧ ∃ g k, ls[t]? = some g ∧ LamOk X.prog X.w c X.mg X.base k ld (G g) ∧ Room k X.A
section
variable {X : Cx} {c : Ct} {W : WX} {B : Bs} {F F' F1 F2 H H' H1 : Hp} {io io' io1 io2 : List Addr} {st st' st1 : Sto} {rh : Rho} {σ : St} {v : V} {t : TV} {d : D} {a b e o : Expr} {es : List Expr} {fa fb fo fe fk : Sm} {fs : List Sm} {pos p apos : Pos} {cl : List (Str × Addr)} {G : Tbl}
theorem Rc.fnat {P : Program} {w : World} {h : Heap} {tt : Nat} {cs : List D} (x : HOk P w H h) (hs : ∀ a o, F a = some o → H a = some o) (hc : Rc c F io v tt cs) : ∃ f, v = .ref f ∧ PySem.W.FnAt f h := by
  obtain ⟨ld, f, c', cl, pm, ctv, h1, h2, h3, h4, h5, h6, h7, h8, h9⟩ := hc
  exact ⟨f, h1, _, _, _, _, Pnd.at x (hs _ _ h3)⟩
theorem pe_den_callV {ls : List Str} {i : Nat} {x : Str} (C0 : Cok X c W) (A : LvAt X c G ls) (hN : X.N[i]? = some x) (hv : Vis X.env.scope x) (hd : (x == ("__debug__" : Str)) = false) (hcd : (x == ("__classdict__" : Str)) = false) (ha : PE X e (den c W fe)) (hn : notStar e = true) :
    PE X (.Call (.Name x p) [e] [] pos) (den c W (eCallV ls G i [fe])) := by
  refine ⟨fun pins s σ H Q I ⟨B, F, io, st, rh, g, q⟩ => ?_⟩
  unfold eCallV at q
  cases hc : capAt rh i with
  | none => rw [hc] at q; exact q.elim
  | some tc =>
    obtain ⟨tt, cs⟩ := tc
    rw [hc] at q
    have hr : rh[i]? = some (some (.clo tt cs)) := by
      unfold capAt at hc
      split at hc
      · cases hc; assumption
      · cases hc
    obtain ⟨v, e1, r⟩ := g.clo i tt cs hr
    obtain ⟨ld, hld⟩ : ∃ ld, c.L[tt]? = some ld := let ⟨ld, _, _, _, _, _, _, h2, _⟩ := r; ⟨ld, h2⟩
    obtain ⟨hps, g0, k, hls, ok, room⟩ := A.at_ tt ld hld
    have q : Pst c W F io rh σ H Q (match ls[tt]? with
      | some g => (eArgs [fe] rh st).bind fun ds st1 => (G g (ds ++ cs) st1).bind fun d st2 => .ok (.d d) st2
      | none => .no) := q
    rw [hls] at q
    have q : Pst c W F io rh σ H Q ((eArgs [fe] rh st).bind fun ds st1 => (G g0 (ds ++ cs) st1).bind fun d st2 => .ok (.d d) st2) := q
    refine wpAny_Call_Name_kw (thn ((pe_var (pos := p) (i := i) hN hv hd hcd).run pins s σ H (fun v' H1 => v' = v ∧ H1 = H) I ⟨v, e1, rfl, rfl⟩) fun u s1 ⟨v', H1, I1, r1, q1⟩ => ?_)
    obtain ⟨ev, eH⟩ := q1
    subst ev
    rw [eH] at I1
    obtain ⟨f, rfl, hf1⟩ := r.fnat I1.hok g.sub
    obtain rfl : u = Value.ref f := r1
    have hA : denA c W [fe] σ H fun vs H2 => ∃ F2 io2 st2 ds, Good c B F2 io2 st2 rh σ H2 ∧ RvAll c F2 io2 vs ds ∧ ds.length = 1 ∧ Rc c F2 io2 (.ref f) tt cs ∧ Pst c W F2 io2 rh σ H2 Q ((G g0 (ds ++ cs) st2).bind fun d st3 => .ok (.d d) st3) := by
      refine ⟨B, F, io, st, rh, g, PstA.bind g q fun ds st2 vs H2 F2 io2 e2 S2 g2 r2 p2 => ⟨F2, io2, st2, ds, g2, r2, ?_, r.step S2 g.sub, p2⟩⟩
      unfold eArgs eArgs at e2
      cases hf : fe rh st with
      | no => rw [hf] at e2; cases e2
      | ex y s' => rw [hf] at e2; cases e2
      | ok t' s' =>
        rw [hf] at e2
        simp only [R.bind] at e2
        cases ht : toDv t' with
        | none => rw [ht] at e2; cases e2
        | some d' => rw [ht] at e2; cases e2; rfl
    refine PySem.W.callWith_F hf1 (thn ((pa_den_cons ha pa_den_nil hn).run pos pins s1 σ H _ I1 hA) fun us s2 ⟨vs, H2, I2, r2, F2, io2, st2, ds, g2, rv2, hl2, rc2, p2⟩ => ?_) (star_cons hn) rfl
    obtain ⟨f2, ef, hf2⟩ := rc2.fnat I2.hok g2.sub
    cases ef
    refine ⟨hf2, ?_⟩
    obtain ⟨f3, ef3, w3⟩ := run_clo C0 I2 g2 ok room C0.hK hld rc2 r2 rv2 (by rw [rv2.length, hl2, hps]) p2
    cases ef3
    exact w3
end
end KL

namespace KL
open PySem L2

/-! ### some objects pinned for a call -/
open Classical in
noncomputable def pin (H : Hp) (S : Addr → Prop) (ob : Addr → Obj) : Hp := fun a => if S a then some (PinO a (ob a)) else H a
/-- the objects of S stand in the heap, unknown to H -/
structure Pin (S : Addr → Prop) (ob : Addr → Obj) (H : Hp) (h : Heap) : Prop where
  no : ∀ a, S a → H a = none
  at_ : ∀ a, S a → h.get? a = some (ob a)
section
variable {H H0 H' F F' F0 : Hp} {S : Addr → Prop} {a b : Addr} {o : HO} {ob : Addr → Obj} {P : Program} {w : World} {h h' : Heap}
theorem pin_in (z : S a) : pin H S ob a = some (PinO a (ob a)) := by unfold pin; rw [if_pos z]
theorem pin_out (z : ¬ S a) : pin H S ob a = H a := by unfold pin; rw [if_neg z]
theorem Pin.nS (p : Pin S ob H h) (e : H a = some o) : ¬ S a := fun z => by rw [p.no a z] at e; cases e
theorem Pin.ext (p : Pin S ob H h) (e : H a = some o) : pin H S ob a = some o := by rw [pin_out (p.nS e)]; exact e
theorem Pin.hok (p : Pin S ob H h) (x : HOk P w H h) : HOk P w (pin H S ob) h := fun a o e => by
  by_cases z : S a
  · rw [pin_in z] at e
    cases e
    exact pin_ok (p.at_ a z)
  · rw [pin_out z] at e
    exact (x a o e).stay (fun _ _ _ q => q) (fun b q => p.ext q) fun b xs q => p.ext q
theorem Pin.env0 {K : PySem.W.Frag} {mg : Str → Option Value} {base : Heap} {A : Around} {outer : List Env} {s : Shared} (p : Pin S ob H s.heap) (e : Env0 P w K mg base A outer s H) (hb : ∀ a, S a → base.get? a = none) (hf : ∀ a, S a → a ∉ frs outer) : Env0 P w K mg base A outer s (pin H S ob) :=
  ⟨e.frames, e.mod, fun b o q => ⟨(e.bs b o q).1, by rw [pin_out (fun z => by rw [hb b z] at q; cases q)]; exact (e.bs b o q).2⟩, e.bsz, e.funs, fun b hb' => by rw [pin_out (fun z => hf b z hb')]; exact e.frf b hb', p.hok e.hok, e.bare⟩
/-- a call's end, told without them -/
theorem Pin.ce {outer : List Env} {s s' : Shared} {Q : VK} {u : Value} (p : Pin S ob H s.heap) (hf : ∀ a, S a → a ∉ frs outer) (hh : CE outer P w (pin H S ob) s (fun v H' => (∀ a, S a → H' a = some (PinO a (ob a))) ∧ Q v (del H' S)) u s') : CE outer P w H s Q u s' := by
  obtain ⟨v, H', os, bare, un, hok, rv, hp, q⟩ := hh
  have pd : Pnd S H' := fun a z => ⟨_, hp a z⟩
  refine ⟨v, del H' S, os, bare, ⟨fun b o e n hb hx => ?_, fun b o e n hb hx => ?_, fun b o e n hx => ?_, fun b o e hx => un.there b o e hx, fun b xs e => ?_, fun b o xs e => ?_, fun b ps e => ?_⟩, hok_del hok pd, rv, q⟩
  · by_cases z : S b
    · rw [p.at_ b z] at e
      cases e
      exact Pnd.at hok (hp b z)
    · exact un.keep b o e (by rw [pin_out z]; exact n) hb hx
  · exact un.slot b o e (by rw [pin_out (fun z => hf b z hb)]; exact n) hb hx
  · by_cases z : S b
    · exact del_in z
    · rw [del_out z]; exact un.free b o e (by rw [pin_out z]; exact n) hx
  · rw [del_out (p.nS e)]; exact un.tups b xs (p.ext e)
  · rw [del_out (p.nS e)]; exact un.frzs b o xs (p.ext e)
  · rw [del_out (p.nS e)]; exact un.tbls b ps (p.ext e)
theorem Pin.cx {outer : List Env} {s s' : Shared} {E : XK} {u : Value} (p : Pin S ob H s.heap) (hf : ∀ a, S a → a ∉ frs outer) (hh : L2N.CX P w outer (pin H S ob) s (fun cls d H' => (∀ a, S a → H' a = some (PinO a (ob a))) ∧ E cls d (del H' S)) u s') : L2N.CX P w outer H s E u s' := by
  obtain ⟨a, B, H', cls, d, rfl, fl, hok, ub, na, os, ag, hp, hE⟩ := hh
  have pd : Pnd S H' := fun a z => ⟨_, hp a z⟩
  refine ⟨a, B, del H' S, cls, d, rfl, fl, hok_del hok pd, ⟨fun b o e n hb => ?_, fun b o e hb => ub.slot b o e hb, fun b o e n => ?_, ub.there, fun b xs e => ?_, fun b o xs e => ?_, fun b ps e => ?_⟩, ?_, os, ag, hE⟩
  · by_cases z : S b
    · rw [p.at_ b z] at e
      cases e
      exact Pnd.at hok (hp b z)
    · exact ub.keep b o e (by rw [pin_out z]; exact n) hb
  · by_cases z : S b
    · exact del_in z
    · rw [del_out z]; exact ub.free b o e (by rw [pin_out z]; exact n)
  · rw [del_out (p.nS e)]; exact ub.tups b xs (p.ext e)
  · rw [del_out (p.nS e)]; exact ub.frzs b o xs (p.ext e)
  · rw [del_out (p.nS e)]; exact ub.tbls b ps (p.ext e)
  · by_cases z : S a
    · exact del_in z
    · rw [del_out z]; exact na
end
/-- tables do not lean on pinned objects -/
theorem tabs_delF {H : Hp} {T : List (Addr × Str)} {S : Addr → Prop} {P : Program} {w : World} {h : Heap} (t : LamX.Tabs T H) (x : HOk P w H h) (hp : ∀ a, S a → ∃ co, H a = some (PinO a co) ∧ ∀ vs, co.data ≠ .fields vs) : LamX.Tabs T (del H S) := by
  intro q hq
  obtain ⟨ps, a1, a2, a3⟩ := t q hq
  refine ⟨ps, ?_, a2, fun pos cv hc => ?_⟩
  · rw [del_out (fun z => ?_)]
    · exact a1
    · obtain ⟨co, e, _⟩ := hp _ z
      rw [a1] at e
      unfold PinO at e
      cases e
  · obtain ⟨c0, e1, e2⟩ := a3 pos cv hc
    refine ⟨c0, e1, ?_⟩
    rw [del_out (fun z => ?_)]
    · exact e2
    · obtain ⟨co, e, hd⟩ := hp _ z
      obtain ⟨⟨oc, vs, t, q1, q2, _⟩, _⟩ := x _ _ e2
      have q3 := Pnd.at x e
      rw [q1] at q3
      cases q3
      exact hd vs q2
/-- the step seen without them: F+ knows those of SF besides -/
theorem stp_pin {c : Ct} {F H Fp F' H' : Hp} {io io' : List Addr} {st' : Sto} {S SF : Addr → Prop} {ob : Addr → Obj} {h : Heap} (hs : ∀ a o, F a = some o → H a = some o) (p : Pin S ob H h) (hSF : ∀ a, S a → SF a) (hF : ∀ a, SF a → F a = none) (hio : ∀ a, SF a → a ∉ io) (hx : ∀ a, SF a → ∃ φ, Fp a = some (.ext φ)) (ho : ∀ a, ¬ SF a → Fp a = F a)
    (ht : LamX.Tabs c.T (pin H S ob)) (hT : LamX.Tabs c.T H' → LamX.Tabs c.T (del H' S)) (T : Stp c Fp io (pin H S ob) F' io' H') (s' : Sim c F' io' st') : Stp c F io H (del F' SF) io' (del H' S) ∧ Sim c (del F' SF) io' st' ∧ ∀ v d, Rv c F' io' v d → Rv c (del F' SF) io' v d := by
  have nx : ∀ a o, F' a = some o → (∀ φ, o ≠ .ext φ) → del F' SF a = some o := fun a o e hn => by
    rw [del_out (fun z => ?_)]
    · exact e
    · obtain ⟨φ, q⟩ := hx a z
      have := T.per a _ q (hio a z)
      rw [e] at this
      exact hn φ (Option.some.inj this)
  have nF : ∀ a o, F a = some o → ¬ SF a := fun a o e z => by rw [hF a z] at e; cases e
  refine ⟨⟨fun a o e => ?_, T.ext, fun a o e n => ?_, fun a e => ?_, fun a o e n hn => ?_, fun a e => ?_, fun a hm => ?_, fun _ => hT (T.tab ht), fun h0 a ps e => ?_, fun a o u e => by
    rw [del_out (nF a _ e)]
    exact T.lck a o u (by rw [ho a (nF a _ e)]; exact e)⟩, s'.nx nx, fun v d r => r.nx nx⟩
  · obtain ⟨e, z⟩ := del_some e
    rw [del_out (fun q => z (hSF a q))]
    exact T.sub a o e
  · rw [del_out (nF a o e)]
    exact T.per a o (by rw [ho a (nF a o e)]; exact e) n
  · cases q : del F' SF a with
    | none => exact absurd q e
    | some o =>
      obtain ⟨q, z⟩ := del_some q
      rcases T.new a (by rw [q]; simp) with r | r
      · rw [ho a z] at r; exact .inl r
      · rw [pin_out (fun y => z (hSF a y))] at r; exact .inr r
  · rw [del_out (p.nS e)]
    exact T.fr a o (p.ext e) n hn
  · by_cases z : S a
    · exact p.no a z
    · rw [del_out z] at e
      have := T.gro a e
      rw [pin_out z] at this
      exact this
  · rcases T.nio a hm with r | r
    · exact .inl r
    · by_cases z : S a
      · exact .inr (p.no a z)
      · rw [pin_out z] at r; exact .inr r
  · obtain ⟨e, z⟩ := del_some e
    refine T.ntb (fun b qs q => ?_) a ps e
    by_cases y : SF b
    · obtain ⟨φ, r⟩ := hx b y
      rw [q] at r; cases r
    · rw [ho b y] at q
      exact h0 b qs q
end KL

namespace KL
open PySem L2

/-! ### a lambda made -/
section
variable {X : Cx} {pins : List (Addr × Obj)} {σ : L2.St} {H : Hp} {s : Shared}
/-- what the making leaves: the function object f is new; the code object c' is known -/
structure Made (X : Cx) (pins : List (Addr × Obj)) (σ : L2.St) (H : Hp) (s : Shared) (T : List (Addr × Str)) (q : Str) (o : Value → Addr → Value → Obj) (f c' : Addr) (H1 : Hp) (s' : Shared) : Prop where
  inv : Inv X pins σ H1 s'
  new : s.heap.objs.size ≤ f
  ext : LamX.ExtN H H1
  gro : ∀ a, H1 a = none → H a = none
  tab : LamX.Tabs T H1
  at_ : ∃ pm ctv, s'.heap.get? f = some (o pm c' ctv)
  none : H1 f = none
  nfr : f ∉ frs X.stack
  code : H1 c' = some (LamX.CodeO c' q)
theorem lam_make3 {T : List (Addr × Str)} {cc P : Addr} {params : Arguments} {body : Expr} {scope : Scope} {pos : Pos} {E Q : Value → Shared → Prop} (I : Inv X pins σ H s) (TB : LamX.TabB X.base X.mg cc P) (hcode : X.env.code = .ref cc) (hm : (P, X.env.qual ++ "<lambda>") ∈ T)
    (hu : ∀ p ∈ T, p.1 = P → p.2 = X.env.qual ++ "<lambda>") (hT : LamX.Tabs T H) (hdef : defaultsOf params X.env = ([], [])) (hfree : ∀ y ∈ scope.names, y.2 = .free → ∃ c, X.env.cells.lookup y.1 = some c)
    (h : ∀ (f c' : Addr) (H1 : Hp) (s' : Shared), Made X pins σ H s T (X.env.qual ++ "<lambda>") (fun pm c' ctv => PySem.W.kla_obj "<lambda>" (X.env.qual ++ "<lambda>") params body scope (cloFrom X.env.cells scope.names []) pm c' ctv) f c' H1 s' → Q (.ref f) s') :
    wpAny (model X.prog X.w) X.A (eval (.Lambda params body scope pos) X.env) Q E s := by
  obtain ⟨ps, hP, ht, ha⟩ := hT _ hm
  have hP' : s.heap.get? P = some { cls := .none, data := .fields ps } := I.hok P _ hP
  have old : ∀ f, s.heap.objs.size ≤ f → f ∉ frs X.stack := fun f hf z => by
    rcases List.mem_cons.mp (I.stkSub _ z) with e | e
    · have := I.lt
      rw [← e] at this
      exact Nat.lt_irrefl _ (Nat.lt_of_lt_of_le this hf)
    · exact I.nofs hf e
  refine PySem.W.kla_eval hdef ?_
  cases hc : codeAmong pos ps.toList with
  | some cv =>
    obtain ⟨c', rfl, hco⟩ := ha pos cv hc
    refine PySem.W.kla_makeFunctionHit (mg := X.mg) (c := cc) (P := P) (ps := ps) (closure_ok hfree) I.ok.glob (I.mod.glob.keeps I.bk) hcode (TB.code.keeps I.bk) hP' ht hc (TB.bm.keeps I.bk) fun ctv h' tk hx hsz => ?_
    exact h h'.objs.size c' H _ ⟨I.kept fun b o e => Heap.get?_push_of_some _ (hx b o e), hsz, LamX.ExtN.refl H, fun _ e => e, hT, ⟨_, ctv, Heap.get?_push_size _ rfl⟩, I.hok.fresh hsz, old _ hsz, hco⟩
  | none =>
    refine PySem.W.kla_makeFunction (mg := X.mg) (c := cc) (P := P) (ps := ps) (closure_ok hfree) I.ok.glob (I.mod.glob.keeps I.bk) hcode (TB.code.keeps I.bk) hP' ht hc TB.gP (TB.bm.keeps I.bk) fun c' ctv h' tk hx hge hlt hrec htb => ?_
    obtain ⟨c2, oc, vs, t, e2, hoc, hd, hv⟩ := hrec
    cases e2
    have hsz : s.heap.objs.size ≤ h'.objs.size := by omega
    have nC : H c' = none := I.hok.fresh hge
    have nP : P ≠ c' := ne_of_none hP nC
    have hl : (ps ++ #[rawInt pos.line, rawInt pos.col, .ref c']).toList = ps.toList ++ [rawInt pos.line, rawInt pos.col, .ref c'] := by simp
    generalize hH : upd (upd H P (.tbl (ps ++ #[rawInt pos.line, rawInt pos.col, .ref c']))) c' (LamX.CodeO c' (X.env.qual ++ "<lambda>")) = H1
    have atC : H1 c' = some (LamX.CodeO c' (X.env.qual ++ "<lambda>")) := by rw [← hH, upd_same]
    have atP : H1 P = some (.tbl (ps ++ #[rawInt pos.line, rawInt pos.col, .ref c'])) := by rw [← hH, upd_ne nP, upd_same]
    have els : ∀ b, b ≠ P → b ≠ c' → H1 b = H b := fun b h1 h2 => by rw [← hH, upd_ne h2, upd_ne h1]
    have ex : LamX.ExtN H H1 := fun b o e n => by
      rw [els b (fun z => n ps (by rw [z, hP] at e; exact (Option.some.inj e).symm)) (ne_of_none e nC)]
      exact e
    have I1 : Inv X pins σ H1 { s with heap := h'.push (PySem.W.kla_obj "<lambda>" (X.env.qual ++ "<lambda>") params body scope (cloFrom X.env.cells scope.names []) ((X.mg "__name__").getD .none) c' ctv), toks := tk } := by
      rw [← hH]
      exact LamX.inv_table (t' := tk) I hP (fun b o hb e => Heap.get?_push_of_some _ (hx b o hb e)) (Heap.get?_push_of_some _ htb) hge ⟨oc, vs, t, Heap.get?_push_of_some _ hoc, hd, hv⟩
    have nf : H h'.objs.size = none := I.hok.fresh hsz
    refine h h'.objs.size c' H1 _ ⟨I1, hsz, ex, fun a e => ?_, fun p hp => ?_, ⟨_, ctv, Heap.get?_push_size _ rfl⟩, ?_, old _ hsz, atC⟩
    · by_cases h1 : a = c'
      · rw [h1, atC] at e; cases e
      · by_cases h2 : a = P
        · rw [h2, atP] at e; cases e
        · rw [els a h2 h1] at e; exact e
    · by_cases hb : p.1 = P
      · rw [hu p hp hb, hb]
        refine ⟨_, atP, by rw [hl]; exact PySem.TriplesOk_snoc _ _ _ _ ht, fun p' cv hcv => ?_⟩
        rw [hl] at hcv
        rcases LamX.among_app _ ht hcv with z | z
        · obtain ⟨c0, e1, e2⟩ := ha p' cv z
          exact ⟨c0, e1, ex _ _ e2 LamX.codeO_ne⟩
        · exact ⟨c', z, atC⟩
      · obtain ⟨ps', a1, a2, a3⟩ := hT p hp
        refine ⟨ps', by rw [els _ hb (ne_of_none a1 nC)]; exact a1, a2, fun p' cv hcv => ?_⟩
        obtain ⟨c0, e1, e2⟩ := a3 p' cv hcv
        exact ⟨c0, e1, ex _ _ e2 LamX.codeO_ne⟩
    · rw [els _ (fun z => ?_) (Nat.ne_of_gt hlt)]
      · exact nf
      · rw [← z] at hP; rw [nf] at hP; cases hP
end
/-- the making is a step that data do not see -/
theorem Made.stp {X : Cx} {pins : List (Addr × Obj)} {σ : L2.St} {s s' : Shared} {c : Ct} {B : Bs} {F H H1 : Hp} {io : List Addr} {st : Sto} {rh : Rho} {q : Str} {o : Value → Addr → Value → Obj} {f c' : Addr} (m : Made X pins σ H s c.T q o f c' H1 s') (g : Good c B F io st rh σ H) : Stp c F io H F io H1 := by
  have nt := g.stp.ntb g.bnt
  refine ⟨fun a u e => m.ext a u (g.sub a u e) (fun ps z => nt a ps (by rw [e, z])), ⟨[], by simp⟩, fun _ _ e _ => e, fun a e => .inl e, fun a u e _ hn => m.ext a u e hn, m.gro, fun a h => .inl h, fun _ => m.tab, fun h => h, fun _ _ _ h => h⟩
end KL

namespace KL
open PySem L2

theorem tabs_delP {H H' : Hp} {T : List (Addr × Str)} {S : Addr → Prop} {ob : Addr → Obj} {h : Heap} (p : Pin S ob H h) (hd : ∀ a, S a → ∀ vs, (ob a).data ≠ .fields vs) (hp : ∀ a, S a → H' a = some (PinO a (ob a))) (t : LamX.Tabs T H') : LamX.Tabs T (del H' S) := by
  intro q hq
  obtain ⟨ps, a1, a2, a3⟩ := t q hq
  refine ⟨ps, ?_, a2, fun pos cv hc => ?_⟩
  · rw [del_out (fun z => ?_)]
    · exact a1
    · have e := hp _ z
      rw [a1] at e
      unfold PinO at e
      cases e
  · obtain ⟨c0, e1, e2⟩ := a3 pos cv hc
    refine ⟨c0, e1, ?_⟩
    rw [del_out (fun z => ?_)]
    · exact e2
    · have e := hp _ z
      rw [e2] at e
      have e3 : LamX.CodeO c0 q.2 = PinO c0 (ob c0) := Option.some.inj e
      unfold LamX.CodeO PinO at e3
      have e4 := congrFun (HO.ext.inj e3) h
      have e5 : ∃ (oc : Obj) (vs : Array Value) (t : Tok), h.get? c0 = some oc ∧ oc.data = .fields vs ∧ vs[1]? = some (.str q.2 t) := by rw [e4]; exact p.at_ c0 z
      obtain ⟨oc, vs, t, k1, k2, _⟩ := e5
      rw [p.at_ c0 z] at k1
      cases k1
      exact hd c0 z vs k2
/-! ### g(e, lambda ..) -/
def capsAt (rh : Rho) : List Nat → Option (List D)
  | [] => some []
  | j :: js => match rh[j]? with
    | some (some (.val d)) => (capsAt rh js).map (d :: ·)
    | _ => none
def eCallL (G : Tbl) (g : Str) (f1 : Sm) (t : Nat) (js : List Nat) : Sm := fun rh st => (f1 rh st).bind fun tv st1 => match toDv tv with
  | some d => (match capsAt rh js with
    | some cs => (G g [d, .clo t cs] st1).bind fun r st2 => .ok (.d r) st2
    | none => .no)
  | none => .no
/-- all that is to be known of the lambda's expression -/
structure LmAt (X : Cx) (c : Ct) (t : Nat) (params : Arguments) (body : Expr) (scope : Scope) (js : List Nat) (ld : LamD) (cc P : Addr) : Prop where
  lam : c.L[t]? = some ld
  hq : ld.qual = X.env.qual ++ "<lambda>"
  hp : ld.params = params
  hb : ld.body = body
  hsc : ld.scope = scope
  tab : LamX.TabB X.base X.mg cc P
  code : X.env.code = .ref cc
  mem : (P, ld.qual) ∈ c.T
  one : ∀ p ∈ c.T, p.1 = P → p.2 = ld.qual
  free : ∀ y ∈ scope.names, y.2 = .free → y.1 ∈ ld.fr ∧ (X.env.scope.names.lookup y.1 = some .cell ∨ X.env.scope.names.lookup y.1 = some .free)
  frl : ∀ y ∈ ld.fr, (y, NameKind.free) ∈ scope.names
  hjs : js.map (fun j => X.N[j]?) = ld.fr.map some
  dfl : defaultsOf params X.env = ([], [])
section
variable {X : Cx} {c : Ct} {W : WX} {B : Bs} {F F' F1 F2 H H' H1 : Hp} {io io' io1 io2 : List Addr} {st st' st1 : Sto} {rh : Rho} {σ : St} {v : V} {d : D} {G : Tbl}
theorem caps_at {cl : List (Str × Addr)} {h : Heap} {Fp : Hp} {ob : Addr → Obj} (g : Good c B F io st rh σ H) (hm : ∀ a o, F a = some o → Fp a = some o) : ∀ {fr : List Str} {js : List Nat} {cs : List D}, js.length = fr.length → capsAt rh js = some cs →
    (∀ (i : Nat) (y : Str), fr[i]? = some y → ∃ a, cl.lookup y = some a ∧ Fp a = some (PinO a (ob a)) ∧ a ∉ io ∧ h.get? a = some (ob a) ∧ ∀ j v, js[i]? = some j → σ[j]? = some (some v) → ∃ u, RelV v u ∧ h.IsCell a (some u)) → CapR c Fp io cl fr cs
  | [], [], cs, _, hc, _ => by cases hc; exact .nil
  | [], _ :: _, _, hl, _, _ => by cases hl
  | _ :: _, [], _, hl, _, _ => by cases hl
  | y :: fr, j :: js, cs, hl, hc, hk => by
    unfold capsAt at hc
    split at hc
    · rename_i d hr
      rw [Option.map_eq_some_iff] at hc
      obtain ⟨cs', hc, rfl⟩ := hc
      obtain ⟨v, e1, r⟩ := g.val j d hr
      obtain ⟨a, k1, k2, k3, k4, k5⟩ := hk 0 y rfl
      obtain ⟨u, r1, o, ho, hd⟩ := k5 j v rfl e1
      rw [k4] at ho
      cases ho
      exact .cons k1 k2 k3 hd r1 (r.more hm) (caps_at g hm (by simpa using hl) hc fun i y e => by
        obtain ⟨a, q1, q2, q3, q4, q5⟩ := hk (i + 1) y (by simpa using e)
        exact ⟨a, q1, q2, q3, q4, fun j v ej ev => q5 j v (by simpa using ej) ev⟩)
    · cases hc
/-- the call, the lambda being made -/
theorem run_lam {pins : List (Addr × Obj)} {s s' : Shared} {Q : VK} {t k : Nat} {params : Arguments} {body : Expr} {scope : Scope} {js : List Nat} {ld : LamD} {cc P f c' fg : Addr} {g0 : Str} {fd : FuncData} {ps : List Str} {cs : List D} {u1 : Value} {v1 : V} {d1 : D} (C0 : Cok X c W) (A : FnAt X c G g0 2 k fg fd ps) (L : LmAt X c t params body scope js ld cc P)
    (g : Good c B F io st rh σ H) (m : Made X pins σ H s c.T (X.env.qual ++ "<lambda>") (fun pm c' ctv => PySem.W.kla_obj "<lambda>" (X.env.qual ++ "<lambda>") params body scope (cloFrom X.env.cells scope.names []) pm c' ctv) f c' H1 s') (hsz : X.base.objs.size ≤ s.heap.objs.size)
    (hfn : ∀ x, X.fn x = true) (hcs : capsAt rh js = some cs) (r1 : RelV v1 u1) (rv1 : Rv c F io v1 d1) (q : Pst c W F io rh σ H1 Q ((G g0 [d1, .clo t cs] st).bind fun d st2 => .ok (.d d) st2)) : wpAny (model X.prog X.w) X.A (call (.ref fg) [u1, .ref f]) (EP X pins σ Q) X.xe s' := by
  have I := m.inv
  have g1 := g.step (m.stp g) g.sim
  obtain ⟨pm, ctv, hf⟩ := m.at_
  generalize hcl : cloFrom X.env.cells scope.names [] = cl at hf
  have hfree : ∀ y ∈ scope.names, y.2 = .free → X.env.scope.names.lookup y.1 = some .cell ∨ X.env.scope.names.lookup y.1 = some .free := fun y hy e => (L.free y hy e).2
  have cap : NdefX.Caps X cl ld.fr js := by rw [← hcl]; exact NdefX.Caps.made I.ok hfree L.frl L.hjs
  have C := NdefX.cells_of I cap
  have hfo : s'.heap.get? f = some (lamObj ld cl pm c' ctv) := by
    rw [hf]
    show _ = some (PySem.W.kla_obj "<lambda>" ld.qual ld.params ld.body ld.scope cl pm c' ctv)
    rw [L.hq, L.hp, L.hb, L.hsc]
  let S : Addr → Prop := fun a => a = f ∨ Cls1 cl a
  let ob : Addr → Obj := fun a => (s'.heap.get? a).getD (lamObj ld cl pm c' ctv)
  have obf : ob f = lamObj ld cl pm c' ctv := by show (s'.heap.get? f).getD _ = _; rw [hfo]; rfl
  have p : Pin S ob H1 s'.heap := by
    refine ⟨fun a z => ?_, fun a z => ?_⟩
    · rcases z with z | ⟨y, e⟩
      · rw [z]; exact m.none
      · exact (C.all y a e).1
    · rcases z with z | ⟨y, e⟩
      · rw [z, obf]; exact hfo
      · obtain ⟨_, v, o, ho, _⟩ := C.all y a e
        show s'.heap.get? a = some ((s'.heap.get? a).getD _)
        rw [ho]; rfl
  have hd : ∀ a, S a → ∀ vs, (ob a).data ≠ .fields vs := fun a z vs e => by
    rcases z with z | ⟨y, ey⟩
    · rw [z, obf] at e; cases e
    · obtain ⟨_, v, o, ho, hdo⟩ := C.all y a ey
      have : ob a = o := by show (s'.heap.get? a).getD _ = o; rw [ho]; rfl
      rw [this, hdo] at e
      cases e
  have nb : ∀ a, S a → X.base.get? a = none := fun a z => by
    cases e : X.base.get? a with
    | none => rfl
    | some o =>
      exfalso
      rcases z with z | ⟨y, ey⟩
      · have h1 := Heap.lt_size e
        rw [z] at h1
        exact Nat.lt_irrefl _ (Nat.lt_of_lt_of_le h1 (Nat.le_trans hsz m.new))
      · exact Nat.lt_irrefl _ (Nat.lt_of_lt_of_le (Heap.lt_size e) (Nat.le_trans I.ok.bsz (I.ok.cab y a (hfn y) (cap.sub y a ey))))
  have nfr : ∀ a, S a → a ∉ frs X.stack := fun a z => by
    rcases z with z | ⟨y, ey⟩
    · rw [z]; exact m.nfr
    · intro hb
      rcases List.mem_cons.mp (I.stkSub _ hb) with e | e
      · exact I.cne y a (cap.sub y a ey) e
      · obtain ⟨_, o, ho, _⟩ := I.ok.funs.mem e
        exact Nat.lt_irrefl _ (Nat.lt_of_lt_of_le (Heap.lt_size ho) (I.ok.cab y a (hfn y) (cap.sub y a ey)))
  have e0 := p.env0 I.env0 nb nfr
  let SF : Addr → Prop := fun a => S a ∨ (a = c' ∧ F a = none)
  classical
  let Fp : Hp := fun a => if SF a then pin H1 S ob a else F a
  have Fin : ∀ a, SF a → Fp a = pin H1 S ob a := fun a z => if_pos z
  have Fout : ∀ a, ¬ SF a → Fp a = F a := fun a z => if_neg z
  have nS : ∀ a o, F a = some o → ¬ S a := fun a o e => p.nS (g1.sub a o e)
  have nSF : ∀ a o, F a = some o → ¬ SF a := fun a o e z => by
    rcases z with z | ⟨_, z⟩
    · exact nS a o e z
    · rw [e] at z; cases z
  have hF0 : ∀ a, SF a → F a = none := fun a z => by
    cases e : F a with
    | none => rfl
    | some o => exact absurd z (nSF a o e)
  have hio : ∀ a, SF a → a ∉ io := fun a z h => g.sim.dom h (hF0 a z)
  have nc : ¬ S c' := p.nS m.code
  have hx : ∀ a, SF a → ∃ φ, Fp a = some (.ext φ) := fun a z => by
    rw [Fin a z]
    by_cases y : S a
    · rw [pin_in y]; exact ⟨_, rfl⟩
    · rcases z with z | ⟨z, _⟩
      · exact absurd z y
      · rw [z, pin_out nc, m.code]; exact ⟨_, rfl⟩
  have hm : ∀ a o, F a = some o → Fp a = some o := fun a o e => by rw [Fout a (nSF a o e)]; exact e
  have hsub : ∀ a o, Fp a = some o → pin H1 S ob a = some o := fun a o e => by
    by_cases z : SF a
    · rw [Fin a z] at e; exact e
    · rw [Fout a z] at e; exact p.ext (g1.sub a o e)
  have hcode : Fp c' = some (LamX.CodeO c' ld.qual) := by
    rw [L.hq]
    cases e : F c' with
    | none => rw [Fin c' (.inr ⟨rfl, e⟩), pin_out nc]; exact m.code
    | some o =>
      have := g1.sub c' o e
      rw [m.code] at this
      cases this
      exact hm c' _ e
  have hcio : c' ∉ io := fun z => by
    obtain ⟨u, e, k1, k2⟩ := g.sim.kind z
    have := hm c' u e
    rw [hcode] at this
    unfold LamX.CodeO at this
    cases this
    first | exact k2 _ rfl | exact k1 _ rfl
  have hpf : ∀ a, S a → Fp a = some (PinO a (ob a)) := fun a z => by rw [Fin a (.inl z), pin_in z]
  have capr : CapR c Fp io cl ld.fr cs := by
    refine caps_at (h := s'.heap) (ob := ob) g1 hm ?_ hcs fun i y e => ?_
    · have q := congrArg List.length L.hjs
      rwa [List.length_map, List.length_map] at q
    · obtain ⟨a, k1, k2⟩ := C.has i y e
      refine ⟨a, k1, hpf a (.inr ⟨y, k1⟩), hio a (.inl (.inr ⟨y, k1⟩)), p.at_ a (.inr ⟨y, k1⟩), fun j v ej ev => ?_⟩
      exact k2 v (by rw [List.getElem?_map, ej]; exact congrArg some (NdefX.slotAt_of ev))
  have rc : Rc c Fp io (.ref f) t cs := by
    refine ⟨ld, f, c', cl, pm, ctv, rfl, L.lam, ?_, hio f (.inl (.inl rfl)), hcode, hcio, C.inj, fun y a e => ?_, capr⟩
    · rw [hpf f (.inl rfl), obf]
    · rw [← hcl] at e
      rcases cloFrom_mem (PySem.mem_of_lookup e) with hz | ⟨h1, h2⟩
      · cases hz
      · exact (L.free _ h1 rfl).1
  have nt : NT Fp := fun a qs e => by
    by_cases z : SF a
    · obtain ⟨φ, r⟩ := hx a z
      rw [e] at r; cases r
    · rw [Fout a z] at e
      exact g.stp.ntb g.bnt a qs e
  have tabP : LamX.Tabs c.T (pin H1 S ob) := m.tab.ext fun b o e => p.ext e
  have keepP : ∀ {F' H' : Hp} {io' : List Addr}, Stp c Fp io (pin H1 S ob) F' io' H' → ∀ a, S a → H' a = some (PinO a (ob a)) := fun T a z => T.sub a _ (T.per a _ (hpf a z) (hio a (.inl z)))
  have sp : spM c 2 (G g0) [v1, .ref f] (pin H1 S ob) (fun v H' => (∀ a, S a → H' a = some (PinO a (ob a))) ∧ Q v (del H' S)) (fun cls d H' => (∀ a, S a → H' a = some (PinO a (ob a))) ∧ WE W σ cls d (del H' S)) := by
    refine ⟨rfl, Fp, io, st, [d1, .clo t cs], hsub, tabP, nt, g.sim.more hm, .cons (RvA.of (rv1.more hm)) (.cons rc .nil), ?_⟩
    cases hG : G g0 [d1, .clo t cs] st with
    | no => rw [hG] at q; exact q.elim
    | ex x st' =>
      rw [hG] at q
      intro H' F' io' T s2
      have kp := keepP T
      obtain ⟨T2, s3, _⟩ := stp_pin g1.sub p (fun a z => .inl z) hF0 hio hx Fout tabP (tabs_delP p hd kp) T s2
      exact ⟨kp, q _ _ _ T2 s3⟩
    | ok d st' =>
      rw [hG] at q
      intro v H' F' io' T s2 rv
      have kp := keepP T
      obtain ⟨T2, s3, k3⟩ := stp_pin g1.sub p (fun a z => .inl z) hF0 hio hx Fout tabP (tabs_delP p hd kp) T s2
      exact ⟨kp, q v _ _ _ T2 s3 (k3 v d rv)⟩
  have r2 : Vals [v1, V.ref f] [u1, Value.ref f] := .cons r1 (.cons rfl .nil)
  have hl : ([u1, Value.ref f] ++ []).length = ps.length := by
    have e := r2.length
    rw [A.ok.len _ _ _ _ sp] at e
    rw [List.append_nil]
    exact e.symm
  have b := A.bnd s' [u1, Value.ref f] I.kIn hl
  rw [List.append_nil] at b
  refine wpAny_call (codeAny_mono (A.ok.run X.A X.stack s' (pin H1 S ob) ⟨[u1, Value.ref f], []⟩ [u1, Value.ref f] _ _ _ A.room e0 b r2 sp) fun r s2 hq => ?_)
  cases r with
  | error e => exact L2N.passAt C0.tk σ pins H1 s' e s2 I (p.cx nfr hq)
  | ok fl =>
    cases fl with
    | ret u => exact I.after (p.ce nfr hq)
    | next => exact False.elim hq
    | brk => exact False.elim hq
    | cont => exact False.elim hq
theorem pe_den_callL {t k : Nat} {e : Expr} {f1 : Sm} {params : Arguments} {body : Expr} {scope : Scope} {js : List Nat} {ld : LamD} {cc P fg : Addr} {g0 : Str} {fd : FuncData} {ps : List Str} {p lp pos : Pos} (C0 : Cok X c W) (A : FnAt X c G g0 2 k fg fd ps) (L : LmAt X c t params body scope js ld cc P) (hfn : ∀ x, X.fn x = true)
    (hg : Gl X g0) (he : PE X e (den c W f1)) (hn : notStar e = true) (hdb : (g0 == ("__debug__" : Str)) = false) : PE X (.Call (.Name g0 p) [e, .Lambda params body scope lp] [] pos) (den c W (eCallL G g0 f1 t js)) := by
  refine ⟨fun pins s σ H Q I ⟨B, F, io, st, rh, g, q⟩ => ?_⟩
  refine wpAny_Call_Name_kw (ld_glob I hg A.glo ?_ hdb)
  refine PySem.W.callWith_K (h₀ := X.base) I.ok.mod.kin A.keep ?_ (star_cons hn) (star_any (by simp [notStar]))
  rw [star_cons hn]
  show wpAny _ _ (spliced ((false, eval e X.env) :: (false, eval (.Lambda params body scope lp) X.env) :: backTo pos (starEach [] X.env))) _ _ s
  refine Calls.spliced_cons (thn (he.run pins s σ H (fun v1 H1 => ∃ F1 io1 st1 d1 cs, Good c B F1 io1 st1 rh σ H1 ∧ Rv c F1 io1 v1 d1 ∧ capsAt rh js = some cs ∧ Pst c W F1 io1 rh σ H1 Q ((G g0 [d1, .clo t cs] st1).bind fun r st2 => .ok (.d r) st2)) I ⟨B, F, io, st, rh, g, ?_⟩) fun u1 s1 ⟨v1, H1, I1, r1, F1, io1, st1, d1, cs, g1, rv1, hcs, q1⟩ => ?_)
  · unfold eCallL at q
    cases hr : f1 rh st with
    | no => rw [hr] at q; exact q.elim
    | ex x st' => rw [hr] at q; exact q
    | ok tv st1 =>
      rw [hr] at q
      have q : Pst c W F io rh σ H Q (match toDv tv with
        | some d => (match capsAt rh js with
          | some cs => (G g0 [d, .clo t cs] st1).bind fun r st2 => .ok (.d r) st2
          | none => .no)
        | none => .no) := q
      intro x H1 F1 io1 S1 s1 T1
      cases ht : toDv tv with
      | none => rw [ht] at q; exact q.elim
      | some d1 =>
        rw [ht] at q
        have q : Pst c W F io rh σ H Q (match capsAt rh js with
          | some cs => (G g0 [d1, .clo t cs] st1).bind fun r st2 => .ok (.d r) st2
          | none => .no) := q
        cases hcs : capsAt rh js with
        | none => rw [hcs] at q; exact q.elim
        | some cs =>
          rw [hcs] at q
          have q : Pst c W F io rh σ H Q ((G g0 [d1, .clo t cs] st1).bind fun r st2 => .ok (.d r) st2) := q
          obtain ⟨F2, S2, s2, r2⟩ := Tvs.give S1 s1 T1 ht
          exact ⟨F2, io1, st1, d1, cs, g.step S2 s2, r2, rfl, Pst.step g S2 q⟩
  · have hT : LamX.Tabs c.T H1 := g1.stp.tab g1.btab
    have hfree : ∀ y ∈ scope.names, y.2 = .free → ∃ a, X.env.cells.lookup y.1 = some a := fun y hy ey => (L.free y hy ey).2.elim (fun z => I.ok.has _ (.inl z)) fun z => I.ok.has _ (.inr z)
    have hq := L.hq
    refine Calls.spliced_cons (lam_make3 I1 L.tab L.code (by rw [← hq]; exact L.mem) (by rw [← hq]; exact L.one) hT L.dfl hfree fun f c' H2 s2 m => ?_)
    refine Calls.spliced_nil ⟨m.inv.kIn, ?_⟩
    exact run_lam C0 A L g1 m (Nat.le_trans I1.ok.bsz I1.sz) hfn hcs r1 rv1 (Pst.step g1 (m.stp g1) q1)
end
end KL

namespace KL
open PySem L2

/-! ### the lambda that is met -/
def eqL {α : Type} (f : α → α → Bool) : List α → List α → Bool
  | [], [] => true
  | a :: as, b :: bs => f a b && eqL f as bs
  | _, _ => false
theorem eqL_ok {α : Type} {f : α → α → Bool} (hf : ∀ a b, f a b = true → a = b) : ∀ {as bs : List α}, eqL f as bs = true → as = bs
  | [], [], _ => rfl
  | [], _ :: _, h => by cases h
  | _ :: _, [], h => by cases h
  | a :: as, b :: bs, h => by
    unfold eqL at h
    rw [Bool.and_eq_true] at h
    rw [hf a b h.1, eqL_ok hf h.2]
def eqE : Nat → Expr → Expr → Bool
  | n + 1, .Name x p, .Name y q => decide (x = y) && decide (p = q)
  | n + 1, .Attribute a m p, .Attribute b k q => eqE n a b && decide (m = k) && decide (p = q)
  | n + 1, .Subscript a i p, .Subscript b j q => eqE n a b && eqE n i j && decide (p = q)
  | n + 1, .Call f as [] p, .Call g bs [] q => eqE n f g && eqL (eqE n) as bs && decide (p = q)
  | _, _, _ => false
theorem eqE_ok : ∀ (n : Nat) (a b : Expr), eqE n a b = true → a = b := by
  intro n
  induction n with
  | zero => intro a b h; cases a <;> cases b <;> cases h
  | succ n ih =>
    intro a b h
    unfold eqE at h
    split at h
    · simp only [Bool.and_eq_true, decide_eq_true_eq] at h
      rename_i e
      cases e
      rw [h.1, h.2]
    · simp only [Bool.and_eq_true, decide_eq_true_eq] at h
      rename_i e
      cases e
      rw [ih _ _ h.1.1, h.1.2, h.2]
    · simp only [Bool.and_eq_true, decide_eq_true_eq] at h
      rename_i e
      cases e
      rw [ih _ _ h.1.1, ih _ _ h.1.2, h.2]
    · simp only [Bool.and_eq_true, decide_eq_true_eq] at h
      rename_i e
      cases e
      rw [ih _ _ h.1.1, eqL_ok ih h.1.2, h.2]
    · cases h
def eqArg (a b : Arg) : Bool := decide (a.arg = b.arg) && decide (a.pos = b.pos) && a.annotation.isNone && b.annotation.isNone
theorem eqArg_ok (a b : Arg) (h : eqArg a b = true) : a = b := by
  unfold eqArg at h
  simp only [Bool.and_eq_true, decide_eq_true_eq, Option.isNone_iff_eq_none] at h
  obtain ⟨⟨⟨h1, h2⟩, h3⟩, h4⟩ := h
  cases a; cases b
  simp_all
def plainArgs (a : Arguments) : Bool := a.posonlyargs.isEmpty && a.vararg.isNone && a.kwonlyargs.isEmpty && a.kw_defaults.isEmpty && a.kwarg.isNone && a.defaults.isEmpty
def eqArgs (a b : Arguments) : Bool := plainArgs a && plainArgs b && eqL eqArg a.args b.args
theorem eqArgs_ok {a b : Arguments} (h : eqArgs a b = true) : a = b := by
  unfold eqArgs plainArgs at h
  simp only [Bool.and_eq_true, List.isEmpty_iff, Option.isNone_iff_eq_none] at h
  obtain ⟨⟨⟨⟨⟨⟨⟨a1, a2⟩, a3⟩, a4⟩, a5⟩, a6⟩, ⟨⟨⟨⟨⟨b1, b2⟩, b3⟩, b4⟩, b5⟩, b6⟩⟩, h⟩ := h
  have e := eqL_ok eqArg_ok h
  cases a; cases b
  simp_all
theorem dfl_plain {a : Arguments} (h : plainArgs a = true) (env : Env) : defaultsOf a env = ([], []) := by
  unfold plainArgs at h
  simp only [Bool.and_eq_true, List.isEmpty_iff, Option.isNone_iff_eq_none] at h
  obtain ⟨⟨⟨⟨⟨a1, a2⟩, a3⟩, a4⟩, a5⟩, a6⟩ := h
  cases a
  simp only at a1 a2 a3 a4 a5 a6
  subst a1 a2 a3 a4 a5 a6
  rfl
instance : DecidableEq Scope := inferInstance
/-- ld is this lambda, met in a def whose lambdas have the name q, whose names are N, scope sc -/
def eqLam (q : Str) (sc : Scope) (params : Arguments) (body : Expr) (scope : Scope) (ld : LamD) : Bool :=
  decide (ld.qual = q) && eqArgs ld.params params && plainArgs params && eqE 6 ld.body body && decide (ld.scope = scope) && (scope.names.all fun y => !decide (y.2 = .free) || (ld.fr.contains y.1 && (decide (sc.names.lookup y.1 = some .cell) || decide (sc.names.lookup y.1 = some .free)))) && ld.fr.all fun y => decide ((y, NameKind.free) ∈ scope.names)
def findLam (f : LamD → Bool) : Nat → List LamD → Option (Nat × LamD)
  | _, [] => none
  | i, ld :: r => if f ld then some (i, ld) else findLam f (i + 1) r
theorem findLam_ok {f : LamD → Bool} : ∀ {ls : List LamD} {i t : Nat} {ld : LamD}, findLam f i ls = some (t, ld) → i ≤ t ∧ ls[t - i]? = some ld ∧ f ld = true
  | [], _, _, _, h => by cases h
  | l :: ls, i, t, ld, h => by
    unfold findLam at h
    split at h
    · rename_i hf
      cases h
      exact ⟨Nat.le_refl _, by simp, hf⟩
    · obtain ⟨h1, h2, h3⟩ := findLam_ok h
      refine ⟨by omega, ?_, h3⟩
      rw [show t - i = (t - (i + 1)) + 1 by omega]
      simpa using h2
end KL

namespace KL
open PySem L2

/-! ### a thing of the store locked while an expression runs -/
def lockO : O → Option O
  | .dct false kvs => some (.dct true kvs)
  | .lst ds => some (.lsk ds)
  | _ => none
def unlockO : O → Option O
  | .dct true kvs => some (.dct false kvs)
  | .lsk ds => some (.lst ds)
  | _ => none
def keysO : O → Option (List D)
  | .dct true kvs => some (kvs.map fun p => .str p.1)
  | .lsk ds => some ds
  | .dcT _ kvs => some (kvs.map fun p => tI p.1)
  | _ => none
/-- a dict that stays as it is: it needs no lock -/
def isT : O → Bool
  | .dcT _ _ => true
  | _ => false
def iLk (fa : Sm) : Im := fun rh st => (fa rh st).bind fun t st1 => match t with
  | .d (.loc n) => (match st1[n]? with
    | some o => oR (keysO o) st1
    | none => .no)
  | _ => .no
def eLk (fa f1 f2 : Sm) : Sm := fun rh st => match fa rh st with
  | .ok (.d (.loc n)) _ => (match st[n]? with
    | some o => if isT o then f1 rh st else (match lockO o with
      | some o1 => (match f1 rh (st.set n o1) with
        | .ok (.fr ys) st2 => (match st2[n]?.bind unlockO with
          | some o2 => .ok (.fr ys) (st2.set n o2)
          | none => .no)
        | _ => .no)
      | none => .no)
    | none => .no)
  | _ => f2 rh st
/-! the keys of a dict that stays as it is -/
def ItZ (d : Addr) (o : Obj) (xs : List (List Key × Addr × Value)) : It :=
  ⟨fun i H => H d = some (.frz o (.own 0)) ∧ i < xs.length, fun i H x H' => H' = H ∧ ∃ z, xs[i]? = some z ∧ x = .ref z.2.1, fun i H => H d = some (.frz o (.own 0)) ∧ xs.length ≤ i⟩
section
variable {P : Program} {w : World} {K : PySem.W.Frag} {tg : Expr} {d : Addr} {o : Obj} {es : Array DictEntry} {ep : Nat}
theorem turnZ {xs : List (List Key × Addr × Value)} (it : Addr) (hod : o.data = .dict es ep) (he : ∀ (P : Program) (w : World), es.toList = xs.map (entryOfKey (tupleKind (mixKind P w)))) : Turn P w K tg (ItZ d o xs) [it] it (fun i h => h.IsKeyIter it d i xs.length ep) where
  mem := by simp
  obj := fun i h st b hb => by
    have e : b = it := by simpa using hb
    subst e
    obtain ⟨oi, e, c, dd⟩ := st
    exact ⟨oi, e, fun v z => by rw [dd] at z; cases z⟩
  keep := fun i h h' st k => st.at fun oi e => k it (by simp) oi e
  item := by
    intro X hP hw hK hc i pins s σ H E I hf st hg
    subst hP hw hK
    obtain ⟨hd, hi⟩ := hg
    obtain ⟨f0, f1, f2, f3, f4, f5⟩ := hf it (by simp)
    obtain ⟨hgd, _⟩ := I.hok d _ hd
    have hsz : es.size = xs.length := size_of_entries (he X.prog X.w)
    obtain ⟨z, hz⟩ : ∃ p, xs[i]? = some p := ⟨xs[i], List.getElem?_eq_getElem hi⟩
    have hen : es[i]? = some (entryOfKey (tupleKind (mixKind X.prog X.w)) z) := by
      have q := entry_at (he X.prog X.w) i
      rw [hz] at q
      exact q
    refine next_key_item st hgd hod hsz hen fun h' st' sb => ?_
    have I1 : Inv X pins σ H { s with heap := h' } := I.turned (t' := s.toks) (fun b ob hb e => (sb.2 b hb).trans e) f0 f1 f3 f4 f5
    obtain ⟨oi, e, c, dd⟩ := id st'
    exact ⟨_, rfl, go_of (s := { s with heap := h' }) e c dd (by decide) ⟨.ref z.2.1, H, I1, rfl, ⟨rfl, z, hz, rfl⟩, st', fun b hb => (hf b hb).1⟩⟩
  done := by
    intro X hP hw hK hc i pins s σ H E I hf st hg
    subst hP hw hK
    obtain ⟨hd, hi⟩ := hg
    obtain ⟨f0, f1, f2, f3, f4, f5⟩ := hf it (by simp)
    obtain ⟨hgd, _⟩ := I.hok d _ hd
    have hsz : es.size = xs.length := size_of_entries (he X.prog X.w)
    exact next_key_end (I.ok.hd hc) st hgd hod hsz hi fun h' eb => ⟨rfl, I.turned (t' := s.toks) (fun b ob hb e => eb b ob hb e) f0 f1 f3 f4 f5⟩
  self := fun A i s Q E st h => by
    refine wpAny_pyIter_slot st.typeIs F.slot_dict_keyiterator_iter (wpAny_call_entry F.slot_dict_keyiterator_iter st.typeIs F.entry_dict_keyiterator_iter ?_ (F.args_dict_keyiterator_iter_1 _))
    exact wpAny_pure ⟨_, rfl, "dict_keyiterator", _, st.typeIs, F.slot_dict_keyiterator_next.lookup, h⟩
end
def iKeysZ (td : TE) : TI := fun σ H R => td σ H fun x H1 => ∃ d o xs, x = .ref d ∧ H1 d = some (.frz o (.own 0)) ∧ DzP d o xs ∧ R (ItZ d o xs) H1
theorem pi_keysZ {X : Cx} {tg e : Expr} {td : TE} (he : PE X e td) : PI X tg e (iKeysZ td) := by
  refine ⟨fun pins s σ H R I h => ?_⟩
  refine thn (he.run pins s σ H _ I h) fun u s1 ⟨x, H1, I1, rx, d, o, xs, ex, hd, z, q⟩ => ?_
  subst ex
  obtain rfl : u = Value.ref d := rx
  obtain ⟨z1, z2, z3, z4, es, ep, z5, z6⟩ := z
  obtain ⟨hgd, _⟩ := I1.hok d _ hd
  have hsz : es.size = xs.length := size_of_entries (z6 X.prog X.w)
  refine iter_keys z2 hgd z1 z5 (pi_one (tk := s1.toks) I1 _ (turnZ _ z5 z6) ⟨_, Heap.get?_push_size _ rfl, rfl, ?_⟩ q)
  rw [hsz] <;> rfl
theorem yc_z {c : Ct} {F H : Hp} {io : List Addr} {d : Addr} {o : Obj} {xs : List (List Key × Addr × Value)} {ds : List D} (hs : ∀ a o, F a = some o → H a = some o) (h : H d = some (.frz o (.own 0))) (r : RvAll c F io (xs.map fun q => V.ref q.2.1) ds) : YC c (ItZ d o xs) F io H ds := by
  refine ⟨fun i d' e => ?_, h, ?_⟩
  · obtain ⟨v, e1, rv⟩ := r.get e
    rw [List.getElem?_map, Option.map_eq_some_iff] at e1
    obtain ⟨z, e2, rfl⟩ := e1
    refine ⟨⟨h, lt_of_get e2⟩, fun x H' ⟨eH, z', ez, ex⟩ => ?_⟩
    subst eH ex
    rw [e2] at ez
    cases ez
    exact ⟨F, Stp.refl hs, fun _ _ => rfl, rv⟩
  · have q := r.length
    rw [List.length_map] at q
    rw [← q]
    exact Nat.le_refl _
section
variable {X : Cx} {c : Ct} {W : WX} {B : Bs} {F F' F1 F2 H H' H1 H2 : Hp} {io io' io1 io2 : List Addr} {st st' st1 st2 : Sto} {rh : Rho} {σ : St} {v : V} {t : TV} {d : D} {a : Addr} {o o' : O} {fa f1 f2 : Sm} {tg e : Expr}
theorem Sim.setObj (g : Sim c F io st) {n : Nat} {a : Addr} {ho : HO} {o' : O} (hn : io[n]? = some a) (ho' : Ob c (upd F a ho) io a o') : Sim c (upd F a ho) io (st.set n o') := by
  have ha : a ∈ io := List.mem_of_getElem? hn
  have P : Per0 F io (upd F a ho) io := Per0.upd ha
  have hnl : n < io.length := (List.getElem?_eq_some_iff.mp hn).1
  refine ⟨by rw [List.length_set]; exact g.len, g.nd, fun m b o e1 e2 => ?_⟩
  by_cases z : n = m
  · subst z
    rw [hn] at e1
    cases e1
    rw [List.getElem?_set_self (by rw [← g.len]; exact hnl)] at e2
    cases e2
    exact ho'
  · rw [List.getElem?_set_ne z] at e2
    have q := g.ob m b o e1 e2
    have hb : b ≠ a := fun y => by
      subst y
      have i1 := List.getElem?_eq_some_iff.mp hn
      have i2 := List.getElem?_eq_some_iff.mp e1
      exact z ((List.getElem_inj g.nd).mp (i1.2.trans i2.2.symm))
    exact q.per P (upd_ne hb)
theorem lock_ok (h : Ob c F io a o) (ha : a ∈ io) (e : lockO o = some o') : ∃ u, F a = some u ∧ Mut (some u) ∧ (∀ ob w, u ≠ .frz ob w) ∧ ∀ od, Ob c (upd F a (.frz od u)) io a o' := by
  cases o with
  | lst ds => cases e; obtain ⟨vs, e1, r⟩ := h; exact ⟨_, e1, trivial, (fun _ _ z => by cases z), fun od => ⟨od, vs, upd_same, r.perm (Per0.upd ha)⟩⟩
  | dct lk kvs => cases lk with
    | false => cases e; obtain ⟨vs, e1, r⟩ := h; exact ⟨_, e1, trivial, (fun _ _ z => by cases z), fun od => ⟨od, vs, upd_same, r.perm (Per0.upd ha)⟩⟩
    | true => cases e
  | dcT lk kvs => cases e
  | ins C fs => cases e
  | lsk ds => cases e
theorem unlock_ok {od : Obj} {u : HO} (h : Ob c F io a o) (ha : a ∈ io) (e : unlockO o = some o') (hf : F a = some (.frz od u)) : Ob c (upd F a u) io a o' := by
  cases o with
  | lsk ds => cases e; obtain ⟨ob, vs, e1, r⟩ := h; rw [hf] at e1; cases e1; exact ⟨vs, upd_same, r.perm (Per0.upd ha)⟩
  | dct lk kvs => cases lk with
    | true => cases e; obtain ⟨ob, vs, e1, r⟩ := h; rw [hf] at e1; cases e1; exact ⟨vs, upd_same, r.perm (Per0.upd ha)⟩
    | false => cases e
  | dcT lk kvs => cases e
  | ins C fs => cases e
  | lst ds => cases e
/-- a step taken while an object was locked, seen without the lock -/
theorem Stp.unlock {od : Obj} {u : HO} (hs : ∀ a o, F a = some o → H a = some o) (ha : a ∈ io) (hu : F a = some u) (mu : Mut (some u)) (hne : ∀ ob w, u ≠ .frz ob w) (ht : ∀ ps, u ≠ .tbl ps) (hx : ∀ φ, u ≠ .ext φ) (S : Stp c (upd F a (.frz od u)) io (upd H a (.frz od u)) F2 io2 H2) :
    Stp c F io H (upd F2 a u) io2 (upd H2 a u) := by
  have f2 : F2 a = some (.frz od u) := S.lck a od u upd_same
  have h2 : H2 a = some (.frz od u) := S.sub a _ f2
  refine ⟨fun b w e => ?_, S.ext, fun b w e nb => ?_, fun b e => ?_, fun b w e nb hw => ?_, fun b e => ?_, fun b hb => ?_, fun h0 => ?_, fun h0 => ?_, fun b ob w e => ?_⟩
  · by_cases z : b = a
    · subst z; rw [upd_same] at e ⊢; exact e
    · rw [upd_ne z] at e ⊢; exact S.sub b w e
  · have z : b ≠ a := fun z => nb (by rw [z]; exact ha)
    rw [upd_ne z]; exact S.per b w (by rw [upd_ne z]; exact e) nb
  · by_cases z : b = a
    · subst z; exact .inl (by rw [hu]; simp)
    · rw [upd_ne z] at e
      rcases S.new b e with q | q
      · rw [upd_ne z] at q; exact .inl q
      · rw [upd_ne z] at q; exact .inr q
  · have z : b ≠ a := fun z => nb (by rw [z]; exact ha)
    rw [upd_ne z]; exact S.fr b w (by rw [upd_ne z]; exact e) nb hw
  · by_cases z : b = a
    · subst z; rw [upd_same] at e; cases e
    · rw [upd_ne z] at e; have q := S.gro b e; rw [upd_ne z] at q; exact q
  · rcases S.nio b hb with q | q
    · exact .inl q
    · by_cases z : b = a
      · subst z; exact .inl ha
      · rw [upd_ne z] at q; exact .inr q
  · exact tabs_upd (S.tab (tabs_upd h0 (hs a _ hu) ht hx)) h2 (fun _ z => by cases z) (fun _ z => by cases z)
  · exact (S.ntb (h0.upd (fun _ z => by cases z))).upd ht
  · have z : b ≠ a := fun z => hne ob w (by rw [z, hu] at e; exact Option.some.inj e)
    rw [upd_ne z]; exact S.lck b ob w (by rw [upd_ne z]; exact e)
theorem RvF.lens {κ : Type} : ∀ {vs : List (κ × V)} {kvs : List (κ × D)}, RvF c F io vs kvs → kvs.map (·.1) = vs.map (·.1)
  | _, _, .nil => rfl
  | _, _, .cons _ r => by rw [List.map_cons, List.map_cons, r.lens]
/-- the items of a locked thing -/
theorem pi_lk (hK : X.K = c.K) (ha : PE X e (den c W fa)) : PI X tg e (denI c W (YldS c) (iLk fa)) := by
  refine PI.weak (PI.or (PI.or (pi_keys ha) (pi_list ha)) (pi_keysZ ha)) fun σ H Q ⟨B, F, io, st, rh, g, h⟩ => ?_
  unfold iLk at h
  cases hr : fa rh st with
  | no => rw [hr] at h; exact h.elim
  | ex x s => rw [hr] at h; exact .inl (.inr ⟨B, F, io, st, rh, g, by rw [hr]; exact h⟩)
  | ok t st1 =>
    rw [hr] at h
    cases t with
    | d d =>
      cases d with
      | loc n =>
        have h : PstI c W F io σ H (YldS c) Q (match st1[n]? with
          | some o => oR (keysO o) st1
          | none => .no) := h
        cases hq : st1[n]? with
        | none => rw [hq] at h; exact h.elim
        | some o =>
          rw [hq] at h
          have h : PstI c W F io σ H (YldS c) Q (oR (keysO o) st1) := h
          cases o with
          | lsk ds =>
            refine .inl (.inr ⟨B, F, io, st, rh, g, ?_⟩)
            rw [hr]
            intro w H' F' io' S s' T
            cases T with
            | loc hn =>
              rename_i a
              obtain ⟨ob, vs, e1, r⟩ := s'.ob n _ _ hn hq
              refine ⟨a, rfl, ⟨vs, .inl (.inr ⟨ob, S.sub _ _ e1⟩)⟩, ?_⟩
              rw [hK]
              exact h _ H' F' io' S s' fun F2 io2 H2 st2 S2 s2 => yc_lst S2.sub (.inl (.inr ⟨ob, S2.sub _ _ (S2.lck _ _ _ e1)⟩)) (r.step S2 S.sub)
          | dct lk kvs =>
            cases lk with
            | false => exact h.elim
            | true =>
              refine .inl (.inl ⟨B, F, io, st, rh, g, ?_⟩)
              rw [hr]
              intro w H' F' io' S s' T
              cases T with
              | loc hn =>
                rename_i a
                obtain ⟨ob, vs, e1, r⟩ := s'.ob n _ _ hn hq
                refine ⟨a, ob, rfl, .inl ⟨_, S.sub _ _ e1, h _ H' F' io' S s' fun F2 io2 H2 st2 S2 s2 => ⟨fun i d e => ?_, S2.sub _ _ (S2.lck _ _ _ e1), ?_⟩⟩⟩
                · rw [List.getElem?_map, Option.map_eq_some_iff] at e
                  obtain ⟨p, e2, rfl⟩ := e
                  have l1 := r.lens
                  have e3 : vs[i]?.map (·.1) = some p.1 := by
                    rw [← List.getElem?_map, ← l1, List.getElem?_map, e2]; rfl
                  rw [Option.map_eq_some_iff] at e3
                  obtain ⟨p', e3, e4⟩ := e3
                  refine ⟨⟨S2.sub _ _ (S2.lck _ _ _ e1), by rw [List.length_map]; exact lt_of_get e3⟩, fun x H3 ⟨eH, k, v, hk, ex⟩ => ?_⟩
                  subst eH ex
                  rw [List.getElem?_map, e3] at hk
                  cases hk
                  refine ⟨F2, Stp.refl S2.sub, fun _ _ => rfl, ?_⟩
                  show Rv c F2 io2 (.str p'.1) (.str p.1)
                  rw [e4]
                  exact .str _
                · have l1 := congrArg List.length r.lens
                  rw [List.length_map, List.length_map] at l1
                  rw [List.length_map, List.length_map, l1]
                  exact Nat.le_refl _
          | dcT lk kvs =>
            refine .inr ⟨B, F, io, st, rh, g, ?_⟩
            rw [hr]
            intro w H' F' io' S s' T
            cases T with
            | loc hn =>
              rename_i a
              obtain ⟨ob, xs, vs, e1, z, pr, rk, r⟩ := s'.ob n _ _ hn hq
              exact ⟨a, ob, xs, rfl, S.sub _ _ e1, z, h _ H' F' io' S s' fun F2 io2 H2 st2 S2 s2 => yc_z S2.sub (S2.sub _ _ (S2.lck _ _ _ e1)) (rk.step S2 S.sub)⟩
          | ins C fs => exact h.elim
          | lst ds => exact h.elim
      | _ => exact h.elim
    | _ => exact h.elim
theorem PS.or {X : Cx} {e : Stmt} {t t' : TS} (h : PS X e t) (h' : PS X e t') : PS X e (fun D σ H => t D σ H ∨ t' D σ H) := ⟨fun pins s σ H Q I q => q.elim (h.run pins s σ H Q I) (h'.run pins s σ H Q I)⟩
theorem lk_of {σ : St} {H : Hp} {Q : VK} (h : den c W (eLk fa f1 f2) σ H Q) : tLockE (den c W f1) σ H Q ∨ den c W f1 σ H Q ∨ den c W f2 σ H Q := by
  obtain ⟨B, F, io, st, rh, g, p⟩ := h
  unfold eLk at p
  have alt : Pst c W F io rh σ H Q (f2 rh st) → tLockE (den c W f1) σ H Q ∨ den c W f1 σ H Q ∨ den c W f2 σ H Q := fun h => .inr (.inr ⟨B, F, io, st, rh, g, h⟩)
  cases hr : fa rh st with
  | no => rw [hr] at p; exact alt p
  | ex x s => rw [hr] at p; exact alt p
  | ok t st1 =>
    rw [hr] at p
    cases t with
    | o i => exact alt p
    | fr ds => exact alt p
    | d d =>
      cases d with
      | loc n =>
        simp only at p
        cases hq : st[n]? with
        | none => rw [hq] at p; exact p.elim
        | some o =>
          rw [hq] at p
          simp only at p
          by_cases hit : isT o = true
          · rw [if_pos hit] at p
            exact .inr (.inl ⟨B, F, io, st, rh, g, p⟩)
          rw [if_neg hit] at p
          cases hl : lockO o with
          | none => rw [hl] at p; exact p.elim
          | some o1 =>
            rw [hl] at p
            simp only at p
            have hlen : n < io.length := by rw [g.sim.len]; exact lt_of_get hq
            have hn : io[n]? = some io[n] := List.getElem?_eq_getElem hlen
            generalize io[n] = a at hn
            have ha : a ∈ io := List.mem_of_getElem? hn
            obtain ⟨u, hu, mu, hne, hob⟩ := lock_ok (g.sim.ob n a o hn hq) ha hl
            obtain ⟨u', hu', ht, hx⟩ := g.sim.kind ha
            rw [hu] at hu'
            cases hu'
            refine .inl ⟨a, u, g.sub _ _ hu, mu, fun od => ?_⟩
            refine ⟨B, _, io, _, rh, g.setObj (fun ob w z => by rw [hu] at z; exact hne ob w (Option.some.inj z)) hn (hob od), ?_⟩
            cases hf : f1 rh (st.set n o1) with
            | no => rw [hf] at p; exact p.elim
            | ex x s => rw [hf] at p; exact p.elim
            | ok t2 st2 =>
              rw [hf] at p
              cases t2 with
              | d d => exact p.elim
              | o i => exact p.elim
              | fr ys =>
                simp only at p
                cases hb : st2[n]?.bind unlockO with
                | none => rw [hb] at p; exact p.elim
                | some o2 =>
                  rw [hb] at p
                  rw [Option.bind_eq_some_iff] at hb
                  obtain ⟨o3, hq2, hul⟩ := hb
                  intro v H2 F2 io2 S2 s2 T2
                  have fl := S2.lck a od u upd_same
                  refine ⟨S2.sub _ _ fl, ?_⟩
                  have hn2 := S2.ix hn
                  have ha2 : a ∈ io2 := List.mem_of_getElem? hn2
                  have P2 : Per0 F2 io2 (upd F2 a u) io2 := Per0.upd ha2
                  refine p v _ _ io2 (S2.unlock g.sub ha hu mu hne ht hx) (s2.setObj hn2 (unlock_ok (s2.ob n a o3 hn2 hq2) ha2 hul fl)) ?_
                  obtain ⟨q, vs, e1, e2, e3, e4, r⟩ := T2
                  have hqa : q ≠ a := fun z => by rw [z, upd_same] at e2; cases e2
                  exact ⟨q, vs, e1, by rw [upd_ne hqa] at e2; exact e2, by rw [upd_ne hqa]; exact e3, by rw [upd_ne hqa]; exact e4, r.perm P2⟩
      | _ => exact alt p
theorem pe_den_lk (h1 : PE X e (den c W f1)) (h2 : PE X e (den c W f2)) : PE X e (den c W (eLk fa f1 f2)) :=
  PE.weak (PE.or (pe_lock h1) (PE.or h1 h2)) fun σ H Q h => lk_of h
end
end KL

namespace KL
open PySem L2

/-! ### o[k], p[l] = a, b -/
theorem stores_sub {o1 b1 o2 b2 : Expr} {p1 p2 : Pos} {k : Nat} {p : Pos} {e : Expr} {env : Env} : swappedStores [.Tuple [.Subscript o1 b1 p1, .Subscript o2 b2 p2] k p] e env = pure none := by
  cases e with
  | Tuple vs k' p' =>
    unfold swappedStores
    simp only [List.filterMap_cons, List.filterMap_nil, List.length_cons, List.length_nil]
    repeat (first | rfl | split)
  | _ => rfl
def rSetD : TSet := fun o i v H Q => ∃ a H', o = .ref a ∧ DPut H a i v H' ∧ Q H'
theorem set_dict {X : Cx} (hu : X.A.units + 1 < cLine) : PSet X rSetD := by
  intro pins s σ H o i v ov iv u Q I ro ri rv h
  obtain ⟨a, H', eo, g, q⟩ := h
  subst eo
  cases (show ov = Value.ref a from ro)
  exact d_setItem hu I g ri rv fun s' I' => ⟨H', I', q⟩
def notSl : Expr → Bool
  | .Slice _ _ _ _ => false
  | _ => true
theorem asg_sub {o b : Expr} {env : Env} {pos : Pos} (h : notSl b = true) : ∀ v, assign (.Subscript o b pos) env v = (do
      let ov ← holding [v] (eval o env)
      let iv ← holding [v, ov] (eval b env)
      standAt pos
      holding [v, ov, iv] (setItem ov iv v)
      release [v, ov, iv] []) := by
  intro v
  cases b <;> first | (cases h; done) | rfl
def sPutD (fo fk : Sm) (d : D) : Ss := fun rh st => sThen fo (fun u st3 rh => sThen fk (fun w st4 rh => match u, w with
    | .d (.loc n), .d k => (match putAt n k d st4 with
      | some st5 => .nx rh st5
      | none => .no)
    | _, _ => .no) rh st3) rh st
def sPut2 (fo1 fk1 fo2 fk2 fe : Sm) : Ss := sThen fe fun t st1 rh => match toDv t with
  | some (.tup [d1, d2]) => sSeq (sPutD fo1 fk1 d1) (sPutD fo2 fk2 d2) rh st1
  | _ => .no
section
variable {X : Cx} {c : Ct} {W : WX} {B : Bs} {F F' F1 F2 H H' H1 : Hp} {io io' io1 io2 : List Addr} {st st' st1 : Sto} {rh : Rho} {σ : St} {v : V} {t : TV} {d : D} {a b e o o' b' : Expr} {fa fb fo fe fk fo' fk' : Sm} {pos p : Pos}
theorem putD_of {D : Ends} (g : Good c B F io st rh σ H) (r : Rv c F io v d) (p : Pss c W B F io D (sPutD fo fk d rh st)) : gSub (den c W fo) (den c W fk) rSetD v σ H D.nx := by
  refine then_of g p fun u st3 x H3 F3 io3 S3 g3 s3 T3 q3 => ?_
  have q3 := Pss.per (S3.perm g.sub) q3
  refine then_of g3 q3 fun w st4 y H4 F4 io4 S4 g4 s4 T4 q4 => ?_
  cases u with
  | d e =>
    cases e with
    | loc n =>
      cases w with
      | d k =>
        simp only at q4
        cases hp : putAt n k d st4 with
        | none => rw [hp] at q4; exact q4.elim
        | some st5 =>
          rw [hp] at q4
          unfold putAt at hp
          split at hp
          · rename_i kvs xk hst
            split at hp
            · rename_i hl
              cases hp
              cases T4
              have T3' : Rv c F4 io4 x (.loc n) := Rv.step S4 g3.sub T3
              cases T3' with
              | loc hn =>
                rename_i a
                obtain ⟨vs, e1, r0⟩ := g4.sim.ob n a _ hn hst
                have rv := (r.step S3 g.sub).step S4 g3.sub
                obtain ⟨ws, e2, r3⟩ := r0.put (k := xk) rv
                have ha : a ∈ io4 := List.mem_of_getElem? hn
                have P : Per F4 io4 (upd F4 a (.dK (kS ws))) io4 := Per.upd ha (fun o u z => by rw [e1] at z; cases z)
                have e3 : putK (vs.map fun p => ((Sum.inr p.1 : Key), p.2)) (Sum.inr xk) v = kS ws := e2
                refine ⟨a, _, rfl, DPut.k (k := Sum.inr xk) (g4.sub _ _ e1) (by rw [List.length_map, r0.len]; exact hl), ?_⟩
                rw [e3]
                exact q4 σ _ (upd F4 a (.dK (kS ws))) io4 ((S4.perm g3.sub).trans P) (g4.setObj (fun o u z => by rw [e1] at z; cases z) hn ⟨ws, upd_same, r3.perm P⟩)
            · cases hp
          · cases hp
      | _ => exact q4.elim
    | _ => exact q4.elim
  | _ => exact q4.elim
theorem put2_of {K : PySem.W.Frag} (hK : K = c.K) {D : Ends} {σ : St} {H : Hp} (h : denS c W (sPut2 fo fk fo' fk' fe) D σ H) :
    tAsg (den c W fe) (gTup K 2 (gCons (gSub (den c W fo) (den c W fk) rSetD) (gCons (gSub (den c W fo') (den c W fk') rSetD) gNil))) D σ H := by
  obtain ⟨B, F, io, st, rh, g, p⟩ := h
  refine then_of g p fun t st1 v H1 F1 io1 S g1 s1 T q => ?_
  cases ht : toDv t with
  | none => simp only [ht] at q; exact q.elim
  | some d =>
    simp only [ht] at q
    obtain ⟨F2, S2, s2, r2⟩ := Tvs.give S s1 T ht
    split at q
    · rename_i d1 d2 hd
      cases hd
      have g2 := g.step S2 s2
      cases r2 with
      | tup hh r =>
        cases r with
        | cons r1 r =>
          cases r with
          | cons r2 r =>
            cases r
            rename_i a v1 v2
            refine ⟨a, [v1, v2], rfl, ?_, rfl, v1, [v2], rfl, ?_⟩
            · subst hK
              rcases hh with ⟨o, h1, h2, _⟩ | ⟨o, its, n, h1, h2, _, h3⟩
              · exact .inl (.inr ⟨o, g2.sub _ _ h1⟩)
              · exact .inr ⟨o, its, n, h1, h2, h3⟩
            · have q := Pss.per (S2.perm g.sub) q
              unfold sSeq at q
              refine putD_of (D := { D with nx := fun σ' H' => ∃ v r, [v2] = v :: r ∧ gSub (den c W fo') (den c W fk') rSetD v σ' H' fun σ' H' => gNil r σ' H' D.nx }) g2 r1 ?_
              cases hq : sPutD fo fk d1 rh st1 with
              | nx rh1 st2 =>
                rw [hq] at q
                have q : Pss c W B F2 io1 D (sPutD fo' fk' d2 rh1 st2) := q
                exact fun σ' H' F' io' P g' => ⟨v2, [], rfl, putD_of (D := { D with nx := fun σ' H' => gNil [] σ' H' D.nx }) g' (r2.perm P) (by
                  have q := Pss.per P q
                  revert q
                  cases sPutD fo' fk' d2 rh1 st2 with
                  | nx rh2 st3 => exact fun q σ' H' F' io' P g' => ⟨rfl, q σ' H' F' io' P g'⟩
                  | rt d s => exact fun q => q
                  | bk rh' s => exact fun q => q
                  | ct rh' s => exact fun q => q
                  | ex e rh' s => exact fun q => q
                  | no => exact fun q => q)⟩
              | rt d s => rw [hq] at q; exact q
              | bk rh' s => rw [hq] at q; exact q
              | ct rh' s => rw [hq] at q; exact q
              | ex e rh' s => rw [hq] at q; exact q
              | no => rw [hq] at q; exact q
    · exact q.elim
theorem ps_den_put2 (hK : X.K = c.K) (hc : X.calm = true) (hu : X.A.units + 65 < cLine) {p1 p2 pt : Pos} {kt : Nat} (ho : PE X o (den c W fo)) (hk : PE X b (den c W fk)) (ho' : PE X o' (den c W fo')) (hk' : PE X b' (den c W fk')) (he : PE X e (den c W fe)) (hb : notSl b = true) (hb' : notSl b' = true) (hs : swapsWithSole [.Tuple [.Subscript o b p1, .Subscript o' b' p2] kt pt] e pos.line X.env = pure false) :
    PS X (.Assign [.Tuple [.Subscript o b p1, .Subscript o' b' p2] kt pt] e pos) (denS c W (sPut2 fo fk fo' fk' fe)) :=
  PS.weak (ps_asg he (pg_tup hc (pgs_cons (pg_sub ho hk (set_dict (by omega)) (asg_sub hb)) (pgs_cons (pg_sub ho' hk' (set_dict (by omega)) (asg_sub hb')) pgs_nil))) hs stores_sub) fun D σ H h => put2_of hK h
end
end KL

namespace KL
open PySem L2

/-! ### list.count of truths -/
theorem vals_bl : ∀ {bs : List Bool} {us : List Value}, Vals (bs.map V.bl) us → us = bs.map Value.bool
  | [], _, h => by cases h; rfl
  | b :: bs, _, h => by
    cases h with
    | cons h1 h2 =>
      rw [vals_bl h2]
      have e : _ = Value.bool b := h1
      rw [e]
      rfl
def isBl (k : Bool) : Value → Bool
  | .bool b => b == k
  | _ => false
theorem cnt_bl (k : Bool) : ∀ bs : List Bool, (bs.map Value.bool).countP (isBl k) = bs.count k
  | [] => rfl
  | b :: bs => by
    rw [List.map_cons, List.countP_cons, cnt_bl k bs, List.count_cons]
    rfl
def rCntB (K : PySem.W.Frag) : V → List V → Hp → VK → Prop := fun x xs H Q => ∃ (a : Addr) (bs : List Bool) (k : Bool), x = .ref a ∧ xs = [.bl k] ∧ SqL K H a (bs.map V.bl) ∧ Q (.int (bs.count k : Nat)) H
theorem mt_cntB {X : Cx} : MtR X "list.count" (rCntB X.K) := by
  intro pins s σ H x xs v us Q I rx rxs h
  obtain ⟨a, bs, k, rfl, rfl, hs, q⟩ := h
  cases rx
  obtain ⟨u, rfl, ru⟩ := rxs.one
  have ru : u = .bool k := ru
  subst ru
  obtain ⟨its, rv, ⟨⟨cls, dd, data, sl⟩, n, ho, hc, hdn, hd⟩, hlen⟩ := I.list hs
  simp only at hc hd
  subst hc hd
  have hi := vals_bl rv
  subst hi
  refine call_meets PySem.F.slot_list_count ⟨_, ho, rfl⟩ PySem.F.entry_list_count (PySem.F.args_list_count_2 _ _)
    (SeqAt.list_countAt a (bs.map Value.bool).toArray n dd sl (.bool k) (isBl k)) ⟨ho, fun y hy => ?_, ?_⟩
  · have hy : y ∈ bs.map Value.bool := by simpa using hy
    obtain ⟨b, _, rfl⟩ := List.mem_map.mp hy
    exact SeqAt.EqAt.bool_bool b k
  · have ec : (bs.map Value.bool).toArray.toList.countP (isBl k) = bs.count k := cnt_bl k bs
    refine ⟨.int (bs.count k : Nat), H, I.tok _, ⟨s.toks, ?_⟩, q⟩
    rw [ec]
/-! ### isinstance of the exception that is handled -/
theorem call_isW {X : Cx} {a D : Addr} {oe : Obj} (C : ExcC X.K D) (hp : (a, oe) ∈ X.pn) (h1 : oe.cls = .ref D) (h2 : oe.dict = none) (hf : ∃ vs, oe.data = .fields vs) : CallR X (.builtin "isinstance") (rIsE X.K D a) := by
  intro pins s σ H xs us Q I r h
  obtain ⟨c, cv, b, rfl, hcv, e, q⟩ := h
  cases r with
  | cons rx rr =>
    cases rr with
    | cons rt rr =>
      cases rr
      cases rx
      have ec := hcv _ rt
      subst ec
      have hget := (I.pin (a, oe) (List.mem_append_left _ hp)).1
      obtain ⟨vs, hv⟩ := hf
      have J : PySem.W.InstAt s.heap a oe D none := by
        obtain ⟨oc, od, oda, osl⟩ := oe
        dsimp only at h1 h2 hv
        subst h1 h2 hv
        exact ⟨hget, rfl, rfl, trivial⟩
      exact PySem.W.kia_one (PySem.W.handS_kitx_exc C.hg C.hk C.hs C.hd C.ha C.hn C.ht C.hm) I.kIn J e (fun z => nomatch z) fun tk => ⟨.bl b, H, I.kept (t' := tk) fun _ _ z => z, rfl, q⟩
end KL

namespace KL
open PySem L2

/-! ### the word of an exception -/
def wIs (x : Str) (q : Nat → Pos) (n : Nat) : Expr := .Call (.Name "isinstance" (q n)) [.Name "kept" (q (n + 1)), .Name x (q (n + 2))] [] (q (n + 3))
def wTest (q : Nat → Pos) : Expr := .BoolOp .Or [.Compare (.Call (.Attribute (.Name "kinds" (q 24)) "count" (q 25)) [.Constant (.bool true) 0 (q 26)] [] (q 27)) [.NotEq] [.Constant (.int 1) 0 (q 28)] (q 29), .UnaryOp .Not (wIs "ValueError" q 30) (q 34)] (q 35)
def wTell (q : Nat → Pos) : Expr := .Subscript (.Tuple [.Constant (.str "no ask") 0 (q 39), .Constant (.str "ring") 0 (q 40), .Constant (.str "no kept") 0 (q 41), .Constant (.str "no text") 0 (q 42)] 0 (q 43)) (.Call (.Attribute (.Name "kinds" (q 44)) "index" (q 45)) [.Constant (.bool true) 0 (q 46)] [] (q 47)) (q 48)
def wBody (q : Nat → Pos) : List Stmt := [
  .Assign [.Name "kinds" (q 0)] (.List [wIs "NoAsk" q 1, wIs "Ring" q 5] (q 9)) (q 10),
  .Assign [.Name "kinds" (q 11)] (.BinOp (.Name "kinds" (q 12)) .Add (.List [wIs "NoKept" q 13, wIs "NoText" q 17] (q 21)) (q 22)) (q 23),
  .If (wTest q) [.Return (some (.Constant (.str "wrong") 0 (q 36))) (q 37)] [] (q 38),
  .Return (some (wTell q)) (q 49)]
def wNms : List Str := ["NoAsk", "Ring", "NoKept", "NoText"]
def wWords : List Str := ["no ask", "ring", "no kept", "no text"]
/-- what the context of the def knows -/
structure WSc (X : Cx) (D : Addr) (cl : Str → Addr) (j : Nat) : Prop where
  N : X.N = (["kept", "kinds"] : List Str)
  k1 : X.env.scope.names.lookup ("kept" : Str) = some .local
  k2 : X.env.scope.names.lookup ("kinds" : Str) = some .local
  gi : Gl X "isinstance"
  gv : Gl X "ValueError"
  gn : ∀ x ∈ wNms, Gl X x
  mi : X.mg "isinstance" = none
  mv : X.mg "ValueError" = none
  mn : ∀ x ∈ wNms, X.mg x = some (.ref (cl x))
  kit : ∀ i x, wNms[i]? = some x → PySem.W.kitOne X.K (.ref D) (.ref (cl x)) = some (decide (i = j))
  kv : PySem.W.kitOne X.K (.ref D) (.type "ValueError") = some true
  lt : j < 4
def Ext (H H' : Hp) : Prop := ∀ a o, H a = some o → H' a = some o
theorem Ext.refl {H : Hp} : Ext H H := fun _ _ h => h
theorem Ext.upd {H H' : Hp} (h : Ext H H') {p : Addr} {o : HO} (hp : H' p = none) : Ext H (upd H' p o) := fun a u e => by
  rw [upd_ne (fun z => by subst z; rw [h _ _ e] at hp; cases hp)]
  exact h a u e
section
variable {X : Cx} {a D : Addr} {oe : Obj} {cl : Str → Addr} {j : Nat} {q : Nat → Pos}
def tIs (K : PySem.W.Frag) (D a : Addr) (v : V) : TE := tCB (rIsE K D a) (tCons (tVar 0) (tCons (tC v) tNil))
theorem pe_wis (C : ExcC X.K D) (hp : (a, oe) ∈ X.pn) (h1 : oe.cls = .ref D) (h2 : oe.dict = none) (hf : ∃ vs, oe.data = .fields vs) (S : WSc X D cl j) {x : Str} (hx : x ∈ wNms) (n : Nat) : PE X (wIs x q n) (tIs X.K D a (.ref (cl x))) := by
  have hd : (x == ("__debug__" : Str)) = false := by
    have : ∀ x ∈ wNms, (x == ("__debug__" : Str)) = false := by decide +kernel
    exact this x hx
  exact pe_callB (call_isW C hp h1 h2 hf) S.gi S.mi PyProof.Rows.boot_isinstance (pa_cons (pe_var (i := 0) (by rw [S.N]; rfl) (.inl S.k1)) (pa_cons (pe_glob (S.gn x hx) (S.mn x hx) rfl hd) pa_nil))
theorem pe_wisv (C : ExcC X.K D) (hp : (a, oe) ∈ X.pn) (h1 : oe.cls = .ref D) (h2 : oe.dict = none) (hf : ∃ vs, oe.data = .fields vs) (S : WSc X D cl j) (n : Nat) : PE X (wIs "ValueError" q n) (tIs X.K D a (.ty "ValueError")) :=
  pe_callB (call_isW C hp h1 h2 hf) S.gi S.mi PyProof.Rows.boot_isinstance (pa_cons (pe_var (i := 0) (by rw [S.N]; rfl) (.inl S.k1)) (pa_cons (pe_bltn S.gv S.mv (by decide +kernel) rfl (by decide +kernel) (by decide +kernel)) pa_nil))
theorem is_run {σ : St} {H : Hp} {Q : VK} {v : V} {u : Value} {b : Bool} (hs : σ[0]? = some (some (.ref a))) (hv : ∀ z, RelV v z → z = u) (hk : PySem.W.kitOne X.K (.ref D) u = some b) (h : Q (.bl b) H) : tIs X.K D a v σ H Q :=
  ⟨.ref a, hs, v, u, b, rfl, hv, hk, h⟩
theorem word_walk (C : ExcC X.K D) (hp : (a, oe) ∈ X.pn) (h1 : oe.cls = .ref D) (h2 : oe.dict = none) (hf : ∃ vs, oe.data = .fields vs) (S : WSc X D cl j) (e1 : ((q 25).endLine == (q 27).line) = true) (e2 : ((q 45).endLine == (q 47).line) = true) {w : Str} (hw : wWords[j]? = some w) :
    PSs X (wBody q) (fun E σ H => σ = [some (.ref a), none] ∧ ∀ H', Ext H H' → E.rt (.str w) H') := by
  have nd : X.N.Nodup := by rw [S.N]; decide
  have i1 : X.N[1]? = some ("kinds" : Str) := by rw [S.N]; rfl
  have vk : Vis X.env.scope "kinds" := .inl S.k2
  have W := fun {x : Str} (hx : x ∈ wNms) (n : Nat) => pe_wis (q := q) C hp h1 h2 hf S hx n
  have s1 : PS X (.Assign [.Name "kinds" (q 0)] (.List [wIs "NoAsk" q 1, wIs "Ring" q 5] (q 9)) (q 10)) _ := ps_set nd i1 (.inl S.k2) (pe_lst (pa_cons (W (x := "NoAsk") (by decide) 1) (pa_cons (W (x := "Ring") (by decide) 5) pa_nil))) rfl (.inr S.k2)
  have s2 : PS X (.Assign [.Name "kinds" (q 11)] (.BinOp (.Name "kinds" (q 12)) .Add (.List [wIs "NoKept" q 13, wIs "NoText" q 17] (q 21)) (q 22)) (q 23)) _ := ps_set nd i1 (.inl S.k2) (pe_op op_cat (pe_var (i := 1) i1 vk) (pe_lst (pa_cons (W (x := "NoKept") (by decide) 13) (pa_cons (W (x := "NoText") (by decide) 17) pa_nil)))) rfl (.inr S.k2)
  have cnt : PE X (.Call (.Attribute (.Name "kinds" (q 24)) "count" (q 25)) [.Constant (.bool true) 0 (q 26)] [] (q 27)) _ := pe_bm PySem.F.plainAttrs_list PySem.F.slot_list_count PySem.F.type_list_count mt_cntB (pe_var (i := 1) i1 vk) (pa_cons pe_bl pa_nil) (hline := e1)
  have tst : PT X (wTest q) _ := (pw_or (pt_cmpR op_ne cnt pe_int rfl) (pw_or1 (pt_not (pt_truth (pe_wisv (q := q) C hp h1 h2 hf S 30) (fun _ => rfl))))).pt
  have idx : PE X (.Call (.Attribute (.Name "kinds" (q 44)) "index" (q 45)) [.Constant (.bool true) 0 (q 46)] [] (q 47)) _ := pe_bm PySem.F.plainAttrs_list PySem.F.slot_list_index PySem.F.type_list_index mt_index (pe_var (i := 1) i1 vk) (pa_cons pe_bl pa_nil) (hline := e2)
  have tel : PE X (wTell q) _ := pe_ix ix_seq (pe_tup (pa_cons pe_str (pa_cons pe_str (pa_cons pe_str (pa_cons pe_str pa_nil))))) idx (plainIx_ok rfl)
  refine PSs.weak (pss_cons s1 (pss_cons s2 (pss_cons (ps_if tst (pss_one (ps_ret pe_str)) pss_nil) (pss_one (ps_ret tel))))) fun E σ H h => ?_
  obtain ⟨rfl, hr⟩ := h
  have rv : ∀ x : Addr, ∀ z, RelV (.ref x) z → z = .ref x := fun x z h => h
  have kt := S.kit
  have sz4 : 4 ≤ sizeLine := by rw [sizeLine_eq]; omega
  have sz2 : 2 ≤ sizeLine := by rw [sizeLine_eq]; omega
  refine is_run (X := X) rfl (rv _) (kt 0 "NoAsk" rfl) (is_run (X := X) rfl (rv _) (kt 1 "Ring" rfl) ⟨sz2, fun p1 n1 => ?_⟩)
  refine ⟨.ref p1, rfl, is_run (X := X) rfl (rv _) (kt 2 "NoKept" rfl) (is_run (X := X) rfl (rv _) (kt 3 "NoText" rfl) ⟨sz2, fun p2 n2 => ?_⟩)⟩
  refine ⟨p1, p2, [.bl (decide (0 = j)), .bl (decide (1 = j))], [.bl (decide (2 = j)), .bl (decide (3 = j))], rfl, rfl, ?_, upd_same .., sz4, fun p3 n3 => ?_⟩
  · rw [upd_ne (fun z => by subst z; rw [upd_same] at n2; cases n2)]
    exact upd_same ..
  have x3 : Ext H (upd (upd (upd H p1 (.lst [.bl (decide (0 = j)), .bl (decide (1 = j))])) p2 (.lst [.bl (decide (2 = j)), .bl (decide (3 = j))])) p3 (.lst ([.bl (decide (0 = j)), .bl (decide (1 = j))] ++ [.bl (decide (2 = j)), .bl (decide (3 = j))]))) := ((Ext.refl.upd n1).upd n2).upd n3
  generalize hH : upd (upd (upd H p1 (.lst [.bl (decide (0 = j)), .bl (decide (1 = j))])) p2 (.lst [.bl (decide (2 = j)), .bl (decide (3 = j))])) p3 (.lst ([.bl (decide (0 = j)), .bl (decide (1 = j))] ++ [.bl (decide (2 = j)), .bl (decide (3 = j))])) = H3 at x3 ⊢
  have g3 : H3 p3 = some (.lst ([decide (0 = j), decide (1 = j), decide (2 = j), decide (3 = j)].map V.bl)) := by rw [← hH]; exact upd_same ..
  clear hH
  have jc : j = 0 ∨ j = 1 ∨ j = 2 ∨ j = 3 := by have := S.lt; omega
  have c1 : ((([decide (0 = j), decide (1 = j), decide (2 = j), decide (3 = j)].count true : Nat) : Int)) = 1 := by rcases jc with h | h | h | h <;> subst h <;> rfl
  have ix : ∃ z, ([decide (0 = j), decide (1 = j), decide (2 = j), decide (3 = j)].map V.bl)[j]? = some z ∧ eqV z (.bl true) = true := by rcases jc with h | h | h | h <;> subst h <;> exact ⟨_, rfl, rfl⟩
  have no : ∀ m z, m < j → ([decide (0 = j), decide (1 = j), decide (2 = j), decide (3 = j)].map V.bl)[m]? = some z → eqV z (.bl true) = false := by
    intro m z hm hz
    have hm' : m = 0 ∨ m = 1 ∨ m = 2 := by have := S.lt; omega
    rcases hm' with h | h | h <;> subst h <;> (simp at hz; subst hz; rcases jc with h | h | h | h <;> subst h <;> first | rfl | omega)
  have at4 : atI [V.str "no ask", .str "ring", .str "no kept", .str "no text"] (j : Int) = some (.str w) := by
    rcases jc with h | h | h | h <;> subst h <;> (cases hw; rfl)
  obtain ⟨z, z1, z2⟩ := ix
  refine ⟨.ref p3, rfl, tyV_list g3, p3, _, true, rfl, rfl, SqL.of g3, rfl, false, ?_, ?_⟩
  · rw [c1]; rfl
  refine is_run (X := X) (v := .ty "ValueError") (u := .type "ValueError") rfl (fun z h => h) S.kv ⟨true, rfl, ?_⟩
  refine ⟨sz4, fun p4 n4 => ?_⟩
  have g3' : upd H3 p4 (.tup [.str "no ask", .str "ring", .str "no kept", .str "no text"]) p3 = some (.lst ([decide (0 = j), decide (1 = j), decide (2 = j), decide (3 = j)].map V.bl)) := by
    rw [upd_ne (fun z => by subst z; rw [g3] at n4; cases n4)]
    exact g3
  refine ⟨.ref p3, rfl, tyV_list g3', p3, _, .bl true, j, z, rfl, rfl, SqL.of g3', rfl, ?_, z1, z2, no, ?_⟩
  · rcases jc with h | h | h | h <;> subst h <;> rfl
  exact .inr (.inl ⟨p4, _, _, _, rfl, rfl, SqT.of (upd_same ..), at4, hr _ (x3.upd n4)⟩)
end
end KL

namespace KL
open PySem PySem.Spec PyProof.Rows L2

/-! ### the def that tells the word, called while its exception is handled -/
structure WOk (P : Program) (w : World) (K : PySem.W.Frag) (mg : Str → Option Value) (base : Heap) (CX : CXT) (k : Nat) (f : Addr) (fd : FuncData) (D : Addr) (wd : Str) : Prop where
  run : ∀ (A : Around) (outer : List Env) (s : Shared) (H : Hp) (args : Args) (Q : VK) (E : XK) (p : Addr × Obj), L2H.RoomH k A → L2H.Hot1 A p → p.2.cls = .ref D → p.2.dict = none → L2H.PinOk outer H s p → Env0 P w K mg base A outer s H →
    BindsTo s fd args ((["kept"] : List Str).zip [Value.ref p.1]) → (∀ H', Ext H H' → Q (.str wd) H') → codeAny (model P w) A (.call (.ref f) args) (CR CX outer P w H s Q E) s
theorem w_of {P : Program} {w : World} {K : PySem.W.Frag} {mg : Str → Option Value} {base : Heap} {CX : CXT} {k : Nat} {f D : Addr} {x qual : Str} {params : Arguments} {scope : Scope} {fd : FuncData} {q : Nat → Pos} {cl : Str → Addr} {j : Nat} {wd : Str}
    (F : FunD K x qual params (wBody q) scope [] [] f fd) (S : FnScope ["kept", "kinds"] ["kept"] scope) (C : ExcC K D) (e1 : ((q 25).endLine == (q 27).line) = true) (e2 : ((q 45).endLine == (q 47).line) = true) (hw : wWords[j]? = some wd)
    (sc : ∀ X : Cx, X.N = (["kept", "kinds"] : List Str) → X.env.scope = scope → X.mg = mg → X.K = K → WSc X D cl j) : WOk P w K mg base CX (k + 1) f fd D wd := by
  obtain ⟨oc, od, dV, kV, doc, pm, an, cdv, ct, osl, efd, lk, hcd, _, _⟩ := F.ex
  subst efd
  refine ⟨fun A outer s H args Q E p hr hot hc1 hc2 hpin e0 hb hq => ?_⟩
  have kin : K.In s.heap := e0.mod.kin.keeps fun b o e => (e0.bs b o e).1
  have nolim : s.heap.NoLimit := e0.mod.nolimit.keeps fun b o e => (e0.bs b o e).1
  have kinds : ∀ y ∈ (["kept"] : List Str).zip [Value.ref p.1], scope.names.lookup y.1 = some .local ∨ (scope.names.lookup y.1 = some .cell ∧ ((cellsFrom (s.heap.objs.size + 1) scope.names []).lookup y.1).isSome = true) := fun y hy => by
    rcases S.par y.1 (List.of_mem_zip hy).1 with z | z
    · exact .inl z
    · exact .inr ⟨z, PySem.W.cellsFrom_some _ _ _ (.inl z)⟩
  refine codeAny_call_function hr.depth (kin _ _ lk) rfl S.co S.gen rfl (PySem.W.codeRec_of kin hcd) (hb _ _ _ _ ?_)
  refine wpAny_newFunctionEnv_cells S.kind kinds fun env he s1 z => ?_
  subst he
  refine ⟨nolim.keeps z.toInCall.keep, codeAny_func ?_⟩
  obtain ⟨oh, vs, hvs, _⟩ := hot
  have hpn : p ∈ (L2H.cxH CX P w K mg base ["kept", "kinds"] qual scope f cdv A outer s H E p).pn := List.mem_singleton.mpr rfl
  have wk := word_walk (X := L2H.cxH CX P w K mg base ["kept", "kinds"] qual scope f cdv A outer s H E p) (a := p.1) (oe := p.2) (q := q) C hpn hc1 hc2 ⟨vs, hvs⟩ (sc _ rfl rfl rfl rfl) e1 e2 hw
  have I : Inv (L2H.cxH CX P w K mg base ["kept", "kinds"] qual scope f cdv A outer s H E p) [] (L2.start ["kept", "kinds"] [.ref p.1]) H s1 := L2H.inv_startH (ps := ["kept"]) S hpin e0 rfl (.cons rfl .nil) z
  refine wpAny_mono (wk.run [] s1 _ H { nx := fun _ H' => Q .non H', rt := Q } I ⟨rfl, hq⟩) (fun fl s' hs => ?_) fun e s' hs => hs
  cases fl with
  | ret u =>
    obtain ⟨v, σ', H', J, rv, qq⟩ := hs
    exact ⟨v, H', J.os, J.bare, J.base, J.hok, rv, qq⟩
  | next =>
    obtain ⟨σ', H', J, qq⟩ := hs
    exact ⟨V.non, H', J.os, J.bare, J.base, J.hok, rfl, qq⟩
  | brk =>
    obtain ⟨_, _, _, qq⟩ := hs
    exact False.elim qq
  | cont =>
    obtain ⟨_, _, _, qq⟩ := hs
    exact False.elim qq
section
variable {X : Cx} {CX : CXT} {k : Nat} {f D a : Addr} {oe : Obj} {fd : FuncData} {wd x n : Str} {i : Nat} {p p2 pos : Pos}
theorem pe_word (O : WOk X.prog X.w X.K X.mg X.base CX k f fd D wd) (hr : L2H.RoomH k X.A) (hot : L2H.Hot1 X.A (a, oe)) (hp : (a, oe) ∈ X.pn) (h1 : oe.cls = .ref D) (h2 : oe.dict = none) (hb : Binds X.K fd ["kept"] []) (hx : ∀ σ, PassesAt CX X σ (fun _ _ _ => False))
    (hg : Gl X x) (hm : X.mg x = some (.ref f)) (hk : PySem.W.keepIn X.K (.ref f) = true) (hdb : (x == ("__debug__" : Str)) = false) (ha : PE X (.Name n p2) (tVar i)) :
    PE X (.Call (.Name x p) [.Name n p2] [] pos) (fun σ H Q => σ[i]? = some (some (.ref a)) ∧ ∀ H', Ext H H' → Q (.str wd) H') := by
  refine ⟨fun pins s σ H Q I h => ?_⟩
  refine wpAny_Call_Name_kw (ld_glob I hg hm ?_ hdb)
  refine PySem.W.callWith_K (h₀ := X.base) I.ok.mod.kin hk (thn ((pa_cons ha pa_nil).run pos pins s σ H (fun vs H1 => vs = [.ref a] ∧ H1 = H) I ⟨.ref a, h.1, rfl, rfl⟩) fun us s1 ⟨vs, H1, I1, r, e, e'⟩ => ⟨I1.kIn, ?_⟩)
  subst e e'
  cases r with
  | cons ra rr =>
    cases rr
    cases ra
    have b := hb s1 [.ref a] I1.kIn rfl
    have P1 := I1.pin (a, oe) (List.mem_append_left _ hp)
    have pin : L2H.PinOk X.stack H1 s1 (a, oe) := ⟨P1.1, P1.2.1, fun hmm => (List.mem_cons.mp (I1.stkSub a hmm)).elim P1.2.2.1 P1.2.2.2.1, P1.2.2.2.2⟩
    refine wpAny_call (codeAny_mono (O.run X.A X.stack s1 H1 ⟨[.ref a], []⟩ Q (fun _ _ _ => False) (a, oe) hr hot h1 h2 pin I1.env0 (by simpa using b) h.2) fun r s' hq => ?_)
    cases r with
    | error e => exact hx σ pins H1 s1 e s' I1 hq
    | ok fl =>
      cases fl with
      | ret u => exact I1.after hq
      | next => exact False.elim hq
      | brk => exact False.elim hq
      | cont => exact False.elim hq
end
end KL

namespace KL
open PySem L2

/-! ### try: .. except L as n: return its word -/
/-- xs: what the clause catches; ws: the words -/
def sTryX (xs : List Str) (ws : List (Str × Str)) (fb : Ss) : Ss := fun rh st => match fb rh st with
  | .ex e _ st' => if xs.contains e then (match ws.lookup e with
    | some w => .rt (.str w) st'
    | none => .no) else .no
  | r => r
structure WdAt (X : Cx) (c : Ct) (x e wd : Str) (f : Addr) (fd : FuncData) (D : Addr) : Prop where
  ok : WOk X.prog X.w X.K X.mg X.base (L2N.CX X.prog X.w) 1 f fd D wd
  room : L2H.RoomH 1 X.A
  at_ : c.xc e = .ref D
  glo : X.mg x = some (.ref f)
  keep : PySem.W.keepIn X.K (.ref f) = true
  bnd : Binds X.K fd ["kept"] []
theorem Stp.extH {c : Ct} {F H H' : Hp} {io : List Addr} (hs : ∀ a o, F a = some o → H a = some o) (h : Ext H H') : Stp c F io H F io H' := by
  refine ⟨fun a o e => h a o (hs a o e), ⟨[], by simp⟩, fun _ _ e _ => e, fun _ e => .inl e, fun a o e _ _ => h a o e, fun a e => ?_, fun _ e => .inl e, fun t => t.ext h, fun t => t, fun _ _ _ e => e⟩
  cases q : H a with
  | none => rfl
  | some o => rw [h a o q] at e; cases e
section
variable {X : Cx} {c : Ct} {W : WX} {x n L : Str} {i : Nat} {p p2 pos rp np hp tp : Pos} {body : List Stmt} {xs : List Str} {ws : List (Str × Str)} {fb : Ss}
def tsW (c : Ct) (xs : List Str) (ws : List (Str × Str)) (i : Nat) (a : Addr) (cls : Value) (d : Option Addr) : TS := fun D σ H => ∃ e w, e ∈ xs ∧ ws.lookup e = some w ∧ cls = c.xc e ∧ d = none ∧ (∃ σ0 : St, σ = σ0.set i (some (.ref a))) ∧ ∀ H', Ext H H' → D.rt (.str w) H'
theorem tryX_of {cl : Value} (hx : ∀ e ∈ xs, PySem.W.exmOne X.K (c.xc e) cl = some true) {D : Ends} {σ : St} {H : Hp} (h : denS c W (sTryX xs ws fb) D σ H) :
    denS c (wAs X.K cl i (tsW c xs ws i) W D) fb D σ H := by
  obtain ⟨B, F, io, st, rh, g, p⟩ := h
  refine ⟨B, F, io, st, rh, g, ?_⟩
  unfold sTryX at p
  cases hb : fb rh st with
  | nx rh2 st2 => rw [hb] at p; exact p
  | ct rh2 st2 => rw [hb] at p; exact p
  | bk rh2 st2 => rw [hb] at p; exact p
  | rt d s => rw [hb] at p; exact p
  | no => rw [hb] at p; exact p
  | ex e rh2 st2 =>
    rw [hb] at p
    have p : Pss c W B F io D (if xs.contains e = true then (match ws.lookup e with
      | some w => .rt (.str w) st2
      | none => .no) else .no) := p
    split at p
    · rename_i hc
      intro σ' H' F' io' P' g'
      cases hw : ws.lookup e with
      | none => rw [hw] at p; exact p.elim
      | some w =>
        rw [hw] at p
        refine ⟨true, hx e (by simpa using hc), fun _ a _ => ⟨e, w, by simpa using hc, hw, rfl, rfl, ⟨σ', rfl⟩, fun H2 x2 => ?_⟩, fun z => by cases z⟩
        have S2 := Stp.extH (c := c) (io := io') g'.sub x2
        exact p (.str w) H2 F' io' (g'.stp.trans g'.bsub S2) (P'.trans (S2.perm g'.sub)) (g'.sim.step S2 g'.sub rfl fun _ _ => rfl) (.str w)
    · exact p.elim
theorem ps_tryX (ok : Cok X c W) (hs : X.stack = X.env :: X.outer) (hf : X.env.frame = some X.env.locals) (hi : X.N[i]? = some n) (hn : X.env.scope.names.lookup n = some .local) (ndb : (n == ("__debug__" : Str)) = false) (ncd : (n == ("__classdict__" : Str)) = false)
    (hg : Gl X L) (ldb : (L == ("__debug__" : Str)) = false) {cl : Value} (hm : X.mg L = some cl) (hx : ∀ e ∈ xs, PySem.W.exmOne X.K (c.xc e) cl = some true) (hgx : Gl X x) (xdb : (x == ("__debug__" : Str)) = false)
    (hw : ∀ e w, ws.lookup e = some w → ∃ f fd D, WdAt X c x e w f fd D)
    (hb : ∀ (W' : WX) (pn : List (Addr × Obj)) (xe : Value → Shared → Prop), L2N.Takes (X.tr pn xe) W' → PassesOwn (model X.prog X.w) X.A X.env xe → PSs (X.tr pn xe) body (denS c W' fb)) :
    PS X (.Try body [.ExceptHandler (some (.Name L np)) (some n) [.Return (some (.Call (.Name x p) [.Name n p2] [] pos)) rp] hp] [] [] tp) (denS c W (sTryX xs ws fb)) := by
  refine PS.weak (L2N.ps_try_as (i := i) (c := cl) (tb := fun W' => denS c W' fb) (ts := tsW c xs ws i) hs hf ok.nd hi hn ⟨hg, ldb, .inl hm⟩ ok.tk hb fun a oe cls d pn hz hv => ?_) fun D σ H h => tryX_of hx h
  refine ⟨fun pins s σ H D I h => ?_⟩
  obtain ⟨e, w, he, hw', rfl, rfl, ⟨σ0, rfl⟩, q⟩ := h
  obtain ⟨f, fd, D', A⟩ := hw e w hw'
  obtain ⟨vs, hvs⟩ := hv
  have hlt : i < σ0.length := by
    have l := I.len
    rw [List.length_set] at l
    rw [l]
    exact (List.getElem?_eq_some_iff.mp hi).1
  have hot : L2H.Hot1 (X.suite a ((a, oe) :: pn)).A (a, oe) := ⟨rfl, vs, hvs, hz.2.2 vs hvs⟩
  have pw := pe_word (X := X.suite a ((a, oe) :: pn)) (CX := L2N.CX X.prog X.w) (x := x) (n := n) (i := i) (a := a) (oe := oe) (p := p) (p2 := p2) (pos := pos) A.ok ⟨A.room.dp, A.room.un⟩ hot List.mem_cons_self (hz.1.trans A.at_) hz.2.1 A.bnd (fun σ pins H s e s' I h => ?_) hgx A.glo A.keep xdb (pe_var hi (.inl hn) ndb ncd)
  · exact (pss_one (ps_ret pw)).run pins s _ H D I ⟨by simp [hlt], q⟩
  · obtain ⟨_, _, _, _, _, _, _, _, _, _, _, _, z⟩ := h
    exact z.elim
end
end KL

namespace KL
open PySem L2

/-! ### parts that are held: new lists are laid into the store -/
def denAH (c : Ct) (W : WX) (fs : List Sm) : TA := fun σ H Q => ∃ B F io st rh, Good c B F io st rh σ H ∧ PstA c W F io σ H Q (eHelds fs rh st)
section
variable {X : Cx} {c : Ct} {W : WX} {B : Bs} {F F' F1 F2 H H' H1 : Hp} {io io' io1 io2 : List Addr} {st st' st1 : Sto} {rh : Rho} {σ : St}
theorem pa_h_nil : PA X [] (denAH c W []) := ⟨fun pos pins s σ H Q I ⟨B, F, io, st, rh, g, p⟩ => pa_nil.run pos pins s σ H Q I (p [] H F io (Stp.refl g.sub) g.sim .nil)⟩
theorem pa_h_cons {e : Expr} {es : List Expr} {f : Sm} {fs : List Sm} (he : PE X e (den c W f)) (hs : PA X es (denAH c W fs)) (hn : notStar e = true) : PA X (e :: es) (denAH c W (f :: fs)) := by
  refine ⟨fun pos pins s σ H Q I ⟨B, F, io, st, rh, g, p⟩ => (pa_cons he hs (star_cons hn)).run pos pins s σ H Q I ?_⟩
  refine ⟨B, F, io, st, rh, g, ?_⟩
  unfold eHelds at p
  cases hr : f rh st with
  | no => rw [hr] at p; exact p.elim
  | ex x st' => rw [hr] at p; exact p
  | ok t st1 =>
    rw [hr] at p
    intro v H1 F1 io1 S s1 T
    have p : PstA c W F io σ H Q (match held t st1 with
      | none => .no
      | some (d, st2) => (eHelds fs rh st2).bind fun ds st3 => .ok (d :: ds) st3) := p
    cases ht : held t st1 with
    | none => rw [ht] at p; exact p.elim
    | some dd =>
      obtain ⟨d, st2⟩ := dd
      rw [ht] at p
      obtain ⟨F2, io2, S2, s2, r2⟩ := held_ok S s1 T ht
      have g2 := g.step S2 s2
      refine ⟨B, F2, io2, st2, rh, g2, ?_⟩
      have p : PstA c W F io σ H Q ((eHelds fs rh st2).bind fun ds st3 => .ok (d :: ds) st3) := p
      have p := PstA.step g S2 p
      cases hq : eHelds fs rh st2 with
      | no => rw [hq] at p; exact p.elim
      | ex x st' => rw [hq] at p; exact p
      | ok ds st3 =>
        rw [hq] at p
        intro vs H3 F3 io3 S3 s3 T3
        exact p (v :: vs) H3 F3 io3 S3 s3 (.cons (r2.step S3 g2.sub) T3)
/-- x, y = a, b; x, y, z = a, b, c -/
def sParN (is : List Nat) (fs : List Sm) : Ss := fun rh st => match eHelds fs rh st with
  | .ok ds st1 => (match setAll is ds rh with
    | some rh' => .nx rh' st1
    | none => .no)
  | .ex x st1 => .ex x rh st1
  | .no => .no
theorem par2_of {i j : Nat} {fs : List Sm} {D : Ends} {σ : St} {H : Hp} (h : denS c W (sParN [i, j] fs) D σ H) : tPar i j (denAH c W fs) D σ H := by
  obtain ⟨B, F, io, st, rh, g, p⟩ := h
  refine ⟨B, F, io, st, rh, g, ?_⟩
  unfold sParN at p
  cases hr : eHelds fs rh st with
  | no => rw [hr] at p; exact p.elim
  | ex x s => rw [hr] at p; exact fun H' F' io' S s' => p σ H' F' io' (S.perm g.sub) (g.step S s')
  | ok ds s =>
    rw [hr] at p
    intro vs H' F' io' S s' T
    cases T with
    | nil => exact p.elim
    | cons h1 T =>
      cases T with
      | nil => exact p.elim
      | cons h2 T =>
        cases T with
        | nil => exact ⟨_, _, rfl, p _ H' F' io' (S.perm g.sub) (((g.step S s').set h1 i).set h2 j)⟩
        | cons _ _ => exact p.elim
theorem parT_of {K : PySem.W.Frag} (hK : K = c.K) {is : List Nat} {fs : List Sm} (hl : fs.length ≤ sizeLine) {D : Ends} {σ : St} {H : Hp} (h : denS c W (sParN is fs) D σ H) : tAsg (tTup (denAH c W fs)) (gTup K is.length (gNames is)) D σ H := by
  obtain ⟨B, F, io, st, rh, g, p⟩ := h
  refine ⟨B, F, io, st, rh, g, ?_⟩
  unfold sParN at p
  cases hr : eHelds fs rh st with
  | no => rw [hr] at p; exact p.elim
  | ex x s => rw [hr] at p; exact fun H' F' io' S s' => p σ H' F' io' (S.perm g.sub) (g.step S s')
  | ok ds s =>
    rw [hr] at p
    intro vs H' F' io' S s' T
    refine ⟨by rw [T.length, eHelds_length hr]; exact hl, fun q hq => ?_⟩
    simp only at p
    cases hs : setAll is ds rh with
    | none => rw [hs] at p; exact p.elim
    | some rh' =>
      rw [hs] at p
      have g1 := g.step S s'
      obtain ⟨f1, f2, f3⟩ := g1.fresh hq
      have S2 : Stp c F' io' H' (upd F' q (.tup vs)) io' (upd H' q (.tup vs)) := Stp.add g1.sub hq
      have s2 : Sim c (upd F' q (.tup vs)) io' s := g1.sim.more (upd_more f1)
      have S3 := S.trans g.sub S2
      exact tg_tup hK is (g.step S3 s2) (Rv.raw upd_same f2 (T.more (upd_more f1))) hs fun σ' g' _ _ => p σ' _ _ io' (S3.perm g.sub) g'
theorem par3_of {i j l : Nat} {fs : List Sm} {D : Ends} {σ : St} {H : Hp} (h : denS c W (sParN [i, j, l] fs) D σ H) : tPar3 i j l (denAH c W fs) D σ H := by
  obtain ⟨B, F, io, st, rh, g, p⟩ := h
  refine ⟨B, F, io, st, rh, g, ?_⟩
  unfold sParN at p
  cases hr : eHelds fs rh st with
  | no => rw [hr] at p; exact p.elim
  | ex x s => rw [hr] at p; exact fun H' F' io' S s' => p σ H' F' io' (S.perm g.sub) (g.step S s')
  | ok ds s =>
    rw [hr] at p
    intro vs H' F' io' S s' T
    cases T with
    | nil => exact p.elim
    | cons h1 T =>
      cases T with
      | nil => exact p.elim
      | cons h2 T =>
        cases T with
        | nil => exact p.elim
        | cons h3 T =>
          cases T with
          | nil => exact ⟨_, _, _, rfl, p _ H' F' io' (S.perm g.sub) ((((g.step S s').set h1 i).set h2 j).set h3 l)⟩
          | cons _ _ => exact p.elim
/-- x = e, a new list being laid into the store -/
def sLay (i : Nat) (fe : Sm) : Ss := sThen fe fun t st1 rh => match held t st1 with
  | some (d, st2) => .nx (rh.set i (some (.val d))) st2
  | none => .no
theorem lay_of {i : Nat} {fe : Sm} {D : Ends} {σ : St} {H : Hp} (h : denS c W (sLay i fe) D σ H) : tAsg (den c W fe) (gName i) D σ H := by
  obtain ⟨B, F, io, st, rh, g, p⟩ := h
  refine then_of g p fun t st1 v H1 F1 io1 S g1 s1 T q => ?_
  have q : Pss c W B F io D (match held t st1 with
    | some (d, st2) => .nx (rh.set i (some (.val d))) st2
    | none => .no) := q
  cases ht : held t st1 with
  | none => rw [ht] at q; exact q.elim
  | some dd =>
    obtain ⟨d, st2⟩ := dd
    rw [ht] at q
    obtain ⟨F2, io2, S2, s2, r2⟩ := held_ok S s1 T ht
    exact q _ H1 F2 io2 (S2.perm g.sub) ((g.step S2 s2).set r2 i)
end
end KL

namespace KL
open PySem PySem.Spec PyProof.Rows L2

/-! ### xs[lo::k] -/
def stpL {α : Type} (xs : List α) (lo k : Int) : List α := (sliceRange (sliceBounds (some lo) none (some k) xs.length).1 (sliceBounds (some lo) none (some k) xs.length).2.1 (sliceBounds (some lo) none (some k) xs.length).2.2).filterMap fun i => xs[i]?
theorem stpL_le {α : Type} (xs : List α) (lo : Int) {k : Int} (hk : 0 < k) : (stpL xs lo k).length ≤ xs.length := by
  unfold stpL
  refine Nat.le_trans (List.length_filterMap_le _ _) ?_
  unfold sliceRange sliceBounds
  simp only [Option.getD_some, if_pos (show k > 0 from hk), List.length_map, List.length_range]
  generalize hs : max 0 (min (if lo < 0 then lo + (xs.length : Int) else lo) (xs.length : Int)) = s
  have h0 : 0 ≤ s := by omega
  split
  · rename_i hlt
    have h1 : ((xs.length : Int) - s + k - 1) / k < (xs.length : Int) - s + 1 := by
      apply Int.ediv_lt_of_lt_mul hk
      have : ((xs.length : Int) - s) * 1 ≤ ((xs.length : Int) - s) * k := Int.mul_le_mul_of_nonneg_left (by omega) (by omega)
      rw [Int.add_mul]
      omega
    omega
  · simp
theorem vals_pick {xs : List V} {us : List Value} (r : Vals xs us) : ∀ is : List Nat, Vals (is.filterMap fun i => xs[i]?) (is.filterMap fun i => us[i]?)
  | [] => .nil
  | i :: is => by
    rw [List.filterMap_cons, List.filterMap_cons]
    cases q : xs[i]? with
    | none =>
      have : us[i]? = none := by
        rw [List.getElem?_eq_none_iff] at q ⊢
        rw [← r.length]; exact q
      rw [this]
      exact vals_pick r is
    | some v =>
      obtain ⟨u, hu, rv⟩ := r.get q
      rw [hu]
      exact .cons rv (vals_pick r is)
def tStepL (K : PySem.W.Frag) (k : Int) (te tl : TE) : TE := fun σ H Q => te σ H fun x H1 => tPart tl σ H1 fun o H2 => ∃ i, o = some i ∧ ∃ a xs, x = .ref a ∧ SqL K H2 a xs ∧ ∀ p, H2 p = none → Q (.ref p) (upd H2 p (.lst (stpL xs i k)))
theorem pe_stepL {X : Cx} {e lo : Expr} {te tl : TE} {k : Int} {j : Nat} {p1 p3 pos : Pos} (hk : 0 < k) (he : PE X e te) (hl : PE X lo tl) : PE X (.Subscript e (.Slice (some lo) none (some (.Constant (.int k) j p1)) p3) pos) (tStepL X.K k te tl) := by
  refine ⟨fun pins s σ H Q I h => ?_⟩
  refine Subscript_ (thn (he.run pins s σ H _ I h) fun v s1 ⟨x, H1, I1, r1, q1⟩ => ?_)
  have hst : PO X (some (.Constant (.int k) j p1)) (tPart (tC (.int k))) := po_some pe_int
  refine wpAny_Slice (thn ((po_some hl).run pins s1 σ H1 (fun o H2 => ∃ i, o = some i ∧ ∃ a xs, x = .ref a ∧ SqL X.K H2 a xs ∧ ∀ p, H2 p = none → Q (.ref p) (upd H2 p (.lst (stpL xs i k)))) I1 q1) fun vl s2 ⟨l, H2, I2, pl, i, el, a, xs, ex, hx, q⟩ => ?_)
  subst el ex
  cases r1
  refine thn (po_none.run pins s2 σ H2 (fun o H3 => o = none ∧ H3 = H2) I2 ⟨rfl, rfl⟩) fun vu s3 ⟨u, H3, I3, pu, eu, e3⟩ => ?_
  subst eu e3
  refine thn (hst.run pins s3 σ H3 (fun o H4 => o = some k ∧ H4 = H3) I3 ⟨k, rfl, rfl, rfl⟩) fun vs s4 ⟨o, H4, I4, ps, eo, e4⟩ => ?_
  subst eo e4
  have I5 : Inv X pins σ H4 { s4 with heap := s4.heap.push { cls := .type "slice", data := .fields #[vl, vu, vs] } } := I4.kept (t' := s4.toks) fun b ob q => Heap.get?_push_of_some _ q
  obtain ⟨its, r, ht, hz⟩ := I5.list hx
  have hlen := r.length
  show wpAny (model X.prog X.w) X.A (subscriptTail e (.Slice (some lo) none (some (.Constant (.int k) j p1)) p3) (.ref a) (.ref s4.heap.objs.size)) (EP X pins σ Q) X.xe { s4 with heap := s4.heap.push { cls := .type "slice", data := .fields #[vl, vu, vs] } }
  refine tail_any (ops := [.ref a, .ref s4.heap.objs.size]) ht.isList.typeIs (PySem.slot_list_getitem.lookup) ?_ (by with_unfolding_all rfl)
  have k0 : some k ≠ some (0 : Int) := fun z => by cases z; omega
  refine wpAny_getItem_list_slice ht.isList (Heap.IsSliceOf.new _ vl vu vs) pl pu ps k0 ?_ (by rw [List.size_toArray]; omega)
  have ep : slicePick its.toArray (some i) none (some k) = (stpL its i k).toArray := by
    unfold slicePick stpL
    simp
  have rp : Vals (stpL xs i k) (stpL its i k) := by
    unfold stpL
    rw [hlen]
    exact vals_pick r _
  have hle : (stpL xs i k).length ≤ sizeLine := Nat.le_trans (stpL_le xs i hk) hz
  rw [ep]
  refine ⟨.ref _, _, I5.laid (t' := s4.toks) (o := .lst (stpL xs i k)) (fun b ob q => Heap.get?_push_of_some _ q) (Nat.le_refl _) ?_, rfl, q _ (I5.hok.fresh (Nat.le_refl _))⟩
  exact ⟨hle, _, 0, rp, Heap.get?_push_size _ rfl⟩
/-- the list's part from lo on, each k-th -/
def eSlcT (k : Int) (fa fl : Sm) : Sm := fun rh st => (fa rh st).bind fun t st1 => (fl rh st1).bind fun u st2 => match view rh st2 t, u with
  | some (.lst ds), .d (.int i) => .ok (.fr (stpL ds i k)) st2
  | _, _ => .no
theorem rv_pick {c : Ct} {F : Hp} {io : List Addr} {vs : List V} {ds : List D} (r : RvAll c F io vs ds) : ∀ is : List Nat, RvAll c F io (is.filterMap fun i => vs[i]?) (is.filterMap fun i => ds[i]?)
  | [] => .nil
  | i :: is => by
    rw [List.filterMap_cons, List.filterMap_cons]
    cases q : ds[i]? with
    | none =>
      have : vs[i]? = none := by
        rw [List.getElem?_eq_none_iff] at q ⊢
        rw [r.length]; exact q
      rw [this]
      exact rv_pick r is
    | some d =>
      obtain ⟨v, hv, rv⟩ := r.get q
      rw [hv]
      exact .cons rv (rv_pick r is)
theorem pe_den_step {X : Cx} {c : Ct} {W : WX} {a lo : Expr} {fa fl : Sm} {k : Int} {j : Nat} {p1 p3 pos : Pos} (hK : X.K = c.K) (hk : 0 < k) (ha : PE X a (den c W fa)) (hl : PE X lo (den c W fl)) : PE X (.Subscript a (.Slice (some lo) none (some (.Constant (.int k) j p1)) p3) pos) (den c W (eSlcT k fa fl)) := by
  refine PE.weak (pe_stepL hk ha hl) fun σ H Q ⟨B, F, io, st, rh, g, p⟩ => ?_
  refine ⟨B, F, io, st, rh, g, Pst.bind g p fun t1 st1 x H1 F1 io1 e1 S1 g1 T1 p1 => ⟨B, F1, io1, st1, rh, g1, Pst.bind g1 p1 fun t2 st2 y H2 F2 io2 e2 S2 g2 T2 p2 => ?_⟩⟩
  cases hv : view rh st2 t1 with
  | none => rw [hv] at p2; exact p2.elim
  | some dl =>
    rw [hv] at p2
    cases dl with
    | lst ds =>
      cases t2 with
      | d d2 =>
        cases d2 with
        | int i =>
          cases T2
          refine ⟨i, rfl, i, rfl, ?_⟩
          obtain ⟨a', vs, ex, ha', r⟩ := view_ok g2 ((T1.r g1.sim).step S2 g1.sub) hv
          refine ⟨a', vs, ex, .inl (.inl ha'), fun q hq => (Pst.out g2 p2).lst g2 ?_ q hq⟩
          unfold stpL
          rw [r.length]
          exact rv_pick r _
        | _ => exact p2.elim
      | _ => exact p2.elim
    | _ => exact p2.elim
/-! ### max(list of whole numbers) -/
def maxI : List Int → Option Int
  | [] => none
  | n :: r => some (r.foldl (fun a b => if a < b then b else a) n)
theorem foldl_max : ∀ (r : List Int) (n : Int), (r.foldl (fun a b => if a < b then b else a) n) ∈ n :: r ∧ ∀ y ∈ n :: r, y ≤ r.foldl (fun a b => if a < b then b else a) n
  | [], n => ⟨by simp, by simp⟩
  | m :: r, n => by
    obtain ⟨h1, h2⟩ := foldl_max r (if n < m then m else n)
    rw [List.foldl_cons]
    have hn : n ≤ if n < m then m else n := by split <;> omega
    have hm : m ≤ if n < m then m else n := by split <;> omega
    refine ⟨?_, fun y hy => ?_⟩
    · rcases List.mem_cons.mp h1 with z | z
      · rw [z]; split <;> simp
      · exact List.mem_cons_of_mem _ (List.mem_cons_of_mem _ z)
    · have h3 := h2 _ List.mem_cons_self
      rcases List.mem_cons.mp hy with z | z
      · rw [z]; omega
      · rcases List.mem_cons.mp z with z | z
        · rw [z]; omega
        · exact h2 y (List.mem_cons_of_mem _ z)
theorem max_uniq {ns : List Int} {m n : Int} (h : maxI ns = some m) (h1 : n ∈ ns) (h2 : ∀ y ∈ ns, y ≤ n) : n = m := by
  cases ns with
  | nil => cases h
  | cons a r =>
    cases h
    obtain ⟨q1, q2⟩ := foldl_max r a
    have := q2 n h1
    have := h2 _ q1
    omega
def maxD : D → Option TV
  | .lst ds => (intsOf ds).bind fun ns => (maxI ns).map fun m => .d (.int m)
  | _ => none
def eMax1 : Sm → Sm := eOp1 fun _ => maxD
theorem pe_den_max1 {X : Cx} {c : Ct} {W : WX} {a : Expr} {fa : Sm} {pos p : Pos} (hK : X.K = c.K) (hc : X.calm = true) (hg : Gl X "max") (hm : X.mg "max" = none) (ha : PE X a (den c W fa)) (hn : notStar a = true) : PE X (.Call (.Name "max" p) [a] [] pos) (den c W (eMax1 fa)) := by
  have A1 : PA X [a] (tCons (den c W fa) tNil) := pa_cons ha pa_nil (star_cons hn)
  refine PE.weak (pe_callB (cr_max hc) hg hm (by decide +kernel) A1 (he := star_cons hn)) fun σ H Q h => op1_of (r := fun x H Q => rMax X.K [x] H Q) ?_ h
  intro B F H io st rh σ x d t Q g hx hf ho
  cases d with
  | lst ds =>
    simp only [maxD, Option.bind_eq_some_iff, Option.map_eq_some_iff] at hf
    obtain ⟨ns, h1, m, h2, rfl⟩ := hf
    obtain ⟨p, vs, rfl, q1, r1⟩ := hx
    refine ⟨p, ns, rfl, .inl (.inl (by rw [← intsOf_ok r1 h1]; exact q1)), ?_, fun m' z1 z2 => ?_⟩
    · cases ns with
      | nil => cases h2
      | cons _ _ => simp
    · rw [max_uniq h2 z1 z2]
      exact ho.same g.sub (.int m)
  | _ => cases hf
end KL

namespace KL
open PySem L2

/-! ### for x in (a thing of the store), locked on the way -/
def sForL (fa : Sm) (f1 f2 : Ss) : Ss := fun rh st => match fa rh st with
  | .ok (.d (.loc n)) _ => (match st[n]? with
    | some o => (match lockO o with
      | some o1 => (match f1 rh (st.set n o1) with
        | .nx rh' st2 => (match st2[n]?.bind unlockO with
          | some o2 => .nx rh' (st2.set n o2)
          | none => .no)
        | .rt d st2 => (match st2[n]?.bind unlockO with
          | some o2 => .rt d (st2.set n o2)
          | none => .no)
        | _ => .no)
      | none => .no)
    | none => .no)
  | _ => f2 rh st
section
variable {X : Cx} {c : Ct} {W : WX} {B : Bs} {F F' F1 F2 H H' H1 H2 : Hp} {io io' io1 io2 : List Addr} {st st' st1 st2 : Sto} {rh : Rho} {σ : St} {v : V} {t : TV} {d : D} {a : Addr} {o o' : O} {fa : Sm} {f1 f2 : Ss} {tg e : Expr}
theorem pi_lkP (hK : X.K = c.K) (ha : PE X e (den c W fa)) : PI X tg e (denI c W (YldP c) (iLk fa)) := by
  refine PI.weak (PI.or (PI.or (pi_keys ha) (pi_list ha)) (pi_keysZ ha)) fun σ H Q ⟨B, F, io, st, rh, g, h⟩ => ?_
  unfold iLk at h
  cases hr : fa rh st with
  | no => rw [hr] at h; exact h.elim
  | ex x s => rw [hr] at h; exact .inl (.inr ⟨B, F, io, st, rh, g, by rw [hr]; exact h⟩)
  | ok t st1 =>
    rw [hr] at h
    cases t with
    | d d =>
      cases d with
      | loc n =>
        have h : PstI c W F io σ H (YldP c) Q (match st1[n]? with
          | some o => oR (keysO o) st1
          | none => .no) := h
        cases hq : st1[n]? with
        | none => rw [hq] at h; exact h.elim
        | some o =>
          rw [hq] at h
          have h : PstI c W F io σ H (YldP c) Q (oR (keysO o) st1) := h
          cases o with
          | lsk ds =>
            refine .inl (.inr ⟨B, F, io, st, rh, g, ?_⟩)
            rw [hr]
            intro w H' F' io' S s' T
            cases T with
            | loc hn =>
              rename_i a
              obtain ⟨ob, vs, e1, r⟩ := s'.ob n _ _ hn hq
              refine ⟨a, rfl, ⟨vs, .inl (.inr ⟨ob, S.sub _ _ e1⟩)⟩, ?_⟩
              rw [hK]
              exact h _ H' F' io' S s' fun F2 io2 H2 st2 P2 hs2 s2 => yc_lst hs2 (.inl (.inr ⟨ob, hs2 _ _ (P2.lck _ _ _ e1)⟩)) (r.perm P2)
          | dct lk kvs =>
            cases lk with
            | false => exact h.elim
            | true =>
              refine .inl (.inl ⟨B, F, io, st, rh, g, ?_⟩)
              rw [hr]
              intro w H' F' io' S s' T
              cases T with
              | loc hn =>
                rename_i a
                obtain ⟨ob, vs, e1, r⟩ := s'.ob n _ _ hn hq
                refine ⟨a, ob, rfl, .inl ⟨_, S.sub _ _ e1, h _ H' F' io' S s' fun F2 io2 H2 st2 P2 hs2 s2 => ⟨fun i d e => ?_, hs2 _ _ (P2.lck _ _ _ e1), ?_⟩⟩⟩
                · rw [List.getElem?_map, Option.map_eq_some_iff] at e
                  obtain ⟨p, e2, rfl⟩ := e
                  have l1 := r.lens
                  have e3 : vs[i]?.map (·.1) = some p.1 := by
                    rw [← List.getElem?_map, ← l1, List.getElem?_map, e2]; rfl
                  rw [Option.map_eq_some_iff] at e3
                  obtain ⟨p', e3, e4⟩ := e3
                  refine ⟨⟨hs2 _ _ (P2.lck _ _ _ e1), by rw [List.length_map]; exact lt_of_get e3⟩, fun x H3 ⟨eH, k, v, hk, ex⟩ => ?_⟩
                  subst eH ex
                  rw [List.getElem?_map, e3] at hk
                  cases hk
                  refine ⟨F2, Stp.refl hs2, fun _ _ => rfl, ?_⟩
                  show Rv c F2 io2 (.str p'.1) (.str p.1)
                  rw [e4]
                  exact .str _
                · have l1 := congrArg List.length r.lens
                  rw [List.length_map, List.length_map] at l1
                  rw [List.length_map, List.length_map, l1]
                  exact Nat.le_refl _
          | dcT lk kvs =>
            refine .inr ⟨B, F, io, st, rh, g, ?_⟩
            rw [hr]
            intro w H' F' io' S s' T
            cases T with
            | loc hn =>
              rename_i a
              obtain ⟨ob, xs, vs, e1, z, pr, rk, r⟩ := s'.ob n _ _ hn hq
              exact ⟨a, ob, xs, rfl, S.sub _ _ e1, z, h _ H' F' io' S s' fun F2 io2 H2 st2 P2 hs2 s2 => yc_z hs2 (hs2 _ _ (P2.lck _ _ _ e1)) (rk.perm P2)⟩
          | ins C fs => exact h.elim
          | lst ds => exact h.elim
      | _ => exact h.elim
    | _ => exact h.elim
theorem forL_of {D : Ends} {σ : St} {H : Hp} (h : denS c W (sForL fa f1 f2) D σ H) : tLock (denS c W f1) D σ H ∨ denS c W f2 D σ H := by
  obtain ⟨B, F, io, st, rh, g, p⟩ := h
  unfold sForL at p
  have alt : Pss c W B F io D (f2 rh st) → tLock (denS c W f1) D σ H ∨ denS c W f2 D σ H := fun h => .inr ⟨B, F, io, st, rh, g, h⟩
  cases hr : fa rh st with
  | no => rw [hr] at p; exact alt p
  | ex x s => rw [hr] at p; exact alt p
  | ok t st1 =>
    rw [hr] at p
    cases t with
    | o i => exact alt p
    | fr ds => exact alt p
    | d d =>
      cases d with
      | loc n =>
        simp only at p
        cases hq : st[n]? with
        | none => rw [hq] at p; exact p.elim
        | some o =>
          rw [hq] at p
          simp only at p
          cases hl : lockO o with
          | none => rw [hl] at p; exact p.elim
          | some o1 =>
            rw [hl] at p
            simp only at p
            have hlen : n < io.length := by rw [g.sim.len]; exact lt_of_get hq
            have hn : io[n]? = some io[n] := List.getElem?_eq_getElem hlen
            generalize io[n] = a at hn
            have ha : a ∈ io := List.mem_of_getElem? hn
            obtain ⟨u, hu, mu, hne, hob⟩ := lock_ok (g.sim.ob n a o hn hq) ha hl
            have hnf : ∀ ob w, F a ≠ some (.frz ob w) := fun ob w z => by rw [hu] at z; exact hne ob w (Option.some.inj z)
            have hB : ∀ ob w, B.F a ≠ some (.frz ob w) := fun ob w z => hnf ob w (g.stp.lck a ob w z)
            refine .inl ⟨a, u, g.sub _ _ hu, mu, fun od => ?_⟩
            refine ⟨B, _, io, _, rh, g.setObj hnf hn (hob od), ?_⟩
            have back : ∀ {F2 io2}, Per (upd F a (.frz od u)) io F2 io2 → Per F io (upd F2 a u) io2 := fun {F2 io2} P2 => by
              refine ⟨⟨P2.ext, fun b w e nb => ?_, fun b w e nb => ?_⟩, fun b ob w e => ?_⟩
              · have z : b ≠ a := fun z => nb (by rw [z]; exact ha)
                rw [upd_ne z]; exact P2.per b w (by rw [upd_ne z]; exact e) nb
              · have z : b ≠ a := fun z => nb (by rw [z]; exact ha)
                exact P2.nin b w (by rw [upd_ne z]; exact e) nb
              · have z : b ≠ a := fun z => hnf ob w (by rw [z] at e; exact e)
                rw [upd_ne z]; exact P2.lck b ob w (by rw [upd_ne z]; exact e)
            cases hf : f1 rh (st.set n o1) with
            | no => rw [hf] at p; exact p.elim
            | ex x r s => rw [hf] at p; exact p.elim
            | bk r s => rw [hf] at p; exact p.elim
            | ct r s => rw [hf] at p; exact p.elim
            | nx rh' st2 =>
              rw [hf] at p
              simp only at p
              cases hb : st2[n]?.bind unlockO with
              | none => rw [hb] at p; exact p.elim
              | some o2 =>
                rw [hb] at p
                rw [Option.bind_eq_some_iff] at hb
                obtain ⟨o3, hq2, hul⟩ := hb
                intro σ' H2 F2 io2 P2 g2
                have fl := P2.lck a od u upd_same
                refine ⟨g2.sub _ _ fl, ?_⟩
                have hn2 := P2.ix hn
                have ha2 : a ∈ io2 := List.mem_of_getElem? hn2
                exact p σ' _ _ io2 (back P2) (g2.setObj0 hB hn2 (unlock_ok (g2.sim.ob n a o3 hn2 hq2) ha2 hul fl))
            | rt d st2 =>
              rw [hf] at p
              simp only at p
              cases hb : st2[n]?.bind unlockO with
              | none => rw [hb] at p; exact p.elim
              | some o2 =>
                rw [hb] at p
                rw [Option.bind_eq_some_iff] at hb
                obtain ⟨o3, hq2, hul⟩ := hb
                intro v H2 F2 io2 S2 P2 s2 r2
                have fl := P2.lck a od u upd_same
                refine ⟨S2.sub _ _ fl, ?_⟩
                have hn2 := P2.ix hn
                have ha2 : a ∈ io2 := List.mem_of_getElem? hn2
                have g2 : Good c B F2 io2 st2 [] [] H2 := ⟨g.bsub, g.btab, g.bnt, rfl, S2, s2, fun i d e => by simp at e, fun i ds e => by simp at e, fun i j ds es v e => by simp at e, fun i t ds e => by simp at e⟩
                have g3 := g2.setObj0 hB hn2 (unlock_ok (s2.ob n a o3 hn2 hq2) ha2 hul fl)
                exact p v _ _ io2 g3.stp (back P2) g3.sim (r2.perm (Per0.upd ha2))
      | _ => exact alt p
end
end KL

namespace KU
open PySem PySem.Spec PyProof.Rows L2
section
variable {X : Cx}
def rLenS (w : World) : List V → Hp → VK → Prop := fun vs H Q => ∃ (a : Addr) (xs : List Str), vs = [.ref a] ∧ H a = some (SetH w a (xs.foldl insS [])) ∧ xs.length ≤ 1000 ∧ Q (.int ((xs.foldl insS []).length : Nat)) H
theorem cr_lenS : CallR X (.builtin "len") (rLenS X.w) := by
  intro pins s σ H vs us Q I r h
  obtain ⟨a, xs, rfl, ha, hz, q⟩ := h
  have R : SetS X.w s.heap a (xs.foldl insS []) := (I.hok a _ ha).1
  rw [Vals.ref1 r]
  obtain ⟨o, es, ep, t, ho, hex, hd, F⟩ := R
  have hn : es.size = (xs.foldl insS []).length := by rw [← Array.length_toList, ← List.length_map (f := keyS), F.per.length_eq]
  have hl := foldS_len xs []
  simp only [List.length_nil] at hl
  refine call_len_set ho hex hd F.fits (by rw [hn]; omega) ⟨.int ((xs.foldl insS []).length : Nat), H, I.tok _, ⟨_, by rw [hn]⟩, q⟩
end
end KU
namespace KL
open PySem L2 KU
/-! ### len(set(e)) -/
def lenSD : D → Option D
  | .lst ds => (strsD ds).bind fun xs => if xs.length ≤ 1000 then some (.int ((xs.foldl insS []).length : Nat)) else none
  | _ => none
def eLenSet : Sm → Sm := eOp1 fun _ d => dV (lenSD d)
section
variable {X : Cx} {c : Ct} {W : WX} {a b e : Expr} {fa fb : Sm} {pos p p2 q : Pos} {B : Bs} {F H : Hp} {io : List Addr} {st : Sto} {rh : Rho} {σ : St}
theorem pe_lenset (hK : X.K = c.K) (hc : X.calm = true) (hg : Gl X "len") (hm : X.mg "len" = none) (hg2 : Gl X "set") (hm2 : X.mg "set" = none) (ha : PE X a (den c W fa)) (hn : notStar a = true) :
    PE X (.Call (.Name "len" p) [.Call (.Name "set" p2) [a] [] q] [] pos) (den c W (eLenSet fa)) := by
  have A1 : PA X [a] (tCons (den c W fa) tNil) := pa_cons ha pa_nil (star_cons hn)
  have S1 := pe_callTy (p := p2) (pos := q) (cr_setS hc) hg2 hm2 PyProof.Rows.boot_set A1 (he := star_cons hn)
  have A2 : PA X [.Call (.Name "set" p2) [a] [] q] (tCons (tCB (rSetS X.K X.w) (tCons (den c W fa) tNil)) tNil) := pa_cons S1 pa_nil rfl
  refine PE.weak (pe_callB (p := p) (pos := pos) cr_lenS hg hm PySem.boot_len A2 (he := rfl)) fun σ H Q h => ?_
  refine op1_of (r := fun x H1 Q => rSetS X.K X.w [x] H1 fun y H2 => rLenS X.w [y] H2 Q) ?_ h
  intro B F H io st rh σ x d t Q g hx hf ho
  obtain ⟨e, hf2, rfl⟩ := dV_some hf
  clear hf
  cases d with
  | lst ds =>
    simp only [lenSD, Option.bind_eq_some_iff] at hf2
    obtain ⟨xs, e1, hf2⟩ := hf2
    split at hf2
    · rename_i hl
      cases hf2
      obtain ⟨l, vs, rfl, q1, r1⟩ := hx
      refine ⟨xs, hl, .inl ⟨l, rfl, by rw [← strsD_ok r1 e1]; exact .inl (.inl q1)⟩, fun p1 h1 => ⟨p1, xs, rfl, upd_same, hl, ?_⟩⟩
      have S1 : Stp c F io H F io (upd H p1 (SetH X.w p1 (xs.foldl insS []))) := Stp.lay g.sub h1
      exact ho _ _ F S1 (fun _ _ => rfl) (.int _)
    · cases hf2
  | _ => cases hf2
end
end KL

namespace KL
open PySem L2

/-! ### from the text to functions on data -/
structure MI where
  cs : List (Str × D)
  fs : List (Str × Nat)
  clo : List Str := []
  ml : Ml := []
  ar : List (Str × Nat) := []
  ma : List (Str × (Str × Nat)) := []
  fl : List (Str × Str) := []
  xs : List Str := []
  cat : List (Str × List Str) := []
  lams : List LamD := []
  ls : List Str := []
  lq : Str := Str.empty
  ws : List (Str × Str) := []
  lay : List Str := []
def bnames : List Str := ["len", "all", "any", "tuple", "list", "int", "str", "bool", "isinstance", "range", "enumerate", "zip", "sorted", "set", "min", "max", "dict"]
def ixOf (x : Str) : List Str → Option Nat
  | [] => none
  | y :: ys => if y = x then some 0 else (ixOf x ys).map (· + 1)
theorem ixOf_some {x : Str} : ∀ {N : List Str} {i : Nat}, ixOf x N = some i → N[i]? = some x
  | [], _, h => by cases h
  | y :: ys, i, h => by
    unfold ixOf at h
    split at h
    · rename_i e
      cases h
      rw [e]
      rfl
    · rw [Option.map_eq_some_iff] at h
      obtain ⟨j, e1, rfl⟩ := h
      simpa using ixOf_some e1
def optAll {α β : Type} (f : α → Option β) : List α → Option (List β)
  | [] => some []
  | a :: as => (f a).bind fun b => (optAll f as).map (b :: ·)
def grd {α : Type} (b : Bool) (o : Option α) : Option α := if b then o else none
theorem grd_some {α : Type} {b : Bool} {o : Option α} {a : α} (h : grd b o = some a) : b = true ∧ o = some a := by
  unfold grd at h
  split at h
  · rename_i e; exact ⟨e, h⟩
  · cases h
def vis (sc : Scope) (x : Str) : Bool := match sc.names.lookup x with
  | some .local => true
  | some .cell => true
  | some .free => true
  | _ => false
def glb (sc : Scope) (x : Str) : Bool := decide (sc.names.lookup x = some .globalImplicit)
def okN (x : Str) : Bool := !(x == ("__debug__" : Str)) && !(x == ("__classdict__" : Str))
def biOf (g : Str) : Option Bi := [Bi.len, .all, .any, .tuple, .list, .int, .str].find? fun b => decide (b.name = g)
def tyOf (g : Str) : Option Ty := [Ty.int, .str, .bool, .tuple, .list].find? fun t => decide (t.nm = g)
theorem biOf_some {g : Str} {b : Bi} (h : biOf g = some b) : b.name = g := by
  have := List.find?_some h
  simpa using this
theorem tyOf_some {g : Str} {b : Ty} (h : tyOf g = some b) : b.nm = g := by
  have := List.find?_some h
  simpa using this
def cBool (f : Expr → Option Sm) (op : BoolOp) : List Expr → Option Sm
  | [] => none
  | [a] => f a
  | a :: b :: rest => (f a).bind fun fa => (cBool f op (b :: rest)).map fun fr => match op with
    | .And => eAnd fa fr
    | .Or => eOr fa fr
def locN (sc : Scope) (cl : Bool) (x : Str) : Bool := decide (sc.names.lookup x = some .local) || (cl && decide (sc.names.lookup x = some .cell))
def cNm (N : List Str) (sc : Scope) (cl : Bool) : Expr → Option Nat
  | .Name x _ => grd (locN sc cl x) (ixOf x N)
  | _ => none
def cTg (N : List Str) (sc : Scope) (cl : Bool) : Expr → Option Tg
  | .Tuple es _ _ => (optAll (cNm N sc cl) es).map .tup
  | e => (cNm N sc cl e).map .name
def isTup : Expr → Bool
  | .Tuple _ _ _ => true
  | _ => false
def notSet : Expr → Bool
  | .Set _ _ _ => false
  | _ => true
/-- of a comprehension (one := iOne), of a loop (one := iOneP) -/
def cI (f : Expr → Option Sm) (sc : Scope) (one : (D → Option (List D)) → Sm → Im) (zp : Bool) (tg iter : Expr) : Option Im := match iter with
  | .Call (.Name g _) [a] [] _ =>
    if g = "range" then grd (glb sc g && notStar a) ((f a).map (iOne rng1))
    else if g = "enumerate" then grd (glb sc g && notStar a && isTup tg) ((f a).map (one enmD))
    else (f iter).map (one itemsD)
  | .Call (.Name g _) [a, b] [] _ =>
    if g = "range" then grd (glb sc g && notStar a && notStar b) ((f a).bind fun fa => (f b).map (iTwo rng2 fa))
    else if g = "zip" then grd (zp && glb sc g && notStar a && notStar b && isTup tg) ((f a).bind fun fa => (f b).map (iTwo zipD fa))
    else (f iter).map (one itemsD)
  | e => grd (notSet e) ((f e).map (one itemsD))
def ownOf (N : List Str) : List (Str × NameKind) → List (Str × Nat)
  | [] => []
  | (x, k) :: r => match k, ixOf x N with
    | .local, some i => (x, i) :: ownOf N r
    | .cell, some i => (x, i) :: ownOf N r
    | _, _ => ownOf N r
def cPart (f : Expr → Option Sm) : Option Expr → Option (Option Sm)
  | none => some none
  | some e => (f e).map some
def cIfs (f : Expr → Option Sm) : List Expr → Option (Option Sm)
  | [] => some none
  | [t] => (f t).map some
  | _ => none
/-- sorted(set(e)) -/
def cSort (f : Expr → Option Sm) (sc : Scope) (g : Str) : Expr → Option Sm
  | .Call (.Name h _) [x] [] _ => grd (decide (g = "sorted") && decide (h = "set") && glb sc h && notStar x) ((f x).map eSortSet)
  | a => grd (decide (g = "sorted") && notStar a) ((f a).map eSrtI)
/-- an argument of an own function -/
def cArg (M : MI) (N : List Str) (sc : Scope) (f : Expr → Option Sm) : Expr → Option Ag
  | .Name x p => if M.clo.contains x then grd (okN x && vis sc x) ((ixOf x N).map .k) else (f (.Name x p)).map .e
  | e => (f e).map .e
/-- own methods -/
def cOwn (M : MI) (G : Tbl) (N : List Str) (sc : Scope) (f : Expr → Option Sm) (m : Str) (a : Expr) (args : List Expr) (apos pos : Pos) : Option Sm :=
  grd (plainBase a && args.all notStar && decide (args.length < 29) && (apos.endLine == pos.line) && M.ml.all fun p => !decide (p.1.2 = m) || decide (M.ar.lookup p.2 = some (args.length + 1)))
    ((f a).bind fun fa => (optAll (cArg M N sc f) args).map (eMeth M.ml G m fa))
/-- methods of texts, lists, dicts -/
def cMt0 (f : Expr → Option Sm) (m : Str) (a : Expr) (apos pos : Pos) : Option Sm := grd (plainBase a && (apos.endLine == pos.line)) (if m = "upper" then (f a).map eM_upper else if m = "pop" then (f a).map ePop0 else none)
def cMt1 (f : Expr → Option Sm) (m : Str) (a b : Expr) (apos pos : Pos) : Option Sm := grd (plainBase a && notStar b && (apos.endLine == pos.line))
  (if m = "index" then (f a).bind fun fa => (f b).map (eIndex fa)
  else if m = "join" then (f a).bind fun fa => (f b).map (eM_join fa)
  else if m = "split" then (f a).bind fun fa => (f b).map (eM_split fa)
  else if m = "partition" then (f a).bind fun fa => (f b).map (eM_part fa)
  else if m = "pop" then (f a).bind fun fa => (f b).map (ePop1 fa)
  else none)
def cMt2 (f : Expr → Option Sm) (m : Str) (a b b2 : Expr) (apos pos : Pos) : Option Sm := grd (plainBase a && notStar b && notStar b2 && (apos.endLine == pos.line))
  (if m = "get" then (f a).bind fun fa => (f b).bind fun fb => (f b2).map (eGet2 fa fb) else none)
def mNames : List Str := ["upper", "pop", "index", "join", "split", "partition", "get"]
def cMt (M : MI) (G : Tbl) (N : List Str) (sc : Scope) (f : Expr → Option Sm) (m : Str) (a : Expr) (args : List Expr) (apos pos : Pos) : Option Sm :=
  if mNames.contains m then (match args with
    | [] => cMt0 f m a apos pos
    | [b] => cMt1 f m a b apos pos
    | [b, b2] => cMt2 f m a b b2 apos pos
    | _ => none)
  else cOwn M G N sc f m a args apos pos
def cMm (f : Expr → Option Sm) (g : Str) (a b : Expr) : Option Sm := grd (notStar a && notStar b)
  (if g = "min" then (f a).bind fun fa => (f b).map (eMin2 fa) else if g = "max" then (f a).bind fun fa => (f b).map (eMax2 fa) else none)
/-- len(set(e)) -/
def setOf (g : Str) : Expr → Option Expr
  | .Call (.Name h _) [x] [] _ => if g = "len" ∧ h = "set" then some x else none
  | _ => none
theorem setOf_some {g : Str} {a x : Expr} (h : setOf g a = some x) : g = "len" ∧ ∃ p q, a = .Call (.Name "set" p) [x] [] q := by
  unfold setOf at h
  split at h
  · split at h
    · rename_i k
      cases h
      obtain ⟨rfl, rfl⟩ := k
      exact ⟨rfl, _, _, rfl⟩
    · cases h
  · cases h
def cB1 (f : Expr → Option Sm) (sc : Scope) (g : Str) (a : Expr) : Option Sm := match setOf g a with
  | some x => grd (glb sc "set" && notStar x) ((f x).map eLenSet)
  | none => match biOf g with
  | some b => grd (notStar a) ((f a).map (eB1 b))
  | none => if g = "dict" then grd (notStar a) ((f a).map eDict) else if g = "max" then grd (notStar a) ((f a).map eMax1) else cSort f sc g a
def cIs (f : Expr → Option Sm) (sc : Scope) (a : Expr) : Expr → Option Sm
  | .Name t _ => grd (notStar a && glb sc t) ((tyOf t).bind fun ty => (f a).map (eIsi ty))
  | .Tuple [.Name t _, .Name u _] _ _ => grd (notStar a && glb sc t && glb sc u) ((tyOf t).bind fun ty => (tyOf u).bind fun uy => (f a).map (eIsi2 ty uy))
  | _ => none
def cCall (M : MI) (G : Tbl) (N : List Str) (f : Expr → Option Sm) (sc : Scope) (g : Str) (args : List Expr) : Option Sm :=
  grd (glb sc g && okN g) (match M.fs.lookup g with
    | some n => grd (args.all notStar) ((optAll (cArg M N sc f) args).bind fun fs => if fs.length = n then some (eCall G g fs) else none)
    | none => (match M.ma.lookup g with
      | some (ini, n) => grd (args.all notStar) ((optAll (cArg M N sc f) args).bind fun fs => if fs.length + 1 = n then some (eMake G g ini fs) else none)
      | none => (match args with
        | [a] => cB1 f sc g a
        | [a, b] => if g = "isinstance" then cIs f sc a b else cMm f g a b
        | _ => none)))
/-- a closure called -/
def cClo (M : MI) (G : Tbl) (N : List Str) (f : Expr → Option Sm) (sc : Scope) (g : Str) : List Expr → Option Sm
  | [a] => grd (okN g && vis sc g && notStar a) ((ixOf g N).bind fun i => (f a).map fun fa => eCallV M.ls G i [fa])
  | _ => none
/-- keys of a display -/
def cKeys : List (Option Expr) → Option (List Str)
  | [] => some []
  | some (.Constant (.str x) _ _) :: r => (cKeys r).map (x :: ·)
  | _ => none
/-- the names that a comprehension sets; one may be a cell of its own -/
def cTgW (N : List Str) (sc scope : Scope) : Expr → Option Tg
  | .Name x p => if scope.names.lookup x = some .cell then grd (decide ((relS scope sc).names.lookup x = some .cell)) ((ixOf x N).map .name) else cTg N (relS scope sc) false (.Name x p)
  | e => cTg N (relS scope sc) false e
/-- a comprehension, what it walks being given -/
def cCompW (N : List Str) (sc : Scope) (fT fE : Scope → Expr → Option Sm) (fio : Option Im) (elt : Expr) (gen : Comprehension) (scope : Scope) : Option Sm :=
  grd (blkC N sc scope (ownOf N scope.names) && decide (gen.is_async = 0)) ((cTgW N sc scope gen.target).bind fun tg => grd (tg.slots.all fun i => decide (i ∈ (ownOf N scope.names).map (·.2)))
        (fio.bind fun fi => (cIfs (fT (relS scope sc)) gen.ifs).bind fun fc => (fE (relS scope sc) elt).map (eComp ((ownOf N scope.names).map (·.2)) tg fi fc)))
/-- what may be an object of the store -/
def lkIter : Expr → Bool
  | .Name x _ => (["here", "own", "seen", "signs"] : List Str).contains x
  | .Attribute _ _ _ => true
  | _ => false
def cX (M : MI) (G : Tbl) (N : List Str) : Nat → Bool → Scope → Expr → Option Sm
  | 0, _, _, _ => none
  | n + 1, true, sc, e => (match e with
    | .UnaryOp .Not x _ => (cX M G N n true sc x).map eNot
    | .BoolOp op es _ => cBool (cX M G N n true sc) op es
    | .Compare a [op] [b] _ => grd (!behindInMarks op b) ((cX M G N n false sc a).bind fun fa => (cX M G N n false sc b).map (eCmp op fa))
    | .Compare a [op, op'] [b, c] _ => grd (!lastMarks [op, op'] [b, c]) ((cX M G N n false sc a).bind fun fa => (cX M G N n false sc b).bind fun fb => (cX M G N n false sc c).map (eCmp2 op op' fa fb))
    | e => grd (plainT e) ((cX M G N n false sc e).map eTru))
  | n + 1, false, sc, e => (match e with
    | .Constant (.int i) _ _ => some (eC (.int i))
    | .Constant (.bool b) _ _ => some (eC (.bl b))
    | .Constant .none _ _ => some (eC .non)
    | .Constant (.str x) _ _ => some (eC (.str x))
    | .Name x _ => grd (okN x) (if vis sc x then (ixOf x N).map eVar else grd (glb sc x) ((M.cs.lookup x).map eC))
    | .Tuple es _ _ => grd (es.all notStar && decide (es.length ≤ 1000)) ((optAll (cX M G N n false sc) es).map eTup)
    | .List es _ => grd (es.all notStar && decide (es.length ≤ 1000)) ((optAll (cX M G N n false sc) es).map eLst)
    | .BinOp a op b _ => (cX M G N n false sc a).bind fun fa => (cX M G N n false sc b).map (eBin op fa)
    | .UnaryOp .Not a _ => (cX M G N n false sc a).map eNot
    | .UnaryOp .USub a _ => (cX M G N n false sc a).map eNeg
    | .BoolOp op es _ => cBool (cX M G N n false sc) op es
    | .Compare a [op] [b] _ => grd (!behindInMarks op b) ((cX M G N n false sc a).bind fun fa => (cX M G N n false sc b).map (eCmp op fa))
    | .Compare a [op, op'] [b, c] _ => grd (!lastMarks [op, op'] [b, c]) ((cX M G N n false sc a).bind fun fa => (cX M G N n false sc b).bind fun fb => (cX M G N n false sc c).map (eCmp2 op op' fa fb))
    | .IfExp t a b _ => (cX M G N n true sc t).bind fun ft => (cX M G N n false sc a).bind fun fa => (cX M G N n false sc b).map (eIf ft fa)
    | .Subscript a (.Slice lo hi none _) _ => (cX M G N n false sc a).bind fun fa => (cPart (cX M G N n false sc) lo).bind fun fl => (cPart (cX M G N n false sc) hi).map (eSlc fa fl)
    | .Subscript a (.Slice none none (some (.UnaryOp .USub (.Constant (.int 1) _ _) _)) _) _ => (cX M G N n false sc a).map eRev
    | .Subscript a (.Slice (some lo) none (some (.Constant (.int k) _ _)) _) _ => grd (decide (0 < k)) ((cX M G N n false sc a).bind fun fa => (cX M G N n false sc lo).map (eSlcT k fa))
    | .Subscript a b _ => grd (plainIx b) ((cX M G N n false sc a).bind fun fa => (cX M G N n false sc b).map (eIdx fa))
    | .Attribute a m _ => grd (plainBase a) ((cX M G N n false sc a).map (eFld m))
    | .Dict [] [] _ => some eDictNew
    | .Dict keys es _ => grd (decide (keys.length = es.length) && decide (keys.length ≤ 15) && !keys.isEmpty) ((cKeys keys).bind fun ks => (optAll (cX M G N n false sc) es).map (eDisp ks))
    | .Call (.Name g _) args [] _ => if M.clo.contains g then cClo M G N (cX M G N n false sc) sc g args else cCall M G N (cX M G N n false sc) sc g args
    | .Call (.Attribute a m apos) args [] pos => cMt M G N sc (cX M G N n false sc) m a args apos pos
    | .ListComp elt [gen] scope _ => (cCompW N sc (cX M G N n true) (cX M G N n false) (cI (cX M G N n false sc) sc iOne true gen.target gen.iter) elt gen scope).bind fun f2 =>
        if lkIter gen.iter then (cX M G N n false sc gen.iter).bind fun fa => (cCompW N sc (cX M G N n true) (cX M G N n false) (some (iLk fa)) elt gen scope).map fun f1 => eLk fa f1 f2 else some f2
    | _ => none)

/-! ### it is right -/
structure Env1 (X : Cx) (c : Ct) (M : MI) (G : Tbl) : Prop where
  free : ∀ x ∈ bnames, X.mg x = none
  cst : ∀ x d, M.cs.lookup x = some d → ∃ v u, X.mg x = some u ∧ RelV v u ∧ ∀ F io, Rv c F io v d
  fn : ∀ g n, M.fs.lookup g = some n → ∃ k f fd ps, FnAt X c G g n k f fd ps
  mt : ∀ C m g n, M.ml.lookup (C, m) = some g → M.ar.lookup g = some n → ∃ k f fd ps, MtAt X c G C m g n k f fd ps
  ma : ∀ C g n, M.ma.lookup C = some (g, n) → ∃ k f fd ps, MkAt X c G C g n k f fd ps
  fl : ∀ C f, (C, f) ∈ M.fl → NoAttr c.K (c.ca C) f
  xc : ∀ e ∈ M.xs, ∃ C, XcAt X c e C
  lv : LvAt X c G M.ls
  cat : ∀ L xs, M.cat.lookup L = some xs → ∃ cl, X.mg L = some cl ∧ ∀ e ∈ xs, PySem.W.exmOne X.K (c.xc e) cl = some true
  wd : ∀ e w, M.ws.lookup e = some w → ∃ f fd D, WdAt X c "_law_word" e w f fd D
structure Cx1 (X : Cx) (c : Ct) (M : MI) (G : Tbl) (N : List Str) (W : WX) (sc : Scope) : Prop where
  ok : Cok X c W
  N : X.N = N
  sc : X.env.scope = sc
  env : Env1 X c M G
def Snd (b : Bool) (X : Cx) (c : Ct) (W : WX) (e : Expr) (f : Sm) : Prop := match b with
  | true => PT X e (denT c W f)
  | false => PE X e (den c W f)
section
variable {X : Cx} {c : Ct} {M : MI} {G : Tbl} {N : List Str} {W : WX} {sc : Scope}
theorem glb_ok (C : Cx1 X c M G N W sc) {x : Str} (h : glb sc x = true) : Gl X x := by
  show X.env.scope.names.lookup x = _
  rw [C.sc]
  exact of_decide_eq_true h
theorem vis_ok (C : Cx1 X c M G N W sc) {x : Str} (h : vis sc x = true) : Vis X.env.scope x := by
  rw [C.sc]
  unfold vis at h
  unfold Vis
  split at h <;> simp_all
theorem okN_ok {x : Str} (h : okN x = true) : (x == ("__debug__" : Str)) = false ∧ (x == ("__classdict__" : Str)) = false := by
  unfold okN at h
  simpa using h
theorem fewer {fs : List Sm} (h : fs.length ≤ 1000) : fs.length ≤ sizeLine := Nat.le_of_lt (small1000 h)
theorem optAll_len {α β : Type} {f : α → Option β} : ∀ {as : List α} {bs : List β}, optAll f as = some bs → bs.length = as.length
  | [], _, h => by cases h; rfl
  | a :: as, bs, h => by
    simp only [optAll, Option.bind_eq_some_iff, Option.map_eq_some_iff] at h
    obtain ⟨b, _, bs', h2, rfl⟩ := h
    rw [List.length_cons, List.length_cons, optAll_len h2]
theorem pa_all {f : Expr → Option Sm} (hf : ∀ e g, f e = some g → PE X e (den c W g)) : ∀ {es : List Expr} {fs : List Sm}, optAll f es = some fs → es.all notStar = true → PA X es (denA c W fs)
  | [], _, h, _ => by cases h; exact pa_den_nil
  | e :: es, fs, h, hs => by
    simp only [optAll, Option.bind_eq_some_iff, Option.map_eq_some_iff] at h
    obtain ⟨b, h1, bs', h2, rfl⟩ := h
    rw [List.all_cons, Bool.and_eq_true] at hs
    exact pa_den_cons (hf e b h1) (pa_all hf h2 hs.2) hs.1
theorem pa_allH {f : Expr → Option Sm} (hf : ∀ e g, f e = some g → PE X e (den c W g)) : ∀ {es : List Expr} {fs : List Sm}, optAll f es = some fs → es.all notStar = true → PA X es (denAH c W fs)
  | [], _, h, _ => by cases h; exact pa_h_nil
  | e :: es, fs, h, hs => by
    simp only [optAll, Option.bind_eq_some_iff, Option.map_eq_some_iff] at h
    obtain ⟨b, h1, bs', h2, rfl⟩ := h
    rw [List.all_cons, Bool.and_eq_true] at hs
    exact pa_h_cons (hf e b h1) (pa_allH hf h2 hs.2) hs.1
theorem cBool_pe {f : Expr → Option Sm} {op : BoolOp} {pos : Pos} (hf : ∀ e g, f e = some g → PE X e (den c W g)) : ∀ {es : List Expr} {g : Sm}, cBool f op es = some g → PE X (.BoolOp op es pos) (den c W g)
  | [], _, h => by cases h
  | [a], g, h => pe_one (hf a g h)
  | a :: b :: rest, g, h => by
    simp only [cBool, Option.bind_eq_some_iff, Option.map_eq_some_iff] at h
    obtain ⟨fa, h1, fr, h2, rfl⟩ := h
    have q := cBool_pe (pos := pos) hf h2
    cases op with
    | And => exact pe_den_and (hf a fa h1) q
    | Or => exact pe_den_or (hf a fa h1) q
theorem cBool_pw {f : Expr → Option Sm} {op : BoolOp} {pos : Pos} (hf : ∀ e g, f e = some g → PT X e (denT c W g)) : ∀ {es : List Expr} {g : Sm}, cBool f op es = some g → PW X (.BoolOp op es pos) (denT c W g)
  | [], _, h => by cases h
  | [a], g, h => by
    cases op with
    | And => exact pw_and1 (hf a g h)
    | Or => exact pw_or1 (hf a g h)
  | a :: b :: rest, g, h => by
    simp only [cBool, Option.bind_eq_some_iff, Option.map_eq_some_iff] at h
    obtain ⟨fa, h1, fr, h2, rfl⟩ := h
    have q := cBool_pw (pos := pos) hf h2
    cases op with
    | And => exact pw_den_and (hf a fa h1) q
    | Or => exact pw_den_or (hf a fa h1) q
theorem mem_bn {x : Str} (C : Cx1 X c M G N W sc) (h : bnames.contains x = true) : X.mg x = none := C.env.free x (by simpa using h)
theorem bi_free (C : Cx1 X c M G N W sc) (b : Bi) : X.mg b.name = none := by cases b <;> exact mem_bn C (by decide +kernel)
theorem ty_free (C : Cx1 X c M G N W sc) (b : Ty) : X.mg b.nm = none := by cases b <;> exact mem_bn C (by decide +kernel)
theorem pa_args (C : Cx1 X c M G N W sc) {f : Expr → Option Sm} (hf : ∀ e g, f e = some g → PE X e (den c W g)) : ∀ {es : List Expr} {fs : List Ag}, optAll (cArg M N sc f) es = some fs → es.all notStar = true → PA X es (denAC c W fs)
  | [], _, h, _ => by cases h; exact pa_c_nil
  | e :: es, fs, h, hs => by
    simp only [optAll, Option.bind_eq_some_iff, Option.map_eq_some_iff] at h
    obtain ⟨b, h1, bs', h2, rfl⟩ := h
    rw [List.all_cons, Bool.and_eq_true] at hs
    have r := pa_args C hf h2 hs.2
    have fin : ∀ {b : Ag}, (f e).map Ag.e = some b → PA X (e :: es) (denAC c W (b :: bs')) := fun {b} h => by
      rw [Option.map_eq_some_iff] at h
      obtain ⟨g, h, rfl⟩ := h
      exact pa_c_e (hf e g h) r hs.1
    unfold cArg at h1
    split at h1
    · split at h1
      · have h0 := (grd_some h1).1
        replace h1 := (grd_some h1).2
        rw [Bool.and_eq_true] at h0
        rw [Option.map_eq_some_iff] at h1
        obtain ⟨i, h1, rfl⟩ := h1
        exact pa_c_k (by rw [C.N]; exact ixOf_some h1) (vis_ok C h0.2) (okN_ok h0.1).1 (okN_ok h0.1).2 r
      · exact fin h1
    · exact fin h1
theorem mem_of_look {α β : Type} [BEq α] [LawfulBEq α] {a : α} {b : β} : ∀ {l : List (α × β)}, l.lookup a = some b → (a, b) ∈ l
  | [], h => by cases h
  | (x, y) :: l, h => by
    rw [List.lookup_cons] at h
    by_cases q : a = x
    · have e' : (a == x) = true := by simpa using q
      rw [e'] at h
      cases h
      rw [q]
      exact List.mem_cons_self
    · have e' : (a == x) = false := by simpa using q
      rw [e'] at h
      exact List.mem_cons_of_mem _ (mem_of_look h)
theorem cOwn_ok (C : Cx1 X c M G N W sc) {f : Expr → Option Sm} (hf : ∀ e g, f e = some g → PE X e (den c W g)) {m : Str} {a : Expr} {args : List Expr} {apos pos : Pos} {h : Sm} (e : cOwn M G N sc f m a args apos pos = some h) : PE X (.Call (.Attribute a m apos) args [] pos) (den c W h) := by
  unfold cOwn at e
  have h0 := (grd_some e).1
  replace e := (grd_some e).2
  simp only [Bool.and_eq_true, decide_eq_true_eq] at h0
  obtain ⟨⟨⟨⟨q1, q2⟩, q3⟩, q4⟩, q5⟩ := h0
  rw [Option.bind_eq_some_iff] at e
  obtain ⟨fa, h1, e⟩ := e
  rw [Option.map_eq_some_iff] at e
  obtain ⟨fs, h2, rfl⟩ := e
  have hl := optAll_len h2
  refine pe_den_meth C.ok (fun D g hg => ?_) (hf a fa h1) q1 (pa_args C hf h2 q2) q2 q3 hl q4
  have z := List.all_eq_true.mp q5 _ (mem_of_look hg)
  simp only [decide_true, Bool.not_true, Bool.false_or, decide_eq_true_eq] at z
  rw [hl]
  exact C.env.mt D m g _ hg z
theorem cMm_ok (C : Cx1 X c M G N W sc) {f : Expr → Option Sm} (hf : ∀ e g, f e = some g → PE X e (den c W g)) {g : Str} {a b : Expr} {h : Sm} {p pos : Pos} (gl : Gl X g) (e : cMm f g a b = some h) : PE X (.Call (.Name g p) [a, b] [] pos) (den c W h) := by
  unfold cMm at e
  have h0 := (grd_some e).1
  replace e := (grd_some e).2
  rw [Bool.and_eq_true] at h0
  split at e
  · rename_i hm
    subst hm
    rw [Option.bind_eq_some_iff] at e
    obtain ⟨fa, h1, e⟩ := e
    rw [Option.map_eq_some_iff] at e
    obtain ⟨fb, h2, rfl⟩ := e
    exact pe_den_min2 C.ok.calm gl (mem_bn C (by decide +kernel)) (hf a fa h1) (hf b fb h2) h0.1 h0.2
  · split at e
    · rename_i hm
      subst hm
      rw [Option.bind_eq_some_iff] at e
      obtain ⟨fa, h1, e⟩ := e
      rw [Option.map_eq_some_iff] at e
      obtain ⟨fb, h2, rfl⟩ := e
      exact pe_den_max2 C.ok.calm gl (mem_bn C (by decide +kernel)) (hf a fa h1) (hf b fb h2) h0.1 h0.2
    · cases e
theorem cB1_ok (C : Cx1 X c M G N W sc) {f : Expr → Option Sm} (hf : ∀ e g, f e = some g → PE X e (den c W g)) {g : Str} {a : Expr} {h : Sm} {p pos : Pos} (gl : Gl X g) (e : cB1 f sc g a = some h) : PE X (.Call (.Name g p) [a] [] pos) (den c W h) := by
  unfold cB1 at e
  split at e
  · rename_i x hx
    obtain ⟨rfl, p2, q, rfl⟩ := setOf_some hx
    have hs := (grd_some e).1
    replace e := (grd_some e).2
    rw [Bool.and_eq_true] at hs
    rw [Option.map_eq_some_iff] at e
    obtain ⟨fa, h1, rfl⟩ := e
    exact pe_lenset C.ok.hK C.ok.calm gl (mem_bn C (by decide +kernel)) (glb_ok C hs.1) (mem_bn C (by decide +kernel)) (hf x fa h1) hs.2
  rename_i hset
  clear hset
  split at e
  · rename_i b hb
    have hs := (grd_some e).1
    replace e := (grd_some e).2
    rw [Option.map_eq_some_iff] at e
    obtain ⟨fa, h1, rfl⟩ := e
    cases biOf_some hb
    exact pe_b1 b C.ok.hK C.ok.calm gl (bi_free C b) (hf a fa h1) hs
  · split at e
    · rename_i hd
      subst hd
      have hs := (grd_some e).1
      replace e := (grd_some e).2
      rw [Option.map_eq_some_iff] at e
      obtain ⟨fa, h1, rfl⟩ := e
      exact pe_den_dict C.ok.hK C.ok.calm (by have := C.ok.hu; omega) gl (mem_bn C (by decide +kernel)) (hf a fa h1) hs
    · split at e
      · rename_i hd
        subst hd
        have hs := (grd_some e).1
        replace e := (grd_some e).2
        rw [Option.map_eq_some_iff] at e
        obtain ⟨fa, h1, rfl⟩ := e
        exact pe_den_max1 C.ok.hK C.ok.calm gl (mem_bn C (by decide +kernel)) (hf a fa h1) hs
      unfold cSort at e
      split at e
      · rename_i h1 p2 x q
        have hs := (grd_some e).1
        replace e := (grd_some e).2
        simp only [Bool.and_eq_true, decide_eq_true_eq] at hs
        obtain ⟨⟨⟨rfl, rfl⟩, hs2⟩, hs3⟩ := hs
        rw [Option.map_eq_some_iff] at e
        obtain ⟨fa, h2, rfl⟩ := e
        exact pe_srtset C.ok.hK C.ok.calm gl (mem_bn C (by decide +kernel)) (glb_ok C hs2) (mem_bn C (by decide +kernel)) (hf x fa h2) hs3
      · have hs := (grd_some e).1
        replace e := (grd_some e).2
        simp only [Bool.and_eq_true, decide_eq_true_eq] at hs
        obtain ⟨rfl, hs3⟩ := hs
        rw [Option.map_eq_some_iff] at e
        obtain ⟨fa, h2, rfl⟩ := e
        exact pe_den_srtI C.ok.hK C.ok.calm gl (mem_bn C (by decide +kernel)) (hf _ fa h2) hs3
theorem cIs_ok (C : Cx1 X c M G N W sc) {f : Expr → Option Sm} (hf : ∀ e g, f e = some g → PE X e (den c W g)) {a b : Expr} {h : Sm} {p pos : Pos} (gl : Gl X "isinstance") (e : cIs f sc a b = some h) : PE X (.Call (.Name "isinstance" p) [a, b] [] pos) (den c W h) := by
  unfold cIs at e
  split at e
  · rename_i t p2
    have hs := (grd_some e).1
    replace e := (grd_some e).2
    rw [Bool.and_eq_true] at hs
    rw [Option.bind_eq_some_iff] at e
    obtain ⟨ty, h0, e⟩ := e
    rw [Option.map_eq_some_iff] at e
    obtain ⟨fa, h1, rfl⟩ := e
    cases tyOf_some h0
    exact pe_isi ty C.ok.hK gl (mem_bn C (by decide +kernel)) (glb_ok C hs.2) (ty_free C ty) (hf a fa h1) hs.1
  · rename_i t p2 u p3 k p4
    have hs := (grd_some e).1
    replace e := (grd_some e).2
    simp only [Bool.and_eq_true] at hs
    obtain ⟨⟨hs1, hs2⟩, hs3⟩ := hs
    rw [Option.bind_eq_some_iff] at e
    obtain ⟨ty, h0, e⟩ := e
    rw [Option.bind_eq_some_iff] at e
    obtain ⟨uy, h00, e⟩ := e
    rw [Option.map_eq_some_iff] at e
    obtain ⟨fa, h1, rfl⟩ := e
    cases tyOf_some h0
    cases tyOf_some h00
    exact pe_isi2 ty uy C.ok.hK gl (mem_bn C (by decide +kernel)) (glb_ok C hs2) (ty_free C ty) (glb_ok C hs3) (ty_free C uy) (hf a fa h1) hs1
  · cases e
theorem cCall_ok (C : Cx1 X c M G N W sc) {f : Expr → Option Sm} (hf : ∀ e g, f e = some g → PE X e (den c W g)) {g : Str} {args : List Expr} {h : Sm} {p pos : Pos} (e : cCall M G N f sc g args = some h) : PE X (.Call (.Name g p) args [] pos) (den c W h) := by
  unfold cCall at e
  have hg := (grd_some e).1
  replace e := (grd_some e).2
  rw [Bool.and_eq_true] at hg
  have gl := glb_ok C hg.1
  have od := okN_ok hg.2
  split at e
  · rename_i n hn
    have hs := (grd_some e).1
    replace e := (grd_some e).2
    rw [Option.bind_eq_some_iff] at e
    obtain ⟨fs, h1, e⟩ := e
    split at e
    · rename_i hl
      cases e
      obtain ⟨k, fa, fd, ps, A⟩ := C.env.fn g n hn
      cases args with
      | nil =>
        cases h1
        cases hl
        exact pe_den_call0 C.ok A gl od.1
      | cons a as => exact pe_den_call C.ok A gl (pa_args C hf h1 hs) hl od.1 hs
    · cases e
  · split at e
    · rename_i ini n hn
      have hs := (grd_some e).1
      replace e := (grd_some e).2
      rw [Option.bind_eq_some_iff] at e
      obtain ⟨fs, h1, e⟩ := e
      split at e
      · rename_i hl
        cases e
        obtain ⟨k, fa, fd, ps, A⟩ := C.env.ma g ini n hn
        exact pe_den_make C.ok A gl (pa_args C hf h1 hs) (optAll_len h1) hl od.1 hs
      · cases e
    · split at e
      · exact cB1_ok C hf gl e
      · split at e
        · rename_i hi
          subst hi
          exact cIs_ok C hf gl e
        · exact cMm_ok C hf gl e
      · cases e
theorem cClo_ok (C : Cx1 X c M G N W sc) {f : Expr → Option Sm} (hf : ∀ e g, f e = some g → PE X e (den c W g)) {g : Str} {args : List Expr} {h : Sm} {p pos : Pos} (e : cClo M G N f sc g args = some h) : PE X (.Call (.Name g p) args [] pos) (den c W h) := by
  unfold cClo at e
  split at e
  · have h0 := (grd_some e).1
    replace e := (grd_some e).2
    simp only [Bool.and_eq_true] at h0
    rw [Option.bind_eq_some_iff] at e
    obtain ⟨i, h1, e⟩ := e
    rw [Option.map_eq_some_iff] at e
    obtain ⟨fa, h2, rfl⟩ := e
    exact pe_den_callV C.ok C.env.lv (by rw [C.N]; exact ixOf_some h1) (vis_ok C h0.1.2) (okN_ok h0.1.1).1 (okN_ok h0.1.1).2 (hf _ fa h2) h0.2
  · cases e
theorem cMt0_ok {f : Expr → Option Sm} (hf : ∀ e g, f e = some g → PE X e (den c W g)) {m : Str} {a : Expr} {apos pos : Pos} {h : Sm} (e : cMt0 f m a apos pos = some h) : PE X (.Call (.Attribute a m apos) [] [] pos) (den c W h) := by
  unfold cMt0 at e
  have h0 := (grd_some e).1
  replace e := (grd_some e).2
  rw [Bool.and_eq_true] at h0
  split at e
  · rename_i hm
    subst hm
    rw [Option.map_eq_some_iff] at e
    obtain ⟨fa, h1, rfl⟩ := e
    exact pe_den_upper (hf a fa h1) h0.1 h0.2
  · split at e
    · rename_i hm
      subst hm
      rw [Option.map_eq_some_iff] at e
      obtain ⟨fa, h1, rfl⟩ := e
      exact pe_den_pop0 (hf a fa h1) h0.1 h0.2
    · cases e
theorem cMt1_ok (C : Cok X c W) {f : Expr → Option Sm} (hf : ∀ e g, f e = some g → PE X e (den c W g)) {m : Str} {a b : Expr} {apos pos : Pos} {h : Sm} (e : cMt1 f m a b apos pos = some h) : PE X (.Call (.Attribute a m apos) [b] [] pos) (den c W h) := by
  unfold cMt1 at e
  have h0 := (grd_some e).1
  replace e := (grd_some e).2
  simp only [Bool.and_eq_true] at h0
  have two : ∀ {k : Sm → Sm → Sm}, ((f a).bind fun fa => (f b).map (k fa)) = some h → ∃ fa fb, PE X a (den c W fa) ∧ PE X b (den c W fb) ∧ h = k fa fb := fun {k} e => by
    rw [Option.bind_eq_some_iff] at e
    obtain ⟨fa, h1, e⟩ := e
    rw [Option.map_eq_some_iff] at e
    obtain ⟨fb, h2, rfl⟩ := e
    exact ⟨fa, fb, hf a fa h1, hf b fb h2, rfl⟩
  split at e
  · rename_i hm
    subst hm
    obtain ⟨fa, fb, k1, k2, rfl⟩ := two e
    exact pe_den_ix C.hK C.hu k1 k2 h0.1.2 h0.1.1 h0.2
  split at e
  · rename_i hm
    subst hm
    obtain ⟨fa, fb, k1, k2, rfl⟩ := two e
    exact pe_den_join C.hK k1 k2 h0.1.2 h0.1.1 h0.2
  split at e
  · rename_i hm
    subst hm
    obtain ⟨fa, fb, k1, k2, rfl⟩ := two e
    exact pe_den_split k1 k2 h0.1.2 h0.1.1 h0.2
  split at e
  · rename_i hm
    subst hm
    obtain ⟨fa, fb, k1, k2, rfl⟩ := two e
    exact pe_den_part k1 k2 h0.1.2 h0.1.1 h0.2
  split at e
  · rename_i hm
    subst hm
    obtain ⟨fa, fb, k1, k2, rfl⟩ := two e
    exact pe_den_pop1 k1 k2 h0.1.1 h0.1.2 h0.2
  · cases e
theorem cMt2_ok (C : Cok X c W) {f : Expr → Option Sm} (hf : ∀ e g, f e = some g → PE X e (den c W g)) {m : Str} {a b b2 : Expr} {apos pos : Pos} {h : Sm} (e : cMt2 f m a b b2 apos pos = some h) : PE X (.Call (.Attribute a m apos) [b, b2] [] pos) (den c W h) := by
  unfold cMt2 at e
  have h0 := (grd_some e).1
  replace e := (grd_some e).2
  simp only [Bool.and_eq_true] at h0
  split at e
  · rename_i hm
    subst hm
    rw [Option.bind_eq_some_iff] at e
    obtain ⟨fa, h1, e⟩ := e
    rw [Option.bind_eq_some_iff] at e
    obtain ⟨fb, h2, e⟩ := e
    rw [Option.map_eq_some_iff] at e
    obtain ⟨fc, h3, rfl⟩ := e
    exact pe_den_get2 C.hu (hf a fa h1) (hf b fb h2) (hf b2 fc h3) h0.1.1.1 h0.1.1.2 h0.1.2 h0.2
  · cases e
theorem cMt_ok (C : Cx1 X c M G N W sc) {f : Expr → Option Sm} (hf : ∀ e g, f e = some g → PE X e (den c W g)) {m : Str} {a : Expr} {args : List Expr} {apos pos : Pos} {h : Sm} (e : cMt M G N sc f m a args apos pos = some h) : PE X (.Call (.Attribute a m apos) args [] pos) (den c W h) := by
  unfold cMt at e
  split at e
  · split at e
    · exact cMt0_ok hf e
    · exact cMt1_ok C.ok hf e
    · exact cMt2_ok C.ok hf e
    · cases e
  · exact cOwn_ok C hf e
end
end KL

namespace KL
open PySem L2

section
variable {X : Cx} {c : Ct} {M : MI} {G : Tbl} {N : List Str} {W : WX} {sc : Scope}
theorem fold_ok {e : Expr} {env : Env} (h : notSet e = true) (x : Value) : foldedSetIterable e env x = pure x := by
  cases e <;> first | rfl | cases h
theorem cI_set {f : Expr → Option Sm} {one : (D → Option (List D)) → Sm → Im} {zp : Bool} {tg iter : Expr} {fi : Im} (e : cI f sc one zp tg iter = some fi) : notSet iter = true := by
  unfold cI at e
  split at e
  · rfl
  · rfl
  · exact (grd_some e).1
theorem cI_s (C : Cx1 X c M G N W sc) {f : Expr → Option Sm} (hf : ∀ e g, f e = some g → PE X e (den c W g)) {zp : Bool} {tg iter : Expr} {fi : Im} (e : cI f sc iOne zp tg iter = some fi) : PI X tg iter (denI c W (YldS c) fi) := by
  unfold cI at e
  split at e
  · rename_i g p a pos
    split at e
    · rename_i hg
      subst hg
      have h0 := (grd_some e).1
      replace e := (grd_some e).2
      rw [Bool.and_eq_true] at h0
      rw [Option.map_eq_some_iff] at e
      obtain ⟨fa, h1, rfl⟩ := e
      exact pi_rng1 (fun J F io H ds h => fun F2 io2 H2 st2 S s2 => h F2 io2 H2 st2 S.sub s2) (glb_ok C h0.1) (mem_bn C (by decide +kernel)) (hf a fa h1) h0.2
    · split at e
      · rename_i hg
        subst hg
        have h0 := (grd_some e).1
        replace e := (grd_some e).2
        simp only [Bool.and_eq_true] at h0
        rw [Option.map_eq_some_iff] at e
        obtain ⟨fa, h1, rfl⟩ := e
        cases tg with
        | Tuple elts k tp => exact pi_enm C.ok.hK (glb_ok C h0.1.1) (mem_bn C (by decide +kernel)) (hf a fa h1) h0.1.2
        | _ => cases h0.2
      · rw [Option.map_eq_some_iff] at e
        obtain ⟨fa, h1, rfl⟩ := e
        exact pi_seq C.ok.hK (hf _ fa h1)
  · rename_i g p a b pos
    split at e
    · rename_i hg
      subst hg
      have h0 := (grd_some e).1
      replace e := (grd_some e).2
      simp only [Bool.and_eq_true] at h0
      rw [Option.bind_eq_some_iff] at e
      obtain ⟨fa, h1, e⟩ := e
      rw [Option.map_eq_some_iff] at e
      obtain ⟨fb, h2, rfl⟩ := e
      exact pi_rng2 (fun J F io H ds h => fun F2 io2 H2 st2 S s2 => h F2 io2 H2 st2 S.sub s2) (glb_ok C h0.1.1) (mem_bn C (by decide +kernel)) (hf a fa h1) (hf b fb h2) h0.1.2 h0.2
    · split at e
      · rename_i hg
        subst hg
        have h0 := (grd_some e).1
        replace e := (grd_some e).2
        simp only [Bool.and_eq_true] at h0
        rw [Option.bind_eq_some_iff] at e
        obtain ⟨fa, h1, e⟩ := e
        rw [Option.map_eq_some_iff] at e
        obtain ⟨fb, h2, rfl⟩ := e
        cases tg with
        | Tuple elts k tp => exact pi_zp C.ok.hK (glb_ok C h0.1.1.1.2) (mem_bn C (by decide +kernel)) (hf a fa h1) (hf b fb h2) h0.1.1.2 h0.1.2
        | _ => cases h0.2
      · rw [Option.map_eq_some_iff] at e
        obtain ⟨fa, h1, rfl⟩ := e
        exact pi_seq C.ok.hK (hf _ fa h1)
  · replace e := (grd_some e).2
    rw [Option.map_eq_some_iff] at e
    obtain ⟨fa, h1, rfl⟩ := e
    exact pi_seq C.ok.hK (hf _ fa h1)
theorem cI_p (C : Cx1 X c M G N W sc) {f : Expr → Option Sm} (hf : ∀ e g, f e = some g → PE X e (den c W g)) {tg iter : Expr} {fi : Im} (e : cI f sc iOneP false tg iter = some fi) : PI X tg iter (denI c W (YldP c) fi) := by
  unfold cI at e
  split at e
  · rename_i g p a pos
    split at e
    · rename_i hg
      subst hg
      have h0 := (grd_some e).1
      replace e := (grd_some e).2
      rw [Bool.and_eq_true] at h0
      rw [Option.map_eq_some_iff] at e
      obtain ⟨fa, h1, rfl⟩ := e
      exact pi_rng1 (fun J F io H ds h => fun F2 io2 H2 st2 _ hs s2 => h F2 io2 H2 st2 hs s2) (glb_ok C h0.1) (mem_bn C (by decide +kernel)) (hf a fa h1) h0.2
    · split at e
      · rename_i hg
        subst hg
        have h0 := (grd_some e).1
        replace e := (grd_some e).2
        simp only [Bool.and_eq_true] at h0
        rw [Option.map_eq_some_iff] at e
        obtain ⟨fa, h1, rfl⟩ := e
        cases tg with
        | Tuple elts k tp => exact pi_enmP C.ok.hK (glb_ok C h0.1.1) (mem_bn C (by decide +kernel)) (hf a fa h1) h0.1.2
        | _ => cases h0.2
      · rw [Option.map_eq_some_iff] at e
        obtain ⟨fa, h1, rfl⟩ := e
        exact pi_seqP C.ok.hK (hf _ fa h1)
  · rename_i g p a b pos
    split at e
    · rename_i hg
      subst hg
      have h0 := (grd_some e).1
      replace e := (grd_some e).2
      simp only [Bool.and_eq_true] at h0
      rw [Option.bind_eq_some_iff] at e
      obtain ⟨fa, h1, e⟩ := e
      rw [Option.map_eq_some_iff] at e
      obtain ⟨fb, h2, rfl⟩ := e
      exact pi_rng2 (fun J F io H ds h => fun F2 io2 H2 st2 _ hs s2 => h F2 io2 H2 st2 hs s2) (glb_ok C h0.1.1) (mem_bn C (by decide +kernel)) (hf a fa h1) (hf b fb h2) h0.1.2 h0.2
    · split at e
      · have h0 := (grd_some e).1
        simp only [Bool.and_eq_true] at h0
        cases h0.1.1.1.1
      · rw [Option.map_eq_some_iff] at e
        obtain ⟨fa, h1, rfl⟩ := e
        exact pi_seqP C.ok.hK (hf _ fa h1)
  · replace e := (grd_some e).2
    rw [Option.map_eq_some_iff] at e
    obtain ⟨fa, h1, rfl⟩ := e
    exact pi_seqP C.ok.hK (hf _ fa h1)
/-- a target's reading -/
def gOf (K : PySem.W.Frag) : Tg → TG
  | .name i => gName i
  | .tup is => gTup K is.length (gNames is)
theorem gOf_ok {K : PySem.W.Frag} (hK : K = c.K) (t : Tg) : TgOk c t (gOf K t) := by
  cases t with
  | name i => exact tg_name i
  | tup is => exact tg_tup hK is
theorem cNm_ok (hnd : X.N.Nodup) (hN : X.N = N) (hsc : X.env.scope = sc) {cl : Bool} (hfn : cl = true → ∀ x, X.fn x = true) {e : Expr} {i : Nat} (h : cNm N sc cl e = some i) : ∃ x p, e = .Name x p ∧ PG X e (gName i) := by
  cases e with
  | Name x p =>
    have h0 := (grd_some h).1
    replace h := (grd_some h).2
    refine ⟨x, p, rfl, ?_⟩
    unfold locN at h0
    simp only [Bool.or_eq_true, Bool.and_eq_true, decide_eq_true_eq] at h0
    rcases h0 with h0 | ⟨h0, h1⟩
    · exact pg_name hnd (by rw [hN]; exact ixOf_some h) (.inl (by rw [hsc]; exact h0)) (.inr (by rw [hsc]; exact h0))
    · exact pg_name hnd (by rw [hN]; exact ixOf_some h) (.inr (by rw [hsc]; exact h1)) (.inl (hfn h0 x))
  | _ => cases h
theorem cNms_ok (hnd : X.N.Nodup) (hN : X.N = N) (hsc : X.env.scope = sc) {cl : Bool} (hfn : cl = true → ∀ x, X.fn x = true) : ∀ {es : List Expr} {is : List Nat}, optAll (cNm N sc cl) es = some is → PGs X es (gNames is) ∧ (assignEach es X.env).length = is.length ∧ (assignEach es X.env).findIdx? (·.1) = none
  | [], _, h => by cases h; exact ⟨pgs_nil, rfl, rfl⟩
  | e :: es, is, h => by
    simp only [optAll, Option.bind_eq_some_iff, Option.map_eq_some_iff] at h
    obtain ⟨i, h1, is', h2, rfl⟩ := h
    obtain ⟨x, p, rfl, q⟩ := cNm_ok hnd hN hsc hfn h1
    obtain ⟨q1, q2, q3⟩ := cNms_ok hnd hN hsc hfn h2
    refine ⟨pgs_cons q q1, ?_, ?_⟩
    · show (assignEach es X.env).length + 1 = is'.length + 1
      rw [q2]
    · show List.findIdx? (·.1) ((false, _) :: assignEach es X.env) = none
      rw [List.findIdx?_cons]
      simp [q3]
theorem cTg_ok (hnd : X.N.Nodup) (hN : X.N = N) (hsc : X.env.scope = sc) (hcalm : X.calm = true) {cl : Bool} (hfn : cl = true → ∀ x, X.fn x = true) {tg : Expr} {t : Tg} (h : cTg N sc cl tg = some t) : PG X tg (gOf X.K t) := by
  unfold cTg at h
  split at h
  · rename_i es k p
    rw [Option.map_eq_some_iff] at h
    obtain ⟨is, h1, rfl⟩ := h
    obtain ⟨q1, q2, q3⟩ := cNms_ok hnd hN hsc hfn h1
    exact pg_tup hcalm q1 q2 q3
  · rw [Option.map_eq_some_iff] at h
    obtain ⟨i, h1, rfl⟩ := h
    obtain ⟨x, p, e, q⟩ := cNm_ok hnd hN hsc hfn h1
    exact q
theorem Env1.to {Y : Cx} (E : Env1 X c M G) (h1 : Y.prog = X.prog) (h2 : Y.w = X.w) (h3 : Y.K = X.K) (h4 : Y.mg = X.mg) (h5 : Y.base = X.base) (h6 : Y.A = X.A) : Env1 Y c M G := by
  refine ⟨by rw [h4]; exact E.free, by rw [h4]; exact E.cst, fun g n h => ?_, fun C m g n h1' h2' => ?_, fun C g n h => ?_, E.fl, fun e he => ?_, ⟨fun t ld h => ?_⟩, fun L xs h => ?_, fun e w h => ?_⟩
  · obtain ⟨k, f, fd, ps, A⟩ := E.fn g n h
    exact ⟨k, f, fd, ps, ⟨by rw [h1, h2, h3, h4, h5]; exact A.ok, by rw [h6]; exact A.room, by rw [h4]; exact A.glo, by rw [h3]; exact A.keep, by rw [h3]; exact A.bnd⟩⟩
  · obtain ⟨k, f, fd, ps, A⟩ := E.mt C m g n h1' h2'
    exact ⟨k, f, fd, ps, ⟨by rw [h1, h2, h3, h4, h5]; exact A.ok, by rw [h6]; exact A.room, by rw [h3]; exact A.me, by rw [h3]; exact A.bnd⟩⟩
  · obtain ⟨k, f, fd, ps, A⟩ := E.ma C g n h
    exact ⟨k, f, fd, ps, ⟨by rw [h1, h2, h3, h4, h5]; exact A.ok, by rw [h6]; exact A.room, by rw [h3]; exact A.mkr, by rw [h3]; exact A.bnd, A.cls, by rw [h4]; exact A.glo⟩⟩
  · obtain ⟨C, A⟩ := E.xc e he
    exact ⟨C, ⟨A.at_, by rw [h3]; exact A.exc, by rw [h4]; exact A.glo, by rw [h3]; exact A.keep, by rw [h3]; exact A.sub, by rw [h3]; exact A.ty⟩⟩
  · obtain ⟨e1, g, k, e2, e3, e4⟩ := E.lv.at_ t ld h
    exact ⟨e1, g, k, e2, by rw [h1, h2, h4, h5]; exact e3, by rw [h6]; exact e4⟩
  · rw [h3, h4]
    exact E.cat L xs h
  · obtain ⟨f, fd, D, A⟩ := E.wd e w h
    exact ⟨f, fd, D, ⟨by rw [h1, h2, h3, h4, h5]; exact A.ok, by rw [h6]; exact A.room, A.at_, by rw [h4]; exact A.glo, by rw [h3]; exact A.keep, by rw [h3]; exact A.bnd⟩⟩
theorem keys_ok {f : Expr → Option Sm} (hf : ∀ e g, f e = some g → PE X e (den c W g)) {pos : Pos} : ∀ {keys : List (Option Expr)} {es : List Expr} {ks : List Str} {fs : List Sm}, cKeys keys = some ks → optAll f es = some fs → keys.length = es.length → PPs X pos keys es ((ks.zip fs).map fun p => (tC (.str p.1), den c W p.2)) ∧ keys.all (·.isSome) = true ∧ ks.length = keys.length
  | [], [], _, _, h1, h2, _ => by cases h1; cases h2; exact ⟨pps_nil, rfl, rfl⟩
  | [], _ :: _, _, _, _, _, h => by cases h
  | k :: keys, es, ks, fs, h1, h2, hl => by
    unfold cKeys at h1
    split at h1
    · cases ‹_ :: _ = []›
    · rename_i x j p r e
      cases e
      rw [Option.map_eq_some_iff] at h1
      obtain ⟨ks', h1, rfl⟩ := h1
      cases es with
      | nil => cases hl
      | cons e es =>
        simp only [optAll, Option.bind_eq_some_iff, Option.map_eq_some_iff] at h2
        obtain ⟨b, q1, bs', q2, rfl⟩ := h2
        obtain ⟨r1, r2, r3⟩ := keys_ok hf (pos := pos) h1 q2 (by simpa using hl)
        exact ⟨pps_cons pe_str (hf e b q1) r1, by simpa using r2, by simp [r3]⟩
    · cases h1
theorem Cx1.blk (C : Cx1 X c M G N W sc) (s : Shared) (H : Hp) (scope : Scope) (cl : List (Str × Addr)) (a : Addr) (fp : List Addr) : Cx1 (X.blk s H scope (compEnvC scope cl a X.env) fp) c M G N W0 (relS scope sc) := by
  refine ⟨⟨C.ok.hK, C.ok.nd, C.ok.calm, C.ok.hu, fun u s' x => ?_⟩, C.N, ?_, C.env.to rfl rfl rfl rfl rfl rfl⟩
  · obtain ⟨_, _, _, _, _, _, _, _, _, _, _, _, _, _, _, _, w⟩ := x
    exact w.elim
  · rw [← C.sc]; rfl
theorem cCompW_fi {N : List Str} {sc : Scope} {fT fE : Scope → Expr → Option Sm} {fio : Option Im} {elt : Expr} {gen : Comprehension} {scope : Scope} {f : Sm} (h : cCompW N sc fT fE fio elt gen scope = some f) : ∃ fi, fio = some fi := by
  unfold cCompW at h
  replace h := (grd_some h).2
  rw [Option.bind_eq_some_iff] at h
  obtain ⟨tg, h1, h⟩ := h
  replace h := (grd_some h).2
  rw [Option.bind_eq_some_iff] at h
  obtain ⟨fi, h3, h⟩ := h
  exact ⟨fi, h3⟩
/-- all that a comprehension's rule asks -/
structure CompP (X : Cx) (c : Ct) (W : WX) (elt tgE iter : Expr) (ifs : List Expr) (scope : Scope) (own : List (Str × Nat)) (tg : Tg) (fi : Im) (fc : Option Sm) (fe : Sm) (tt : TT) : Prop where
  hi : PI X tgE iter (denI c W (YldS c) fi)
  ok : BlkOk X.N X.env.scope scope own
  hg : ∀ (s : Shared) (H : Hp) (C : Addr) (cl : List (Str × Addr)) (fp : List Addr), PG (X.blk s H scope (compEnvC scope cl C X.env) fp) tgE (gOf X.K tg)
  ht : ∀ (s : Shared) (H : Hp) (C : Addr) (cl : List (Str × Addr)) (fp : List Addr), PTs (X.blk s H scope (compEnvC scope cl C X.env) fp) ifs tt
  hto : CtOk c fc tt
  he : ∀ (s : Shared) (H : Hp) (C : Addr) (cl : List (Str × Addr)) (fp : List Addr), PE (X.blk s H scope (compEnvC scope cl C X.env) fp) elt (den c W0 fe)
  hs : notSet iter = true
  hsl : ∀ i ∈ tg.slots, i ∈ own.map (·.2)
theorem comp_inv {n : Nat} (IH : ∀ b sc e f, cX M G N n b sc e = some f → ∀ (X : Cx) (W : WX), Cx1 X c M G N W sc → Snd b X c W e f) (C : Cx1 X c M G N W sc) {elt : Expr} {gen : Comprehension} {scope : Scope} {f : Sm} {fio : Option Im} (hfi : ∀ fi, fio = some fi → PI X gen.target gen.iter (denI c W (YldS c) fi)) (hset : notSet gen.iter = true) (h : cCompW N sc (cX M G N n true) (cX M G N n false) fio elt gen scope = some f) :
    ∃ tg fi fc fe tt, f = eComp ((ownOf N scope.names).map (·.2)) tg fi fc fe ∧ gen = ⟨gen.target, gen.iter, gen.ifs, 0⟩ ∧ CompP X c W elt gen.target gen.iter gen.ifs scope (ownOf N scope.names) tg fi fc fe tt := by
  unfold cCompW at h
  have h0 := (grd_some h).1
  replace h := (grd_some h).2
  rw [Bool.and_eq_true] at h0
  rw [Option.bind_eq_some_iff] at h
  obtain ⟨tg, h1, h⟩ := h
  have h2 := (grd_some h).1
  replace h := (grd_some h).2
  rw [Option.bind_eq_some_iff] at h
  obtain ⟨fi, h3, h⟩ := h
  rw [Option.bind_eq_some_iff] at h
  obtain ⟨fc, h4, h⟩ := h
  rw [Option.map_eq_some_iff] at h
  obtain ⟨fe, h5, rfl⟩ := h
  have ha : gen.is_async = 0 := of_decide_eq_true h0.2
  have hblk : BlkOk X.N X.env.scope scope (ownOf N scope.names) := by
    rw [C.N, C.sc]
    exact blkOk_by h0.1
  have tts : ∃ tt, CtOk c fc tt ∧ ∀ (s : Shared) (H : Hp) (C : Addr) (cl : List (Str × Addr)) (fp : List Addr), PTs (X.blk s H scope (compEnvC scope cl C X.env) fp) gen.ifs tt := by
    unfold cIfs at h4
    split at h4
    · rename_i e
      cases h4
      rw [e]
      exact ⟨tYes, .inl ⟨rfl, rfl⟩, fun _ _ _ _ _ => pts_nil⟩
    · rename_i t e
      rw [Option.map_eq_some_iff] at h4
      obtain ⟨g, h4, rfl⟩ := h4
      rw [e]
      exact ⟨denT c W0 g, .inr ⟨g, rfl, rfl⟩, fun s H a cl fp => pts_one (IH true _ t g h4 _ W0 (C.blk s H scope cl a fp))⟩
    · cases h4
  obtain ⟨tt, k1, k2⟩ := tts
  refine ⟨tg, fi, fc, fe, tt, rfl, ?_, ⟨hfi fi h3, hblk, fun s H a cl fp => ?_, k2, k1, fun s H a cl fp => IH false _ elt fe h5 _ W0 (C.blk s H scope cl a fp), hset, fun i hi => of_decide_eq_true (List.all_eq_true.mp h2 i hi)⟩⟩
  · cases gen
    simp only at ha
    subst ha
    rfl
  · have B := C.blk s H scope cl a fp
    unfold cTgW at h1
    split at h1
    · rename_i x p e
      rw [e]
      split at h1
      · rename_i hc
        have hl := of_decide_eq_true (grd_some h1).1
        replace h1 := (grd_some h1).2
        rw [Option.map_eq_some_iff] at h1
        obtain ⟨i, hi, rfl⟩ := h1
        have hf : (X.blk s H scope (compEnvC scope cl a X.env) fp).fn x = true := by
          show (scope.names.lookup x == some .cell) = true
          rw [hc]
          rfl
        exact pg_name B.ok.nd (by rw [B.N]; exact ixOf_some hi) (by rw [B.sc]; exact .inr hl) (.inl hf)
      · exact cTg_ok (cl := false) B.ok.nd B.N B.sc B.ok.calm (fun z => nomatch z) h1
    · exact cTg_ok (cl := false) B.ok.nd B.N B.sc B.ok.calm (fun z => nomatch z) h1
theorem CompP.pe (C : Cok X c W) {elt tgE iter : Expr} {ifs : List Expr} {scope : Scope} {own : List (Str × Nat)} {tg : Tg} {fi : Im} {fc : Option Sm} {fe : Sm} {tt : TT} {pos : Pos} (h : CompP X c W elt tgE iter ifs scope own tg fi fc fe tt) :
    PE X (.ListComp elt [⟨tgE, iter, ifs, 0⟩] scope pos) (den c W (eComp (own.map (·.2)) tg fi fc fe)) :=
  pe_den_comp C h.hi h.ok h.hg (gOf_ok C.hK tg) h.ht h.hto h.he (fold_ok h.hs) h.hsl
theorem CompP.ps (C : Cok X c W) {elt tgE iter : Expr} {ifs : List Expr} {scope : Scope} {own : List (Str × Nat)} {tg : Tg} {fi : Im} {fc : Option Sm} {fe : Sm} {tt : TT} {pos py spos : Pos} {i : Nat} {y : Str} (h : CompP X c W elt tgE iter ifs scope own tg fi fc fe tt) (hy : X.N[i]? = some y) (hyl : X.env.scope.names.lookup y = some .local)
    (hsw : swapsWith (.ListComp elt [⟨tgE, iter, ifs, 0⟩] scope pos) (some (.Name y py)) spos.line X.env = pure true) :
    PS X (.Assign [.Name y py] (.ListComp elt [⟨tgE, iter, ifs, 0⟩] scope pos) spos) (tAsg (den c W (eComp (own.map (·.2)) tg fi fc fe)) (gName i)) :=
  PS.weak (ps_setLc C.calm C.nd hy hyl hsw h.hi h.ok h.hg h.ht h.he (fold_ok h.hs)) fun D σ H q => comp_of (gOf_ok C.hK tg) h.hto h.hsl q
theorem po_part {f : Expr → Option Sm} (hf : ∀ e g, f e = some g → PE X e (den c W g)) {o : Option Expr} {fo : Option Sm} (h : cPart f o = some fo) : PO X o (denO c W fo) := by
  cases o with
  | none => cases h; exact po_den_none
  | some e =>
    simp only [cPart, Option.map_eq_some_iff] at h
    obtain ⟨g, h1, rfl⟩ := h
    exact po_den_some (hf e g h1)
/-- THE expression's theorem -/
theorem cX_ok : ∀ (n : Nat) (b : Bool) (sc : Scope) (e : Expr) (f : Sm), cX M G N n b sc e = some f → ∀ (X : Cx) (W : WX), Cx1 X c M G N W sc → Snd b X c W e f
  | 0, _, _, _, _, h, _, _, _ => by cases h
  | n + 1, true, sc, e, f, h, X, W, C => by
    have IH := cX_ok n
    have E : ∀ e g, cX M G N n false sc e = some g → PE X e (den c W g) := fun e g q => IH false sc e g q X W C
    have T : ∀ e g, cX M G N n true sc e = some g → PT X e (denT c W g) := fun e g q => IH true sc e g q X W C
    show PT X e (denT c W f)
    unfold cX at h
    split at h
    · rename_i x p
      rw [Option.map_eq_some_iff] at h
      obtain ⟨g, h1, rfl⟩ := h
      exact pt_den_not (T x g h1)
    · exact (cBool_pw T h).pt
    · have h0 := (grd_some h).1
      replace h := (grd_some h).2
      rw [Option.bind_eq_some_iff] at h
      obtain ⟨fa, h1, h⟩ := h
      rw [Option.map_eq_some_iff] at h
      obtain ⟨fb, h2, rfl⟩ := h
      exact pt_den_cmp C.ok (E _ fa h1) (E _ fb h2) (by simpa using h0)
    · have h0 := (grd_some h).1
      replace h := (grd_some h).2
      rw [Option.bind_eq_some_iff] at h
      obtain ⟨fa, h1, h⟩ := h
      rw [Option.bind_eq_some_iff] at h
      obtain ⟨fb, h2, h⟩ := h
      rw [Option.map_eq_some_iff] at h
      obtain ⟨fc, h3, rfl⟩ := h
      exact pt_den_cmp2 C.ok (E _ fa h1) (E _ fb h2) (E _ fc h3) (by simpa using h0)
    · have h0 := (grd_some h).1
      replace h := (grd_some h).2
      rw [Option.map_eq_some_iff] at h
      obtain ⟨fa, h1, rfl⟩ := h
      exact pt_den_tru C.ok (E _ fa h1) h0
  | n + 1, false, sc, e, f, h, X, W, C => by
    have IH := cX_ok n
    have E : ∀ e g, cX M G N n false sc e = some g → PE X e (den c W g) := fun e g q => IH false sc e g q X W C
    have T : ∀ e g, cX M G N n true sc e = some g → PT X e (denT c W g) := fun e g q => IH true sc e g q X W C
    show PE X e (den c W f)
    unfold cX at h
    split at h
    · cases h; exact pe_den_c pe_int fun _ _ => .int _
    · cases h; exact pe_den_c pe_bl fun _ _ => .bl _
    · cases h; exact pe_den_c pe_non fun _ _ => .non
    · cases h; exact pe_den_c pe_str fun _ _ => .str _
    · rename_i x p
      have h0 := okN_ok (grd_some h).1
      replace h := (grd_some h).2
      split at h
      · rename_i hv
        rw [Option.map_eq_some_iff] at h
        obtain ⟨i, h1, rfl⟩ := h
        exact pe_den_var (by rw [C.N]; exact ixOf_some h1) (vis_ok C hv) h0.1 h0.2
      · have h2 := (grd_some h).1
        replace h := (grd_some h).2
        rw [Option.map_eq_some_iff] at h
        obtain ⟨d, h1, rfl⟩ := h
        obtain ⟨v, u, e1, e2, e3⟩ := C.env.cst x d h1
        exact pe_den_c (pe_glob (glb_ok C h2) e1 e2 h0.1) e3
    · have h0 := (grd_some h).1
      replace h := (grd_some h).2
      simp only [Bool.and_eq_true, decide_eq_true_eq] at h0
      rw [Option.map_eq_some_iff] at h
      obtain ⟨fs, h1, rfl⟩ := h
      exact pe_den_tup (pa_all E h1 h0.1) (fewer (by rw [optAll_len h1]; exact h0.2))
    · have h0 := (grd_some h).1
      replace h := (grd_some h).2
      simp only [Bool.and_eq_true, decide_eq_true_eq] at h0
      rw [Option.map_eq_some_iff] at h
      obtain ⟨fs, h1, rfl⟩ := h
      exact pe_den_lst (pa_all E h1 h0.1) (fewer (by rw [optAll_len h1]; exact h0.2))
    · rw [Option.bind_eq_some_iff] at h
      obtain ⟨fa, h1, h⟩ := h
      rw [Option.map_eq_some_iff] at h
      obtain ⟨fb, h2, rfl⟩ := h
      exact pe_den_bin C.ok (E _ fa h1) (E _ fb h2)
    · rw [Option.map_eq_some_iff] at h
      obtain ⟨fa, h1, rfl⟩ := h
      exact pe_den_not (E _ fa h1)
    · rw [Option.map_eq_some_iff] at h
      obtain ⟨fa, h1, rfl⟩ := h
      exact pe_den_neg (E _ fa h1)
    · exact cBool_pe E h
    · have h0 := (grd_some h).1
      replace h := (grd_some h).2
      rw [Option.bind_eq_some_iff] at h
      obtain ⟨fa, h1, h⟩ := h
      rw [Option.map_eq_some_iff] at h
      obtain ⟨fb, h2, rfl⟩ := h
      exact pe_den_cmp C.ok (E _ fa h1) (E _ fb h2) (by simpa using h0)
    · have h0 := (grd_some h).1
      replace h := (grd_some h).2
      rw [Option.bind_eq_some_iff] at h
      obtain ⟨fa, h1, h⟩ := h
      rw [Option.bind_eq_some_iff] at h
      obtain ⟨fb, h2, h⟩ := h
      rw [Option.map_eq_some_iff] at h
      obtain ⟨fc, h3, rfl⟩ := h
      exact pe_den_cmp2 C.ok (E _ fa h1) (E _ fb h2) (E _ fc h3) (by simpa using h0)
    · rw [Option.bind_eq_some_iff] at h
      obtain ⟨ft, h0, h⟩ := h
      rw [Option.bind_eq_some_iff] at h
      obtain ⟨fa, h1, h⟩ := h
      rw [Option.map_eq_some_iff] at h
      obtain ⟨fb, h2, rfl⟩ := h
      exact pe_den_if (T _ ft h0) (E _ fa h1) (E _ fb h2)
    · rw [Option.bind_eq_some_iff] at h
      obtain ⟨fa, h1, h⟩ := h
      rw [Option.bind_eq_some_iff] at h
      obtain ⟨fl, h2, h⟩ := h
      rw [Option.map_eq_some_iff] at h
      obtain ⟨fh, h3, rfl⟩ := h
      exact pe_den_slc C.ok (E _ fa h1) (po_part E h2) (po_part E h3)
    · rw [Option.map_eq_some_iff] at h
      obtain ⟨fa, h1, rfl⟩ := h
      exact pe_den_rev C.ok.hK (E _ fa h1)
    · have h0 := (grd_some h).1
      replace h := (grd_some h).2
      rw [Option.bind_eq_some_iff] at h
      obtain ⟨fa, h1, h⟩ := h
      rw [Option.map_eq_some_iff] at h
      obtain ⟨fl, h2, rfl⟩ := h
      exact pe_den_step C.ok.hK (of_decide_eq_true h0) (E _ fa h1) (E _ fl h2)
    · have h0 := (grd_some h).1
      replace h := (grd_some h).2
      rw [Option.bind_eq_some_iff] at h
      obtain ⟨fa, h1, h⟩ := h
      rw [Option.map_eq_some_iff] at h
      obtain ⟨fb, h2, rfl⟩ := h
      exact pe_den_idx C.ok (E _ fa h1) (E _ fb h2) h0
    · have h0 := (grd_some h).1
      replace h := (grd_some h).2
      rw [Option.map_eq_some_iff] at h
      obtain ⟨fa, h1, rfl⟩ := h
      exact pe_den_fld C.ok.hK (E _ fa h1) h0
    · cases h; exact pe_den_dnew
    · have h0 := (grd_some h).1
      replace h := (grd_some h).2
      simp only [Bool.and_eq_true, decide_eq_true_eq, Bool.not_eq_true'] at h0
      obtain ⟨⟨q1, q2⟩, q3⟩ := h0
      rw [Option.bind_eq_some_iff] at h
      obtain ⟨ks, h1, h⟩ := h
      rw [Option.map_eq_some_iff] at h
      obtain ⟨fs, h2, rfl⟩ := h
      obtain ⟨r1, r2, r3⟩ := keys_ok E (pos := _) h1 h2 q1
      exact pe_den_disp r1 r2 q1 (fun z => by rw [z] at q3; cases q3) q2 (by rw [r3, q1, optAll_len h2]) r3
    · split at h
      · exact cClo_ok C E h
      · exact cCall_ok C E h
    · exact cMt_ok C E h
    · rename_i elt gen scope pos
      rw [Option.bind_eq_some_iff] at h
      obtain ⟨f2, h2, h⟩ := h
      obtain ⟨fi0, hci⟩ := cCompW_fi h2
      have hset := cI_set hci
      obtain ⟨tg, fi, fc, fe, tt, rfl, eg, P⟩ := comp_inv IH C (fun fi q => cI_s C E q) hset h2
      split at h
      · rw [Option.bind_eq_some_iff] at h
        obtain ⟨fa, h3, h⟩ := h
        rw [Option.map_eq_some_iff] at h
        obtain ⟨f1, h1, rfl⟩ := h
        obtain ⟨tg', fi', fc', fe', tt', rfl, _, P'⟩ := comp_inv IH C (fun fi q => by cases q; exact pi_lk C.ok.hK (E _ fa h3)) hset h1
        rw [eg]
        exact pe_den_lk (P'.pe C.ok) (P.pe C.ok)
      · cases h
        rw [eg]
        exact P.pe C.ok
    · cases h
end
end KL

namespace KL
open PySem L2

/-! ### statements -/
def notComp : Expr → Bool
  | .ListComp _ _ _ _ => false
  | .SetComp _ _ _ _ => false
  | .DictComp _ _ _ _ _ => false
  | _ => true
theorem swaps_no {e : Expr} {t : Option Expr} {l : Nat} {env : Env} (h : notComp e = true) : swapsWith e t l env = pure false := by
  cases e <;> first | rfl | cases h
theorem sole_no {t : Expr} {e : Expr} {l : Nat} {env : Env} (h : notComp e = true) : swapsWithSole [t] e l env = pure false := swaps_no h
theorem stores_no {ts : List Expr} {k : Nat} {p : Pos} {e : Expr} {env : Env} (h : isTup e = false) : swappedStores [.Tuple ts k p] e env = pure none := by
  cases e <;> first | rfl | cases h
def par2 (sc : Scope) (x y : Str) (px py : Pos) (a b : Expr) : Bool :=
  decide (sc.kind = .function) && decide (sc.names.lookup x = some .local) && decide (sc.names.lookup y = some .local) && decide (py.line = px.line) && decide (x ≠ y) && notStar a && notStar b && !([a, b].all (foldedForSure 8)) && !([a, b].all (constantsAlone 8))
theorem par2_ok {sc : Scope} {env : Env} (hsc : env.scope = sc) {x y : Str} {px py pt p2 : Pos} {a b : Expr} {kt k2 : Nat} (h : par2 sc x y px py a b = true) : swappedStores [.Tuple [.Name x px, .Name y py] kt pt] (.Tuple [a, b] k2 p2) env = pure (some [x, y]) := by
  unfold par2 at h
  simp only [Bool.and_eq_true, decide_eq_true_eq, Bool.not_eq_true'] at h
  obtain ⟨⟨⟨⟨⟨⟨⟨⟨h1, h2⟩, h3⟩, h4⟩, h5⟩, h6⟩, h7⟩, h8⟩, h9⟩ := h
  have hb : env.blockKind = .function := by
    unfold Env.blockKind
    rw [hsc, h1]
    rfl
  have kx : env.kindOf x = some .local := by show env.scope.names.lookup x = _; rw [hsc]; exact h2
  have ky : env.kindOf y = some .local := by show env.scope.names.lookup y = _; rw [hsc]; exact h3
  have hd : ([x, y] : List Str).eraseDups.length = 2 := by
    have e : (x == y) = false := by simpa using h5
    have e' : (y == x) = false := by simpa using Ne.symm h5
    simp [List.eraseDups_cons, List.filter_cons, e, e']
  unfold swappedStores
  simp only [hb, kx, ky, Expr.pos, h4, List.head?_cons, Option.map_some, Option.getD_some, List.filterMap_cons, List.filterMap_nil, beq_self_eq_true, Bool.and_self, if_true, h8, h9, hd, List.length_cons, List.length_nil]
  clear h8 h9
  have go : ∀ {α : Type} (a b : Expr) (t u : α), notStar a = true → notStar b = true → (if ([a, b].any fun | .Starred .. => true | _ => false) = true then t else u) = u := by
    intro α a b t u ha hb
    cases a <;> first | (cases ha; done) | (cases b <;> first | (cases hb; done) | rfl)
  exact go a b _ _ h6 h7
/-- one of the names is a cell: the parts are told by way of a tuple -/
def parC (sc : Scope) (xs : List Str) : Bool := xs.any fun x => decide (sc.names.lookup x = some .cell)
theorem stores_c2 {sc : Scope} {env : Env} (hsc : env.scope = sc) {x y : Str} {px py pt p2 : Pos} {a b : Expr} {kt k2 : Nat} (h : parC sc [x, y] = true) : swappedStores [.Tuple [.Name x px, .Name y py] kt pt] (.Tuple [a, b] k2 p2) env = pure none := by
  have hn : env.kindOf x = some .cell ∨ env.kindOf y = some .cell := by
    simp only [parC, List.any_cons, List.any_nil, Bool.or_false, Bool.or_eq_true, decide_eq_true_eq] at h
    rw [← hsc] at h
    exact h
  have key : (([.Name x px, .Name y py] : List Expr).filterMap fun
    | .Name id pos => if env.kindOf id == some .local && pos.line == px.line then some id else none
    | _ => none).length ≠ 2 := by
    rcases hn with q | q
    · have e : (env.kindOf x == some NameKind.local) = false := by rw [q]; rfl
      simp only [List.filterMap_cons, List.filterMap_nil, e, Bool.false_and, Bool.false_eq_true, if_false]
      split <;> simp
    · have e : (env.kindOf y == some NameKind.local) = false := by rw [q]; rfl
      simp only [List.filterMap_cons, List.filterMap_nil, e, Bool.false_and, Bool.false_eq_true, if_false]
      split <;> simp
  have key2 := bne_iff_ne.mpr key
  unfold swappedStores
  simp only
  split
  · rfl
  · split
    · rfl
    · exact if_pos (Bool.or_eq_true_iff.mpr (.inl key2))
theorem stores_c3 {sc : Scope} {env : Env} (hsc : env.scope = sc) {x y z : Str} {px py pz pt p2 : Pos} {a b c : Expr} {kt k2 : Nat} (h : parC sc [x, y, z] = true) : swappedStores [.Tuple [.Name x px, .Name y py, .Name z pz] kt pt] (.Tuple [a, b, c] k2 p2) env = pure none := by
  have hn : env.kindOf x = some .cell ∨ env.kindOf y = some .cell ∨ env.kindOf z = some .cell := by
    simp only [parC, List.any_cons, List.any_nil, Bool.or_false, Bool.or_eq_true, decide_eq_true_eq] at h
    rw [← hsc] at h
    exact h
  have key : (([.Name x px, .Name y py, .Name z pz] : List Expr).filterMap fun
    | .Name id pos => if env.kindOf id == some .local && pos.line == px.line then some id else none
    | _ => none).length ≠ 3 := by
    rcases hn with q | q | q
    · have e : (env.kindOf x == some NameKind.local) = false := by rw [q]; rfl
      simp only [List.filterMap_cons, List.filterMap_nil, e, Bool.false_and, Bool.false_eq_true, if_false]
      split <;> split <;> simp
    · have e : (env.kindOf y == some NameKind.local) = false := by rw [q]; rfl
      simp only [List.filterMap_cons, List.filterMap_nil, e, Bool.false_and, Bool.false_eq_true, if_false]
      split <;> split <;> simp
    · have e : (env.kindOf z == some NameKind.local) = false := by rw [q]; rfl
      simp only [List.filterMap_cons, List.filterMap_nil, e, Bool.false_and, Bool.false_eq_true, if_false]
      split <;> split <;> simp
  have key2 := bne_iff_ne.mpr key
  unfold swappedStores
  simp only
  split
  · rfl
  · split
    · rfl
    · exact if_pos (Bool.or_eq_true_iff.mpr (.inl key2))
def par3 (sc : Scope) (x y z : Str) (px py pz : Pos) (a b c : Expr) : Bool :=
  decide (sc.kind = .function) && decide (sc.names.lookup x = some .local) && decide (sc.names.lookup y = some .local) && decide (sc.names.lookup z = some .local) && decide (py.line = px.line) && decide (pz.line = px.line) && decide (x ≠ y) && decide (x ≠ z) && decide (y ≠ z) && notStar a && notStar b && notStar c && !([a, b, c].all (foldedForSure 8)) && !([a, b, c].all (constantsAlone 8))
theorem par3_ok {sc : Scope} {env : Env} (hsc : env.scope = sc) {x y z : Str} {px py pz pt p2 : Pos} {a b c : Expr} {kt k2 : Nat} (h : par3 sc x y z px py pz a b c = true) : swappedStores [.Tuple [.Name x px, .Name y py, .Name z pz] kt pt] (.Tuple [a, b, c] k2 p2) env = pure (some [x, y, z]) := by
  unfold par3 at h
  simp only [Bool.and_eq_true, decide_eq_true_eq, Bool.not_eq_true'] at h
  obtain ⟨⟨⟨⟨⟨⟨⟨⟨⟨⟨⟨⟨⟨h1, h2⟩, h3⟩, h3'⟩, h4⟩, h4'⟩, h5⟩, h5'⟩, h5''⟩, h6⟩, h7⟩, h7'⟩, h8⟩, h9⟩ := h
  have hb : env.blockKind = .function := by
    unfold Env.blockKind
    rw [hsc, h1]
    rfl
  have kx : env.kindOf x = some .local := by show env.scope.names.lookup x = _; rw [hsc]; exact h2
  have ky : env.kindOf y = some .local := by show env.scope.names.lookup y = _; rw [hsc]; exact h3
  have kz : env.kindOf z = some .local := by show env.scope.names.lookup z = _; rw [hsc]; exact h3'
  have hd : ([x, y, z] : List Str).eraseDups.length = 3 := by
    have e' : (y == x) = false := by simpa using Ne.symm h5
    have e2' : (z == x) = false := by simpa using Ne.symm h5'
    have e3' : (z == y) = false := by simpa using Ne.symm h5''
    simp [List.eraseDups_cons, List.filter_cons, e', e2', e3']
  unfold swappedStores
  simp only [hb, kx, ky, kz, Expr.pos, h4, h4', List.head?_cons, Option.map_some, Option.getD_some, List.filterMap_cons, List.filterMap_nil, beq_self_eq_true, Bool.and_self, if_true, h8, h9, hd, List.length_cons, List.length_nil]
  clear h8 h9
  have go : ∀ {α : Type} (f : Expr → Bool), (∀ a, notStar a = true → f a = false) → ∀ (t u : α), (if [a, b, c].any f = true then t else u) = u := by
    intro α f hf t u
    rw [List.any_cons, List.any_cons, List.any_cons, List.any_nil, hf a h6, hf b h7, hf c h7']
    rfl
  refine go _ (fun a h => ?_) _ _
  cases a <;> first | rfl | cases h
/-- what a loop may walk in the store -/
def lkFor : Expr → Bool
  | .Subscript _ (.Constant (.str _) _ _) _ => true
  | .Name x _ => (["some"] : List Str).contains x
  | _ => false
def ownN (own : List Str) (x : Str) : Bool := own.contains x
def cBlk (f : Stmt → Option Ss) : List Stmt → Option Ss
  | [] => some sNil
  | [s] => f s
  | s :: t :: r => (f s).bind fun fs => (cBlk f (t :: r)).map (sSeq fs)
/-- a value: g(e, lambda ..) too -/
def cV (M : MI) (G : Tbl) (N : List Str) (n : Nat) (sc : Scope) : Expr → Option Sm
  | .Call (.Name g p) [a, .Lambda params body scope lp] [] pos => grd (glb sc g && okN g && notStar a && decide (M.fs.lookup g = some 2)) ((findLam (eqLam M.lq sc params body scope) 0 M.lams).bind fun tl => (optAll (fun y => ixOf y N) tl.2.fr).bind fun js => (cX M G N n false sc a).map fun fa => eCallL G g fa tl.1 js)
  | e => cX M G N n false sc e
/-! suites of except: little is asked there -/
def cHE (N : List Str) (sc : Scope) : Nat → Expr → Option Sm
  | 0, _ => none
  | n + 1, e => (match e with
    | .Constant (.int i) _ _ => some (eC (.int i))
    | .Constant (.bool b) _ _ => some (eC (.bl b))
    | .Constant .none _ _ => some (eC .non)
    | .Constant (.str x) _ _ => some (eC (.str x))
    | .Name x _ => grd (okN x && vis sc x) ((ixOf x N).map eVar)
    | .Attribute a m _ => grd (plainBase a) ((cHE N sc n a).map (eFld m))
    | _ => none)
def cHT (N : List Str) (sc : Scope) : Expr → Option Sm
  | .Compare a [op] [b] _ => grd (!behindInMarks op b) ((cHE N sc 5 a).bind fun fa => (cHE N sc 5 b).map (eCmp op fa))
  | _ => none
def cHS (N own : List Str) (sc : Scope) : Nat → Stmt → Option Ss
  | 0, _ => none
  | n + 1, st => (match st with
    | .Return (some e) _ => (cHE N sc 5 e).map sRet
    | .Assign [.Name x p] e _ => grd (locN sc true x && notComp e) ((ixOf x N).bind fun i => (cHE N sc 5 e).map (sAsg (ownN own x) i))
    | .If t a b _ => (cHT N sc t).bind fun ft => (cBlk (cHS N own sc n) a).bind fun fa => (cBlk (cHS N own sc n) b).map (sIf ft fa)
    | .Pass _ => some sNil
    | _ => none)
/-- a clause 'except L:' -/
def cHd (M : MI) (N own : List Str) (sc : Scope) : List ExceptHandler → Option (List Str × Ss)
  | [.ExceptHandler (some (.Name L _)) none (b :: suite) _] => grd (glb sc L && okN L) ((M.cat.lookup L).bind fun xs => (cBlk (cHS N own sc 5) (b :: suite)).map fun fs => (xs, fs))
  | _ => none
def cS (M : MI) (G : Tbl) (N own : List Str) : Nat → Scope → Stmt → Option Ss
  | 0, _, _ => none
  | n + 1, sc, st => (match st with
    | .Assign [.Name x p] (.ListComp elt [gen] scope lp) _ => grd (locN sc true x) ((ixOf x N).bind fun i => (cX M G N n false sc (.ListComp elt [gen] scope lp)).bind fun fe =>
        if sc.names.lookup x = some .local then grd (decide (sc.kind = .function) && (p.line == lp.line) && !(scope.names.any fun (n, k) => n == x && (k == .local || k == .cell))) (some (sAsg (ownN own x) i fe)) else some (sAsg (ownN own x) i fe))
    | .Assign [.Name x p] e _ => grd (locN sc true x && notComp e) ((ixOf x N).bind fun i => (cV M G N n sc e).map fun fe => if M.lay.contains x then sLay i fe else sAsg (ownN own x) i fe)
    | .Assign [.Tuple [.Name x px, .Name y py] kt pt] (.Tuple [a, b] k2 p2) _ => if parC sc [x, y] then grd (notStar a && notStar b) ((optAll (cNm N sc true) [.Name x px, .Name y py]).bind fun is => (optAll (cX M G N n false sc) [a, b]).map (sParN is)) else grd (par2 sc x y px py a b) ((ixOf x N).bind fun i => (ixOf y N).bind fun j => (optAll (cX M G N n false sc) [a, b]).map (sParN [i, j]))
    | .Assign [.Tuple [.Name x px, .Name y py, .Name z pz] kt pt] (.Tuple [a, b, e] k2 p2) _ => if parC sc [x, y, z] then grd (notStar a && notStar b && notStar e) ((optAll (cNm N sc true) [.Name x px, .Name y py, .Name z pz]).bind fun is => (optAll (cX M G N n false sc) [a, b, e]).map (sParN is)) else grd (par3 sc x y z px py pz a b e) ((ixOf x N).bind fun i => (ixOf y N).bind fun j => (ixOf z N).bind fun l => (optAll (cX M G N n false sc) [a, b, e]).map (sParN [i, j, l]))
    | .Assign [.Tuple [.Subscript o1 b1 _, .Subscript o2 b2 _] _ _] e _ => grd (notComp e && notSl b1 && notSl b2) ((cX M G N n false sc o1).bind fun fo1 => (cX M G N n false sc b1).bind fun fk1 => (cX M G N n false sc o2).bind fun fo2 => (cX M G N n false sc b2).bind fun fk2 => (cX M G N n false sc e).map (sPut2 fo1 fk1 fo2 fk2))
    | .Assign [.Tuple es k p] e _ => grd (notComp e && !isTup e) ((optAll (cNm N sc true) es).bind fun is => (cX M G N n false sc e).map (sUnp is))
    | .Return (some e) _ => (cX M G N n false sc e).map sRet
    | .Return none _ => some sRetN
    | .If t a b _ => (cX M G N n true sc t).bind fun ft => (cBlk (cS M G N own n sc) a).bind fun fa => (cBlk (cS M G N own n sc) b).map (sIf ft fa)
    | .For tg iter body [] _ => (cTg N sc true tg).bind fun t => (cI (cX M G N n false sc) sc iOneP false tg iter).bind fun fi => (cBlk (cS M G N own n sc) body).bind fun fb => if lkFor iter then (cX M G N n false sc iter).map fun fa => sForL fa (sFor t (iLk fa) fb) (sFor t fi fb) else some (sFor t fi fb)
    | .While t body [] _ => (cX M G N n true sc t).bind fun ft => (cBlk (cS M G N own n sc) body).map (sWhile ft)
    | .Assign [.Attribute o f _] e _ => grd (notComp e) ((cX M G N n false sc o).bind fun fo => (cX M G N n false sc e).map (sFldS M.fl f fo))
    | .Assign [.Subscript o b _] e _ => grd (notComp e) ((cX M G N n false sc o).bind fun fo => (cX M G N n false sc b).bind fun fb => (cV M G N n sc e).map (sPut fo fb))
    | .Raise (some (.Call (.Name e _) [.Constant (.str _) _ _] [] _)) none _ => grd (glb sc e && okN e && M.xs.contains e) (some (sRaise e))
    | .Try body [.ExceptHandler (some (.Name L _)) (some x) [.Return (some (.Call (.Name g _) [.Name y _] [] _)) _] _] [] [] _ => grd (glb sc L && okN L && decide (sc.names.lookup x = some .local) && okN x && decide (y = x) && decide (g = "_law_word") && glb sc g) ((M.cat.lookup L).bind fun xs => (ixOf x N).bind fun i => (cBlk (cS M G N own n sc) body).map fun fb => sTryX xs M.ws fb)
    | .Try body hds [] [] _ => (cHd M N own sc hds).bind fun h => (cBlk (cS M G N own n sc) body).map fun fb => sTry h.1 fb h.2
    | .Pass _ => some sNil
    | .Break _ => some sBrk
    | .Expr (.Call (.Attribute o m apos) [e] [] cpos) _ => if m = "append" ∨ m = "extend" then grd (plainBase o && notStar e && (apos.endLine == cpos.line)) ((cX M G N n false sc o).bind fun fo => (cX M G N n false sc e).bind fun fe =>
        if m = "append" then some (sApp fo fe) else if m = "extend" then some (sExt fo fe) else none) else (cX M G N n false sc (.Call (.Attribute o m apos) [e] [] cpos)).map sExpr
    | .Expr e _ => grd (notComp e) ((cX M G N n false sc e).map sExpr)
    | _ => none)
section
variable {X : Cx} {c : Ct} {M : MI} {G : Tbl} {N own : List Str} {W : WX} {sc : Scope} {P : Program} {w : World} {mg : Str → Option Value} {base : Heap} {k : Nat}
theorem cBlk_ok {f : Stmt → Option Ss} (hf : ∀ s g, f s = some g → PS X s (denS c W g)) : ∀ {ss : List Stmt} {g : Ss}, cBlk f ss = some g → PSs X ss (denS c W g)
  | [], _, h => by cases h; exact PSs.weak pss_nil fun D σ H h => nil_of h
  | [s], g, h => pss_one (hf s g h)
  | s :: t :: r, g, h => by
    simp only [cBlk, Option.bind_eq_some_iff, Option.map_eq_some_iff] at h
    obtain ⟨fs, h1, fr, h2, rfl⟩ := h
    exact PSs.weak (pss_cons (hf s fs h1) (cBlk_ok hf h2)) fun D σ H h => seq_of h
theorem loc_ok (C : Cx1 X c M G N W sc) (hfn : ∀ x, X.fn x = true) {x : Str} (h : locN sc true x = true) : Loc X.env.scope x ∧ (X.fn x = true ∨ X.env.scope.names.lookup x = some .local) := by
  unfold locN at h
  simp only [Bool.or_eq_true, Bool.and_eq_true, decide_eq_true_eq] at h
  rw [C.sc]
  rcases h with h | ⟨_, h⟩
  · exact ⟨.inl h, .inr h⟩
  · exact ⟨.inr h, .inl (hfn x)⟩
/-- what a suite's expressions want -/
structure Hx (X : Cx) (c : Ct) (N : List Str) (sc : Scope) : Prop where
  hK : X.K = c.K
  nd : X.N.Nodup
  hu : X.A.units + 65 < cLine
  N : X.N = N
  sc : X.env.scope = sc
  fn : ∀ x, X.fn x = true
theorem hvis {X : Cx} {c : Ct} {N : List Str} {sc : Scope} (C : Hx X c N sc) {x : Str} (h : vis sc x = true) : Vis X.env.scope x := by
  rw [C.sc]
  unfold vis at h
  unfold Vis
  split at h <;> simp_all
theorem cHE_ok {W : WX} (C : Hx X c N sc) : ∀ (n : Nat) (e : Expr) (f : Sm), cHE N sc n e = some f → PE X e (den c W f)
  | 0, _, _, h => by cases h
  | n + 1, e, f, h => by
    unfold cHE at h
    split at h
    · cases h; exact pe_den_c pe_int fun _ _ => .int _
    · cases h; exact pe_den_c pe_bl fun _ _ => .bl _
    · cases h; exact pe_den_c pe_non fun _ _ => .non
    · cases h; exact pe_den_c pe_str fun _ _ => .str _
    · have h0 := (grd_some h).1
      replace h := (grd_some h).2
      rw [Bool.and_eq_true] at h0
      rw [Option.map_eq_some_iff] at h
      obtain ⟨i, h1, rfl⟩ := h
      exact pe_den_var (by rw [C.N]; exact ixOf_some h1) (hvis C h0.2) (okN_ok h0.1).1 (okN_ok h0.1).2
    · have h0 := (grd_some h).1
      replace h := (grd_some h).2
      rw [Option.map_eq_some_iff] at h
      obtain ⟨fa, h1, rfl⟩ := h
      exact pe_den_fld C.hK (cHE_ok C n _ fa h1) h0
    · cases h
theorem cHT_ok {W : WX} (C : Hx X c N sc) {e : Expr} {f : Sm} (h : cHT N sc e = some f) : PT X e (denT c W f) := by
  unfold cHT at h
  split at h
  · have h0 := (grd_some h).1
    replace h := (grd_some h).2
    rw [Option.bind_eq_some_iff] at h
    obtain ⟨fa, h1, h⟩ := h
    rw [Option.map_eq_some_iff] at h
    obtain ⟨fb, h2, rfl⟩ := h
    rename_i op _ _
    obtain ⟨r, ho, ok⟩ := cmp_ok (X := X) C.hK C.hu op
    exact PT.weak (pt_cmpR ho (cHE_ok (W := W) C 5 _ fa h1) (cHE_ok C 5 _ fb h2) (by simpa using h0)) fun σ H Q h => op2_of (cmpOk_op ok) h
  · cases h
theorem cHS_ok {W : WX} (C : Hx X c N sc) : ∀ (n : Nat) (s : Stmt) (f : Ss), cHS N own sc n s = some f → PS X s (denS c W f)
  | 0, _, _, h => by cases h
  | n + 1, s, f, h => by
    have IH := cHS_ok (W := W) C n
    unfold cHS at h
    split at h
    · rw [Option.map_eq_some_iff] at h
      obtain ⟨fe, h2, rfl⟩ := h
      exact PS.weak (ps_ret (cHE_ok C 5 _ fe h2)) fun D σ H h => ret_of h
    · have h0 := (grd_some h).1
      replace h := (grd_some h).2
      rw [Bool.and_eq_true] at h0
      rw [Option.bind_eq_some_iff] at h
      obtain ⟨i, h1, h⟩ := h
      rw [Option.map_eq_some_iff] at h
      obtain ⟨fe, h2, rfl⟩ := h
      have l : ∀ {x : Str}, locN sc true x = true → Loc X.env.scope x ∧ (X.fn x = true ∨ X.env.scope.names.lookup x = some .local) := fun {x} h => by
        unfold locN at h
        simp only [Bool.or_eq_true, Bool.and_eq_true, decide_eq_true_eq] at h
        rw [C.sc]
        rcases h with h | ⟨_, h⟩
        · exact ⟨.inl h, .inr h⟩
        · exact ⟨.inr h, .inl (C.fn x)⟩
      exact PS.weak (ps_set C.nd (by rw [C.N]; exact ixOf_some h1) (l h0.1).1 (cHE_ok C 5 _ fe h2) (swaps_no h0.2) (l h0.1).2) fun D σ H h => asg_of h
    · rw [Option.bind_eq_some_iff] at h
      obtain ⟨ft, h0, h⟩ := h
      rw [Option.bind_eq_some_iff] at h
      obtain ⟨fa, h1, h⟩ := h
      rw [Option.map_eq_some_iff] at h
      obtain ⟨fb, h2, rfl⟩ := h
      exact PS.weak (ps_if (cHT_ok C h0) (cBlk_ok IH h1) (cBlk_ok IH h2)) fun D σ H h => if_of h
    · cases h
      exact PS.weak ps_pass fun D σ H h => nil_of h
    · cases h
structure Fr1 (X : Cx) (c : Ct) (M : MI) : Prop where
  ll : c.L = M.lams
  lam : ∀ ld ∈ M.lams, ld.qual = M.lq → M.lq = X.env.qual ++ "<lambda>" ∧ ∃ cc P, LamX.TabB X.base X.mg cc P ∧ X.env.code = .ref cc ∧ (P, M.lq) ∈ c.T ∧ ∀ p ∈ c.T, p.1 = P → p.2 = M.lq
  fn : ∀ x, X.fn x = true
  po : PassesOwn (model X.prog X.w) X.A X.env X.xe
  stk : X.stack = X.env :: X.outer
  frm : X.env.frame = some X.env.locals
theorem js_ok (hN : X.N = N) : ∀ {ys : List Str} {js : List Nat}, optAll (fun y => ixOf y N) ys = some js → js.map (fun j => X.N[j]?) = ys.map some
  | [], _, h => by cases h; rfl
  | y :: ys, js, h => by
    simp only [optAll, Option.bind_eq_some_iff, Option.map_eq_some_iff] at h
    obtain ⟨j, h1, js', h2, rfl⟩ := h
    rw [List.map_cons, List.map_cons, js_ok hN h2, hN, ixOf_some h1]
theorem cV_ok (C : Cx1 X c M G N W sc) (hF : Fr1 X c M) {n : Nat} {e : Expr} {f : Sm} (h : cV M G N n sc e = some f) : PE X e (den c W f) := by
  unfold cV at h
  split at h
  · have h0 := (grd_some h).1
    replace h := (grd_some h).2
    simp only [Bool.and_eq_true, decide_eq_true_eq] at h0
    obtain ⟨⟨⟨g1, g2⟩, g3⟩, g4⟩ := h0
    rw [Option.bind_eq_some_iff] at h
    obtain ⟨⟨t, ld⟩, h1, h⟩ := h
    rw [Option.bind_eq_some_iff] at h
    obtain ⟨js, h2, h⟩ := h
    rw [Option.map_eq_some_iff] at h
    obtain ⟨fa, h3, rfl⟩ := h
    obtain ⟨_, k2, k3⟩ := findLam_ok h1
    unfold eqLam at k3
    simp only [Bool.and_eq_true, decide_eq_true_eq] at k3
    obtain ⟨⟨⟨⟨⟨⟨q1, q2⟩, q3⟩, q4⟩, q5⟩, q6⟩, q7⟩ := k3
    rw [Nat.sub_zero] at k2
    obtain ⟨m1, cc, P, m2, m3, m4, m5⟩ := hF.lam ld (List.mem_of_getElem? k2) q1
    obtain ⟨k, fg, fd, ps, A⟩ := C.env.fn _ 2 g4
    refine pe_den_callL C.ok A (ld := ld) (cc := cc) (P := P) ⟨by rw [hF.ll]; exact k2, by rw [q1, m1], eqArgs_ok q2, eqE_ok 6 _ _ q4, q5, m2, m3, by rw [q1]; exact m4, by rw [q1]; exact m5, fun y hy ey => ?_, fun y hy => ?_, js_ok C.N h2, dfl_plain q3 _⟩ hF.fn (glb_ok C g1) (cX_ok n false sc _ fa h3 X W C) g3 (okN_ok g2).1
    · have z := List.all_eq_true.mp q6 y hy
      rw [ey] at z
      simp only [decide_true, Bool.not_true, Bool.false_or, Bool.and_eq_true, Bool.or_eq_true, decide_eq_true_eq] at z
      rw [C.sc]
      exact ⟨by simpa using z.1, z.2⟩
    · have z := List.all_eq_true.mp q7 y hy
      simpa using z
  · exact cX_ok n false sc _ f h X W C
theorem cHd_ok (C : Cx1 X c M G N W sc) (hF : Fr1 X c M) {hds : List ExceptHandler} {xs : List Str} {fs : Ss} (h : cHd M N own sc hds = some (xs, fs)) :
    ∃ h0 cl, hds = [h0] ∧ (∀ e ∈ xs, PySem.W.exmOne X.K (c.xc e) cl = some true) ∧ L2N.HdsOk X [h0] [(cl, fun _ _ _ => denS c W0 fs)] := by
  unfold cHd at h
  split at h
  · have h0 := (grd_some h).1
    replace h := (grd_some h).2
    rw [Bool.and_eq_true] at h0
    rw [Option.bind_eq_some_iff] at h
    obtain ⟨xs', h1, h⟩ := h
    rw [Option.map_eq_some_iff] at h
    obtain ⟨fs', h2, e⟩ := h
    cases e
    obtain ⟨cl, e1, e2⟩ := C.env.cat _ _ h1
    refine ⟨_, cl, rfl, e2, .cons ⟨glb_ok C h0.1, (okN_ok h0.2).1, .inl e1⟩ (fun a oe cls d pn _ _ => ?_) .nil⟩
    have H : Hx (X.suite a ((a, oe) :: pn)) c N sc := ⟨C.ok.hK, C.ok.nd, C.ok.hu, C.N, C.sc, hF.fn⟩
    exact cBlk_ok (cHS_ok H 5) h2
  · cases h
theorem cS_ok : ∀ (n : Nat) {X : Cx} {W : WX}, Cx1 X c M G N W sc → Fr1 X c M → ∀ (s : Stmt) (f : Ss), cS M G N own n sc s = some f → PS X s (denS c W f)
  | 0, _, _, _, _, _, _, h => by cases h
  | n + 1, X, W, C, hF, s, f, h => by
    have hfn := hF.fn
    have hpo := hF.po
    have IH := cS_ok n C hF
    have E : ∀ e g, cX M G N n false sc e = some g → PE X e (den c W g) := fun e g q => cX_ok n false sc e g q X W C
    have T : ∀ e g, cX M G N n true sc e = some g → PT X e (denT c W g) := fun e g q => cX_ok n true sc e g q X W C
    have V : ∀ e g, cV M G N n sc e = some g → PE X e (den c W g) := fun e g q => cV_ok C hF q
    unfold cS at h
    split at h
    · rename_i x p elt gen scope lp sp
      have h0 := (grd_some h).1
      replace h := (grd_some h).2
      obtain ⟨l1, l2⟩ := loc_ok C hfn h0
      rw [Option.bind_eq_some_iff] at h
      obtain ⟨i, h1, h⟩ := h
      rw [Option.bind_eq_some_iff] at h
      obtain ⟨fe, h2, h⟩ := h
      have hix : X.N[i]? = some x := by rw [C.N]; exact ixOf_some h1
      split at h
      · rename_i hloc
        have h3 := (grd_some h).1
        replace h := (grd_some h).2
        cases h
        simp only [Bool.and_eq_true, Bool.not_eq_true'] at h3
        obtain ⟨⟨k1, k2⟩, k3⟩ := h3
        cases n with
        | zero => cases h2
        | succ m =>
          have E' : ∀ e g, cX M G N m false sc e = some g → PE X e (den c W g) := fun e g q => cX_ok m false sc e g q X W C
          have h2' : (cCompW N sc (cX M G N m true) (cX M G N m false) (cI (cX M G N m false sc) sc iOne true gen.target gen.iter) elt gen scope).bind (fun f2 =>
            if lkIter gen.iter then (cX M G N m false sc gen.iter).bind fun fa => (cCompW N sc (cX M G N m true) (cX M G N m false) (some (iLk fa)) elt gen scope).map fun f1 => eLk fa f1 f2 else some f2) = some fe := h2
          rw [Option.bind_eq_some_iff] at h2'
          obtain ⟨f2, q2, h2'⟩ := h2'
          obtain ⟨fi0, hci⟩ := cCompW_fi q2
          have hset := cI_set hci
          obtain ⟨tg, fi, fc, fe', tt, rfl, eg, Pc⟩ := comp_inv (cX_ok m) C (fun fi q => cI_s C E' q) hset q2
          have sw : ∀ {it : Expr} {ifs : List Expr} {tg : Expr}, swapsWith (.ListComp elt [⟨tg, it, ifs, 0⟩] scope lp) (some (.Name x p)) sp.line X.env = pure true := sw_true (by rw [C.sc]; exact of_decide_eq_true k1) (by rw [C.sc]; exact hloc) k2 k3
          split at h2'
          · rw [Option.bind_eq_some_iff] at h2'
            obtain ⟨fa, q3, h2'⟩ := h2'
            rw [Option.map_eq_some_iff] at h2'
            obtain ⟨f1, q1, rfl⟩ := h2'
            obtain ⟨tg', fi', fc', fe'', tt', rfl, _, Pc'⟩ := comp_inv (cX_ok m) C (fun fi q => by cases q; exact pi_lk C.ok.hK (E' _ fa q3)) hset q1
            rw [eg]
            refine PS.weak (PS.or (ps_lock (Pc'.ps C.ok hix (by rw [C.sc]; exact hloc) sw)) (PS.or (Pc'.ps C.ok hix (by rw [C.sc]; exact hloc) sw) (Pc.ps C.ok hix (by rw [C.sc]; exact hloc) sw))) fun D σ H h => ?_
            rcases lk_of (asg_of h) with q | q | q
            · obtain ⟨d, u, a1, a2, a3⟩ := q
              exact .inl ⟨d, u, a1, a2, a3⟩
            · exact .inr (.inl q)
            · exact .inr (.inr q)
          · cases h2'
            rw [eg]
            exact PS.weak (Pc.ps C.ok hix (by rw [C.sc]; exact hloc) sw) fun D σ H h => asg_of h
      · rename_i hloc
        cases h
        refine PS.weak (ps_set C.ok.nd hix l1 (E _ fe h2) ?_ l2) fun D σ H h => asg_of h
        have e : X.env.kindOf x ≠ some .local := by show X.env.scope.names.lookup x ≠ _; rw [C.sc]; exact hloc
        have e' : (X.env.kindOf x == some NameKind.local) = false := by simpa using e
        unfold swapsWith
        simp only [e', Bool.and_false, Bool.false_and]
    · rename_i x p e sp _
      have h0 := (grd_some h).1
      replace h := (grd_some h).2
      rw [Bool.and_eq_true] at h0
      obtain ⟨l1, l2⟩ := loc_ok C hfn h0.1
      rw [Option.bind_eq_some_iff] at h
      obtain ⟨i, h1, h⟩ := h
      rw [Option.map_eq_some_iff] at h
      obtain ⟨fe, h2, rfl⟩ := h
      split
      · exact PS.weak (ps_set C.ok.nd (by rw [C.N]; exact ixOf_some h1) l1 (V _ fe h2) (swaps_no h0.2) l2) fun D σ H h => lay_of h
      · exact PS.weak (ps_set C.ok.nd (by rw [C.N]; exact ixOf_some h1) l1 (V _ fe h2) (swaps_no h0.2) l2) fun D σ H h => asg_of h
    · rename_i x px y py kt pt a b k2 p2 sp
      by_cases hpc : parC sc [x, y] = true
      · rw [if_pos hpc] at h
        have h0 := (grd_some h).1
        replace h := (grd_some h).2
        simp only [Bool.and_eq_true] at h0
        rw [Option.bind_eq_some_iff] at h
        obtain ⟨is, h1, h⟩ := h
        rw [Option.map_eq_some_iff] at h
        obtain ⟨fs, h3, rfl⟩ := h
        obtain ⟨g1, g2, g3⟩ := cNms_ok C.ok.nd C.N C.sc (fun _ => hfn) h1
        exact PS.weak (ps_asg (pe_tup (pa_allH E h3 (by simp [h0.1, h0.2]))) (pg_tup C.ok.calm g1 g2 g3) (sole_no rfl) (stores_c2 C.sc hpc)) fun D σ H h => parT_of C.ok.hK (fewer (by rw [optAll_len h3]; simp)) h
      rw [if_neg hpc] at h
      have h0 := (grd_some h).1
      replace h := (grd_some h).2
      rw [Option.bind_eq_some_iff] at h
      obtain ⟨i, h1, h⟩ := h
      rw [Option.bind_eq_some_iff] at h
      obtain ⟨j, h2, h⟩ := h
      rw [Option.map_eq_some_iff] at h
      obtain ⟨fs, h3, rfl⟩ := h
      have hw := par2_ok (env := X.env) (pt := pt) (p2 := p2) (kt := kt) (k2 := k2) C.sc h0
      unfold par2 at h0
      simp only [Bool.and_eq_true, decide_eq_true_eq, Bool.not_eq_true'] at h0
      obtain ⟨⟨⟨⟨⟨⟨⟨⟨q1, q2⟩, q3⟩, q4⟩, q5⟩, q6⟩, q7⟩, q8⟩, q9⟩ := h0
      have hi : X.N[i]? = some x := by rw [C.N]; exact ixOf_some h1
      have hj : X.N[j]? = some y := by rw [C.N]; exact ixOf_some h2
      refine PS.weak (ps_par C.ok.calm C.ok.nd hi hj (fun z => ?_) (by rw [C.sc]; exact q2) (by rw [C.sc]; exact q3) (pa_allH E h3 (by simp [q6, q7])) hw (sole_no rfl)) fun D σ H h => par2_of h
      subst z
      rw [hi] at hj
      exact q5 (Option.some.inj hj)
    · rename_i x px y py z pz kt pt a b e k2 p2 sp
      by_cases hpc : parC sc [x, y, z] = true
      · rw [if_pos hpc] at h
        have h0 := (grd_some h).1
        replace h := (grd_some h).2
        simp only [Bool.and_eq_true] at h0
        rw [Option.bind_eq_some_iff] at h
        obtain ⟨is, h1, h⟩ := h
        rw [Option.map_eq_some_iff] at h
        obtain ⟨fs, h3, rfl⟩ := h
        obtain ⟨g1, g2, g3⟩ := cNms_ok C.ok.nd C.N C.sc (fun _ => hfn) h1
        exact PS.weak (ps_asg (pe_tup (pa_allH E h3 (by simp [h0.1.1, h0.1.2, h0.2]))) (pg_tup C.ok.calm g1 g2 g3) (sole_no rfl) (stores_c3 C.sc hpc)) fun D σ H h => parT_of C.ok.hK (fewer (by rw [optAll_len h3]; simp)) h
      rw [if_neg hpc] at h
      have h0 := (grd_some h).1
      replace h := (grd_some h).2
      rw [Option.bind_eq_some_iff] at h
      obtain ⟨i, h1, h⟩ := h
      rw [Option.bind_eq_some_iff] at h
      obtain ⟨j, h2, h⟩ := h
      rw [Option.bind_eq_some_iff] at h
      obtain ⟨l, h2', h⟩ := h
      rw [Option.map_eq_some_iff] at h
      obtain ⟨fs, h3, rfl⟩ := h
      have hw := par3_ok (env := X.env) (pt := pt) (p2 := p2) (kt := kt) (k2 := k2) C.sc h0
      unfold par3 at h0
      simp only [Bool.and_eq_true, decide_eq_true_eq, Bool.not_eq_true'] at h0
      obtain ⟨⟨⟨⟨⟨⟨⟨⟨⟨⟨⟨⟨⟨q1, q2⟩, q3⟩, q3'⟩, q4⟩, q4'⟩, q5⟩, q5'⟩, q5''⟩, q6⟩, q7⟩, q7'⟩, q8⟩, q9⟩ := h0
      have hi : X.N[i]? = some x := by rw [C.N]; exact ixOf_some h1
      have hj : X.N[j]? = some y := by rw [C.N]; exact ixOf_some h2
      have hl : X.N[l]? = some z := by rw [C.N]; exact ixOf_some h2'
      refine PS.weak (ps_par3 C.ok.calm C.ok.nd hi hj hl (fun u => ?_) (fun u => ?_) (fun u => ?_) (by rw [C.sc]; exact q2) (by rw [C.sc]; exact q3) (by rw [C.sc]; exact q3') (pa_allH E h3 (by simp [q6, q7, q7'])) hw (sole_no rfl)) fun D σ H h => par3_of h
      · subst u; rw [hi] at hj; exact q5 (Option.some.inj hj)
      · subst u; rw [hi] at hl; exact q5' (Option.some.inj hl)
      · subst u; rw [hj] at hl; exact q5'' (Option.some.inj hl)
    · have h0 := (grd_some h).1
      replace h := (grd_some h).2
      simp only [Bool.and_eq_true] at h0
      rw [Option.bind_eq_some_iff] at h
      obtain ⟨fo1, h1, h⟩ := h
      rw [Option.bind_eq_some_iff] at h
      obtain ⟨fk1, h2, h⟩ := h
      rw [Option.bind_eq_some_iff] at h
      obtain ⟨fo2, h3, h⟩ := h
      rw [Option.bind_eq_some_iff] at h
      obtain ⟨fk2, h4, h⟩ := h
      rw [Option.map_eq_some_iff] at h
      obtain ⟨fe, h5, rfl⟩ := h
      exact ps_den_put2 C.ok.hK C.ok.calm C.ok.hu (E _ fo1 h1) (E _ fk1 h2) (E _ fo2 h3) (E _ fk2 h4) (E _ fe h5) h0.1.2 h0.2 (sole_no h0.1.1)
    · rename_i es kk p e sp _ _
      have h0 := (grd_some h).1
      replace h := (grd_some h).2
      simp only [Bool.and_eq_true, Bool.not_eq_true'] at h0
      rw [Option.bind_eq_some_iff] at h
      obtain ⟨is, h1, h⟩ := h
      rw [Option.map_eq_some_iff] at h
      obtain ⟨fe, h2, rfl⟩ := h
      obtain ⟨g1, g2, g3⟩ := cNms_ok C.ok.nd C.N C.sc (fun _ => hfn) h1
      exact PS.weak (ps_asg (E _ fe h2) (pg_tup C.ok.calm g1 g2 g3) (sole_no h0.1) (stores_no h0.2)) fun D σ H h => unp_of C.ok.hK h
    · rw [Option.map_eq_some_iff] at h
      obtain ⟨fe, h2, rfl⟩ := h
      exact PS.weak (ps_ret (E _ fe h2)) fun D σ H h => ret_of h
    · cases h
      exact PS.weak ps_retN fun D σ H h => retN_of h
    · rw [Option.bind_eq_some_iff] at h
      obtain ⟨ft, h0, h⟩ := h
      rw [Option.bind_eq_some_iff] at h
      obtain ⟨fa, h1, h⟩ := h
      rw [Option.map_eq_some_iff] at h
      obtain ⟨fb, h2, rfl⟩ := h
      exact PS.weak (ps_if (T _ ft h0) (cBlk_ok IH h1) (cBlk_ok IH h2)) fun D σ H h => if_of h
    · rw [Option.bind_eq_some_iff] at h
      obtain ⟨t, h0, h⟩ := h
      rw [Option.bind_eq_some_iff] at h
      obtain ⟨fi, h1, h⟩ := h
      rw [Option.bind_eq_some_iff] at h
      obtain ⟨fb, h2, h⟩ := h
      rename_i fpos
      have P2 := PS.weak (ps_for (pos := fpos) hpo C.ok.calm (cI_p C E h1) (cTg_ok C.ok.nd C.N C.sc C.ok.calm (fun _ => hfn) h0) (cBlk_ok IH h2) (fold_ok (cI_set h1))) fun D σ H (h : denS c W (sFor t fi fb) D σ H) => for_of (gOf_ok C.ok.hK t) h
      split at h
      · rw [Option.map_eq_some_iff] at h
        obtain ⟨fa, h3, rfl⟩ := h
        have P1 := PS.weak (ps_for (pos := fpos) hpo C.ok.calm (pi_lkP C.ok.hK (E _ fa h3)) (cTg_ok C.ok.nd C.N C.sc C.ok.calm (fun _ => hfn) h0) (cBlk_ok IH h2) (fold_ok (cI_set h1))) fun D σ H (h : denS c W (sFor t (iLk fa) fb) D σ H) => for_of (gOf_ok C.ok.hK t) h
        exact PS.weak (PS.or (ps_lock P1) P2) fun D σ H h => forL_of h
      · cases h
        exact P2
    · rw [Option.bind_eq_some_iff] at h
      obtain ⟨ft, h0, h⟩ := h
      rw [Option.map_eq_some_iff] at h
      obtain ⟨fb, h1, rfl⟩ := h
      exact PS.weak (ps_while hpo (T _ ft h0) (cBlk_ok IH h1)) fun D σ H h => while_of 400 h
    · have h0 := (grd_some h).1
      replace h := (grd_some h).2
      rw [Option.bind_eq_some_iff] at h
      obtain ⟨fo, h1, h⟩ := h
      rw [Option.map_eq_some_iff] at h
      obtain ⟨fe, h2, rfl⟩ := h
      exact PS.weak (ps_fld (E _ fo h1) (E _ fe h2) (swaps_no h0)) fun D σ H h => fldS_of C.ok.hK C.env.fl h
    · have h0 := (grd_some h).1
      replace h := (grd_some h).2
      rw [Option.bind_eq_some_iff] at h
      obtain ⟨fo, h1, h⟩ := h
      rw [Option.bind_eq_some_iff] at h
      obtain ⟨fb, h2, h⟩ := h
      rw [Option.map_eq_some_iff] at h
      obtain ⟨fe, h3, rfl⟩ := h
      exact ps_den_put C.ok.hu (E _ fo h1) (E _ fb h2) (V _ fe h3) (swaps_no h0)
    · have h0 := (grd_some h).1
      replace h := (grd_some h).2
      simp only [Bool.and_eq_true] at h0
      cases h
      obtain ⟨xa, A⟩ := C.env.xc _ (by simpa using h0.2)
      exact ps_den_raise C.ok A (glb_ok C h0.1.1) (okN_ok h0.1.2).1
    · have h0 := (grd_some h).1
      replace h := (grd_some h).2
      simp only [Bool.and_eq_true, decide_eq_true_eq] at h0
      obtain ⟨⟨⟨⟨⟨⟨q1, q2⟩, q3⟩, q4⟩, rfl⟩, rfl⟩, q7⟩ := h0
      rw [Option.bind_eq_some_iff] at h
      obtain ⟨xs, h1, h⟩ := h
      rw [Option.bind_eq_some_iff] at h
      obtain ⟨i, h2, h⟩ := h
      rw [Option.map_eq_some_iff] at h
      obtain ⟨fb, h3, rfl⟩ := h
      obtain ⟨cl, m1, m2⟩ := C.env.cat _ _ h1
      refine ps_tryX C.ok hF.stk hF.frm (by rw [C.N]; exact ixOf_some h2) (by rw [C.sc]; exact q3) (okN_ok q4).1 (okN_ok q4).2 (glb_ok C q1) (okN_ok q2).1 m1 m2 (glb_ok C q7) (by decide) C.env.wd fun W' pn xe tk po => ?_
      exact cBlk_ok (cS_ok n (X := X.tr pn xe) (W := W') ⟨⟨C.ok.hK, C.ok.nd, C.ok.calm, C.ok.hu, tk⟩, C.N, C.sc, C.env.to rfl rfl rfl rfl rfl rfl⟩ ⟨hF.ll, hF.lam, hF.fn, po, hF.stk, hF.frm⟩) h3
    · rw [Option.bind_eq_some_iff] at h
      obtain ⟨⟨xs, fs⟩, h0, h⟩ := h
      rw [Option.map_eq_some_iff] at h
      obtain ⟨fb, h1, rfl⟩ := h
      obtain ⟨hd0, cl, rfl, e2, hh⟩ := cHd_ok C hF h0
      refine PS.weak (L2N.ps_try_many (tb := fun W => denS c W fb) hF.stk hF.frm C.ok.tk (fun W' pn xe tk po => ?_) hh) fun D σ H h => try_of e2 h
      exact cBlk_ok (cS_ok n (X := X.tr pn xe) (W := W') ⟨⟨C.ok.hK, C.ok.nd, C.ok.calm, C.ok.hu, tk⟩, C.N, C.sc, C.env.to rfl rfl rfl rfl rfl rfl⟩ ⟨hF.ll, hF.lam, hF.fn, po, hF.stk, hF.frm⟩) h1
    · cases h
      exact PS.weak ps_pass fun D σ H h => nil_of h
    · cases h
      exact PS.weak ps_break fun D σ H h => brk_of h
    · split at h
      · have h0 := (grd_some h).1
        replace h := (grd_some h).2
        simp only [Bool.and_eq_true] at h0
        rw [Option.bind_eq_some_iff] at h
        obtain ⟨fo, h1, h⟩ := h
        rw [Option.bind_eq_some_iff] at h
        obtain ⟨fe, h2, h⟩ := h
        split at h
        · rename_i hm
          cases h
          subst hm
          exact ps_den_app (E _ fo h1) (E _ fe h2) h0.1.1 h0.1.2 h0.2
        · split at h
          · rename_i hm
            cases h
            subst hm
            exact ps_den_ext (E _ fo h1) (E _ fe h2) h0.1.1 h0.1.2 h0.2
          · cases h
      · rw [Option.map_eq_some_iff] at h
        obtain ⟨fe, h2, rfl⟩ := h
        exact PS.weak (ps_expr (E _ fe h2) (swaps_no rfl)) fun D σ H h => expr_of h
    · have h0 := (grd_some h).1
      replace h := (grd_some h).2
      rw [Option.map_eq_some_iff] at h
      obtain ⟨fe, h2, rfl⟩ := h
      exact PS.weak (ps_expr (E _ fe h2) (swaps_no h0)) fun D σ H h => expr_of h
    · cases h
end
end KL

namespace KL
open PySem L2

/-! ### the module's constants -/
inductive Kc where
  | str (z : Str) | int (i : Int) | tS (zs : List Str) | tI (is : List Int)
def Kc.d : Kc → D
  | .str z => .str z
  | .int i => .int i
  | .tS zs => .tup (zs.map .str)
  | .tI is => .tup (is.map .int)
def dlB (K : PySem.W.Frag) (a : Addr) : Bool := match K.lookup a with
  | some o => decide (o.dict = none)
  | none => false
def Kc.ok (K : PySem.W.Frag) (x : Str) : Kc → Bool
  | .str z => (He.Fa.str x z).ok K
  | .int i => (He.Fa.int x i).ok K
  | .tS zs => (He.Fa.glo x).ok K && He.tupB K x (zs.map .str) && dlB K (He.ga K x)
  | .tI is => (He.Fa.glo x).ok K && He.tupB K x (is.map .int) && dlB K (He.ga K x)
theorem KTup.of_sq {K : PySem.W.Frag} {a : Addr} {vs : List V} (h : ∀ H : Hp, SqT K H a vs) (hd : dlB K a = true) : KTup K a vs := by
  rcases h (fun _ => none) with h | h
  · rcases h with h | ⟨o, h⟩ <;> cases h
  · obtain ⟨o, its, n, e1, e2, e3⟩ := h
    unfold dlB at hd
    rw [e1] at hd
    exact ⟨o, its, n, e1, e2, of_decide_eq_true hd, e3⟩
theorem kc_ok {c : Ct} {h : Heap} {mg : Str → Option Value} (X : c.K.In h) (Gm : h.Ns mainGlobals mg) {x : Str} {k : Kc} (hk : k.ok c.K x = true) : ∃ v u, mg x = some u ∧ RelV v u ∧ ∀ F io, Rv c F io v k.d := by
  cases k with
  | str z =>
    obtain ⟨t, e⟩ := He.str_ok X Gm hk
    exact ⟨.str z, _, e, ⟨t, rfl⟩, fun _ _ => .str z⟩
  | int i =>
    obtain ⟨t, e⟩ := He.int_ok X Gm hk
    exact ⟨.int i, _, e, ⟨t, rfl⟩, fun _ _ => .int i⟩
  | tS zs =>
    have hk3 := Bool.and_eq_true_iff.mp hk
    have hk2 := hk
    have hk' := Bool.and_eq_true_iff.mp hk3.1
    refine ⟨.ref (He.ga c.K x), _, He.glo_ok X Gm hk'.1, rfl, fun F io => .tup (vs := zs.map .str) (.inr (KTup.of_sq (fun H => ?_) (Bool.and_eq_true_iff.mp hk2).2)) ?_⟩
    · have := He.tupB_ok hk'.2 H
      rw [List.map_map] at this
      exact this
    · clear hk hk' hk2 hk3
      induction zs with
      | nil => exact .nil
      | cons z zs ih => exact .cons (.str z) ih
  | tI is =>
    have hk3 := Bool.and_eq_true_iff.mp hk
    have hk2 := hk
    have hk' := Bool.and_eq_true_iff.mp hk3.1
    refine ⟨.ref (He.ga c.K x), _, He.glo_ok X Gm hk'.1, rfl, fun F io => .tup (vs := is.map .int) (.inr (KTup.of_sq (fun H => ?_) (Bool.and_eq_true_iff.mp hk2).2)) ?_⟩
    · have := He.tupB_ok hk'.2 H
      rw [List.map_map] at this
      exact this
    · clear hk hk' hk2 hk3
      induction is with
      | nil => exact .nil
      | cons z zs ih => exact .cons (.int z) ih
theorem cs_ok {c : Ct} {h : Heap} {mg : Str → Option Value} (X : c.K.In h) (Gm : h.Ns mainGlobals mg) {ks : List (Str × Kc)} (hk : (ks.all fun p => p.2.ok c.K p.1) = true) : ∀ x d, (ks.map fun p => (p.1, p.2.d)).lookup x = some d → ∃ v u, mg x = some u ∧ RelV v u ∧ ∀ F io, Rv c F io v d := by
  intro x d hx
  induction ks with
  | nil => cases hx
  | cons p ks ih =>
    rw [List.all_cons, Bool.and_eq_true] at hk
    rw [List.map_cons, List.lookup_cons] at hx
    by_cases e : x = p.1
    · have e' : (x == p.1) = true := by simpa using e
      rw [e'] at hx
      cases hx
      rw [e]
      exact kc_ok X Gm hk.1
    · have e' : (x == p.1) = false := by simpa using e
      rw [e'] at hx
      exact ih hk.2 hx

/-! ### the program's defs, by levels -/
/-- g: the name in the table (a method's: its qualified name) -/
structure Df where
  g : Str
  d : He.DefD
  ps : List Str
  N : List Str
  own : List Str
  clo : List Str
  sem : Tbl → Ss
  lay : List Str
/-- a lambda: its name in the table, the def in which it stands -/
structure Lm where
  g : Str
  ld : LamD
  by_ : He.Defn
  fe : Tbl → Sm
structure Tb where
  dfs : List Df
  lms : List Lm
def fnd (dfs : List Df) (g : Str) : Option Df := dfs.find? fun d => decide (d.g = g)
def fndL (lms : List Lm) (g : Str) : Option Lm := lms.find? fun d => decide (d.g = g)
def tbl (T : Tb) : Nat → Tbl
  | 0 => fun _ _ _ => .no
  | k + 1 => fun g ds st => match fnd T.dfs g with
    | some df => fnR df.N.length (df.sem (tbl T k)) ds st
    | none => (match fndL T.lms g with
      | some lm => fnR (lm.ld.ps ++ lm.ld.fr).length (sRet (lm.fe (tbl T k))) ds st
      | none => .no)
def Df.lq (d : Df) : Str := d.d.qual ++ ".<locals>." ++ "<lambda>"
structure DfOk (M : MI) (df : Df) : Prop where
  sc : FnScope df.N df.ps df.d.scope
  cmp : ∀ G, cBlk (cS { M with clo := df.clo, lq := df.lq, lay := df.lay } G df.N df.own 60 df.d.scope) df.d.body = some (df.sem G)
  bnd : ∀ (kV doc pm : Value) (an : Option Addr) (cdv ct : Value) (us : List Value), us.length = df.ps.length → bindArgs (PySem.W.fnOf df.d.name df.d.qual df.d.params df.d.body df.d.scope .none kV doc pm an cdv ct) ⟨us, []⟩ = pure (df.ps.zip us)
  dfl : df.d.dfl = []
  kwd : df.d.kwd = []
structure LmOk (M : MI) (lm : Lm) : Prop where
  sc : NdefX.NScope (lm.ld.ps ++ lm.ld.fr) lm.ld.ps lm.ld.fr lm.ld.scope
  cmp : ∀ G, cX M G (lm.ld.ps ++ lm.ld.fr) 60 false lm.ld.scope lm.ld.body = some (lm.fe G)
  bnd : ∀ (cl : List (Str × Addr)) (pm cv ctv : Value) (us : List Value), us.length = lm.ld.ps.length → bindArgs (PySem.W.kla_fn "<lambda>" lm.ld.qual lm.ld.params lm.ld.body lm.ld.scope cl pm cv ctv) ⟨us, []⟩ = pure (lm.ld.ps.zip us)
  one : lm.ld.ps.length = 1
/-- the program: its constants, defs, classes (that are made), fields, exceptions, clauses -/
structure Pg where
  ks : List (Str × Kc)
  tb : Tb
  cls : List Str
  mks : List (Str × (Str × Nat))
  fl : List (Str × Str)
  xs : List Str
  cat : List (Str × List Str)
  wd : Option (He.DefD × (Nat → Pos)) := none
abbrev Pg.dfs (p : Pg) : List Df := p.tb.dfs
abbrev Pg.lms (p : Pg) : List Lm := p.tb.lms
def Df.fn (d : Df) : Option (Str × Nat) := match d.d.at_.2 with
  | none => some (d.d.at_.1, d.ps.length)
  | some _ => none
def Df.mt (d : Df) : Option ((Str × Str) × Str) := match d.d.at_.2 with
  | none => none
  | some m => some ((d.d.at_.1, m), d.g)
def Pg.M (p : Pg) : MI where
  cs := p.ks.map fun q => (q.1, q.2.d)
  fs := p.dfs.filterMap Df.fn
  ml := p.dfs.filterMap Df.mt
  ar := p.dfs.map fun d => (d.g, d.ps.length)
  ma := p.mks
  fl := p.fl
  xs := p.xs
  cat := p.cat
  lams := p.lms.map (·.ld)
  ls := p.lms.map (·.g)
  ws := if p.wd.isSome then wNms.zip wWords else []
def Pg.ok (p : Pg) : Bool := decide ((p.dfs.map (·.g)).Nodup) && (p.dfs.all fun d => match d.d.at_.2 with
    | none => decide (d.g = d.d.at_.1)
    | some _ => p.cls.contains d.d.at_.1) && (p.mks.all fun q => p.cls.contains q.1 && p.dfs.any fun d => decide (d.d.at_.1 = q.1) && decide (d.d.at_.2 = some ("__init__" : Str)) && decide (d.g = q.2.1) && decide (d.ps.length = q.2.2)) && (p.cat.all fun q => q.2.all fun e => p.xs.contains e) && decide ((p.lms.map (·.g)).Nodup) && (p.lms.all fun lm => p.dfs.all fun d => !decide (d.g = lm.g)) && p.lms.all fun lm => p.dfs.all fun d => !decide (lm.ld.qual = d.lq) || (decide (lm.by_.1 = d.d.at_.1) && decide (lm.by_.2 = d.d.at_.2))
theorem fnd_mem {dfs : List Df} {g : Str} {df : Df} (h : fnd dfs g = some df) : df ∈ dfs ∧ df.g = g := ⟨List.mem_of_find?_eq_some h, by have := List.find?_some h; simpa using this⟩
theorem fnd_of {dfs : List Df} (hn : (dfs.map (·.g)).Nodup) {df : Df} (h : df ∈ dfs) : fnd dfs df.g = some df := by
  induction dfs with
  | nil => cases h
  | cons d ds ih =>
    rw [List.map_cons, List.nodup_cons] at hn
    unfold fnd
    rw [List.find?_cons]
    rcases List.mem_cons.mp h with h | h
    · subst h; simp
    · have ne : d.g ≠ df.g := fun z => hn.1 (by rw [z]; exact List.mem_map.mpr ⟨df, h, rfl⟩)
      simp only [ne, decide_false]
      exact ih hn.2 h
theorem Pg.nd {p : Pg} (h : p.ok = true) : (p.dfs.map (·.g)).Nodup := by
  unfold Pg.ok at h
  simp only [Bool.and_eq_true, decide_eq_true_eq] at h
  exact h.1.1.1.1.1.1
theorem Pg.at' {p : Pg} (h : p.ok = true) {d : Df} (hd : d ∈ p.dfs) : (d.d.at_.2 = none → d.g = d.d.at_.1) ∧ (∀ m, d.d.at_.2 = some m → d.d.at_.1 ∈ p.cls) := by
  unfold Pg.ok at h
  simp only [Bool.and_eq_true] at h
  have q := List.all_eq_true.mp h.1.1.1.1.1.2 d hd
  constructor
  · intro e
    rw [e] at q
    exact of_decide_eq_true q
  · intro m e
    rw [e] at q
    simpa using q
theorem Pg.mk' {p : Pg} (h : p.ok = true) {C g : Str} {n : Nat} (hm : (C, g, n) ∈ p.mks) : C ∈ p.cls ∧ ∃ d ∈ p.dfs, d.d.at_.1 = C ∧ d.d.at_.2 = some ("__init__" : Str) ∧ d.g = g ∧ d.ps.length = n := by
  unfold Pg.ok at h
  simp only [Bool.and_eq_true] at h
  have q := List.all_eq_true.mp h.1.1.1.1.2 _ hm
  simp only [Bool.and_eq_true, List.any_eq_true, decide_eq_true_eq] at q
  obtain ⟨q1, d, hd, ⟨⟨⟨q2, q2'⟩, q3⟩, q4⟩⟩ := q
  exact ⟨by simpa using q1, d, hd, q2, q2', q3, q4⟩
theorem Pg.cat' {p : Pg} (h : p.ok = true) {L : Str} {xs : List Str} (hm : (L, xs) ∈ p.cat) : ∀ e ∈ xs, e ∈ p.xs := by
  unfold Pg.ok at h
  simp only [Bool.and_eq_true] at h
  intro e he
  have q := List.all_eq_true.mp (List.all_eq_true.mp h.1.1.1.2 _ hm) e he
  simpa using q
theorem Pg.lm' {p : Pg} (h : p.ok = true) {lm : Lm} (hl : lm ∈ p.lms) : fnd p.dfs lm.g = none ∧ fndL p.lms lm.g = some lm ∧ ∀ d ∈ p.dfs, lm.ld.qual = d.lq → lm.by_ = d.d.at_ := by
  unfold Pg.ok at h
  simp only [Bool.and_eq_true, decide_eq_true_eq] at h
  refine ⟨?_, ?_, fun d hd e => ?_⟩
  · unfold fnd
    rw [List.find?_eq_none]
    intro d hd
    have q := List.all_eq_true.mp (List.all_eq_true.mp h.1.2 lm hl) d hd
    simpa using q
  · have nd := h.1.1.2
    clear h
    generalize p.lms = ls at hl nd
    induction ls with
    | nil => cases hl
    | cons d ds ih =>
      rw [List.map_cons, List.nodup_cons] at nd
      unfold fndL
      rw [List.find?_cons]
      rcases List.mem_cons.mp hl with z | z
      · subst z; simp
      · have ne : d.g ≠ lm.g := fun y => nd.1 (by rw [y]; exact List.mem_map.mpr ⟨lm, z, rfl⟩)
        simp only [ne, decide_false]
        exact ih z nd.2
  · have q := List.all_eq_true.mp (List.all_eq_true.mp h.2 lm hl) d hd
    simp only [e, decide_true, Bool.not_true, Bool.false_or, Bool.and_eq_true, decide_eq_true_eq] at q
    exact Prod.ext q.1 q.2
/-- what the text of the def of words must be -/
structure WDef (d : He.DefD) (q : Nat → Pos) : Prop where
  body : d.body = wBody q
  sc : FnScope ["kept", "kinds"] ["kept"] d.scope
  nm : d.scope.names.lookup ("kept" : Str) = some .local ∧ d.scope.names.lookup ("kinds" : Str) = some .local
  gl : ∀ x ∈ (["isinstance", "ValueError", "NoAsk", "Ring", "NoKept", "NoText"] : List Str), d.scope.names.lookup x = some .globalImplicit
  ln : ((q 25).endLine == (q 27).line) = true ∧ ((q 45).endLine == (q 47).line) = true
  bnd : ∀ (kV doc pm : Value) (an : Option Addr) (cdv ct : Value) (us : List Value), us.length = 1 → bindArgs (PySem.W.fnOf d.name d.qual d.params d.body d.scope .none kV doc pm an cdv ct) ⟨us, []⟩ = pure ((["kept"] : List Str).zip us)
  dfl : d.dfl = []
  kwd : d.kwd = []
  at_ : d.at_ = (("_law_word" : Str), none)
def excB (K : PySem.W.Frag) (D : Addr) : Bool := decide (PySem.W.findIn K (.ref D) "__getattribute__" = some (some (.builtin "BaseException.__getattribute__"))) && decide (PySem.W.findIn K (.ref D) "__getattr__" = some none) && decide (PySem.W.subIn K (.ref D) (.type "BaseException") = some true) && PySem.W.hasDictIn K D && decide (PySem.W.findIn K (.ref D) "__class__" = some (some (.builtin "object.__class__")))
  && decide (PySem.W.specialIn K (.builtin "object.__class__") "__get__" = some (some (.builtin "getset_descriptor.__get__"))) && decide (PySem.W.takesIn K (.builtin "object.__class__") = some true) && decide (PySem.W.mroIn K D (.type "object") = some true)
theorem excB_ok {K : PySem.W.Frag} {D : Addr} (h : excB K D = true) : ExcC K D := by
  unfold excB at h
  simp only [Bool.and_eq_true, decide_eq_true_eq] at h
  obtain ⟨⟨⟨⟨⟨⟨⟨h1, h2⟩, h3⟩, h4⟩, h5⟩, h6⟩, h7⟩, h8⟩ := h
  exact ⟨h1, h2, h3, h4, h5, h6, h7, h8⟩
def wordsB (K : PySem.W.Frag) : Bool := (List.range 4).all fun j => excB K (He.ga K (wNms.getD j Str.empty)) && decide (PySem.W.kitOne K (.ref (He.ga K (wNms.getD j Str.empty))) (.type "ValueError") = some true) && (List.range 4).all fun i => decide (PySem.W.kitOne K (.ref (He.ga K (wNms.getD j Str.empty))) (.ref (He.ga K (wNms.getD i Str.empty))) = some (decide (i = j)))
/-- what the program's top has left -/
structure Top (c : Ct) (mg : Str → Option Value) (p : Pg) : Prop where
  fn : ∀ df ∈ p.dfs, ∃ fd, FunD c.K df.d.name df.d.qual df.d.params df.d.body df.d.scope [] [] (He.fAd c.K df.d.at_) fd
  glo : ∀ df ∈ p.dfs, df.d.at_.2 = none → mg df.d.at_.1 = some (.ref (He.ga c.K df.d.at_.1))
  me : ∀ df ∈ p.dfs, ∀ m, df.d.at_.2 = some m → Meth c.K (He.ga c.K df.d.at_.1) m (He.ma c.K (He.ga c.K df.d.at_.1) m)
  ca : ∀ C ∈ p.cls, c.ca C = He.ga c.K C
  cl : ∀ C ∈ p.cls, Cls c.K (He.ga c.K C)
  mkr : ∀ q ∈ p.mks, Mk c.K (He.ga c.K q.1) (He.ma c.K (He.ga c.K q.1) "__init__") ∧ mg q.1 = some (.ref (He.ga c.K q.1))
  fl : ∀ C f, (C, f) ∈ p.fl → NoAttr c.K (c.ca C) f
  xc : ∀ e ∈ p.xs, ∃ C, c.xc e = .ref C ∧ PySem.W.excIn c.K C He.veBase "ValueError.__new__" = true ∧ mg e = some (.ref C) ∧ PySem.W.keepIn c.K (.ref C) = true ∧ PySem.W.subIn c.K (.ref C) (.type "BaseException") = some true ∧ PySem.W.typeIn c.K (.ref C) = some (.type "type")
  cat : ∀ q ∈ p.cat, ∃ cl, mg q.1 = some cl ∧ ∀ e ∈ q.2, PySem.W.exmOne c.K (c.xc e) cl = some true
  cL : c.L = p.lms.map (·.ld)
  cT : c.T = p.lms.map fun lm => ((He.cT c.K lm.by_).2, lm.ld.qual)
  ctn : (p.lms.map fun lm => (He.cT c.K lm.by_).2).Nodup
  free : ∀ x ∈ bnames, mg x = none
  cst : ∀ x d, p.M.cs.lookup x = some d → ∃ v u, mg x = some u ∧ RelV v u ∧ ∀ F io, Rv c F io v d
  wd : ∀ d q, p.wd = some (d, q) → (∃ fd, FunD c.K d.name d.qual d.params d.body d.scope [] [] (He.ga c.K "_law_word") fd) ∧ mg "_law_word" = some (.ref (He.ga c.K "_law_word")) ∧ mg "ValueError" = none ∧ (∀ x ∈ wNms, mg x = some (.ref (He.ga c.K x)) ∧ c.xc x = .ref (He.ga c.K x)) ∧ wordsB c.K = true
theorem wd_at {P : Program} {w : World} {c : Ct} {mg : Str → Option Value} {base : Heap} {p : Pg} (T : Top c mg p) (hwd : ∀ d q, p.wd = some (d, q) → WDef d q) {X : Cx} (hprog : X.prog = P) (hw : X.w = w) (hmg : X.mg = mg) (hbase : X.base = base) (hK : X.K = c.K) (hroom : L2H.RoomH 1 X.A) (free : ∀ x ∈ bnames, X.mg x = none) {e wd : Str} (h : p.M.ws.lookup e = some wd) : ∃ f fd D, WdAt X c "_law_word" e wd f fd D := by
  have h : (if p.wd.isSome then wNms.zip wWords else []).lookup e = some wd := h
  cases hd : p.wd with
  | none => rw [hd] at h; cases h
  | some dq =>
    obtain ⟨d, q⟩ := dq
    rw [hd] at h
    have h : (wNms.zip wWords).lookup e = some wd := h
    have D := hwd d q hd
    obtain ⟨⟨fd, F⟩, t1, t2, t3, t4⟩ := T.wd d q hd
    obtain ⟨j, hj, e1, e2⟩ : ∃ j, j < 4 ∧ wNms.getD j Str.empty = e ∧ wWords[j]? = some wd := by
      have hm := mem_of_look h
      have : ∀ p ∈ wNms.zip wWords, ∃ j, j < 4 ∧ wNms.getD j Str.empty = p.1 ∧ wWords[j]? = some p.2 := by
        intro p hp
        simp only [wNms, wWords, List.zip_cons_cons, List.zip_nil_right, List.mem_cons, List.not_mem_nil, or_false] at hp
        rcases hp with rfl | rfl | rfl | rfl
        · exact ⟨0, by decide, rfl, rfl⟩
        · exact ⟨1, by decide, rfl, rfl⟩
        · exact ⟨2, by decide, rfl, rfl⟩
        · exact ⟨3, by decide, rfl, rfl⟩
      exact this _ hm
    have he : e ∈ wNms := by
      have : j = 0 ∨ j = 1 ∨ j = 2 ∨ j = 3 := by omega
      rcases this with z | z | z | z <;> subst z <;> (rw [← e1]; decide)
    unfold wordsB at t4
    have t5 := List.all_eq_true.mp t4 j (List.mem_range.mpr hj)
    rw [e1] at t5
    simp only [Bool.and_eq_true, decide_eq_true_eq] at t5
    obtain ⟨⟨t5, t6⟩, t7⟩ := t5
    refine ⟨He.ga c.K "_law_word", fd, He.ga c.K e, ?_, hroom, (t3 e he).2, by rw [hmg]; exact t1, by rw [hK]; exact F.kp, by rw [hK]; exact F.bindsN (ps := ["kept"]) D.bnd⟩
    have F' := F
    rw [D.body] at F'
    rw [hprog, hw, hK, hmg, hbase]
    refine w_of (k := 0) (cl := He.ga c.K) (j := j) F' D.sc (excB_ok t5) D.ln.1 D.ln.2 e2 fun X' n1 n2 n3 n4 => ?_
    have gl : ∀ x, x ∈ (["isinstance", "ValueError", "NoAsk", "Ring", "NoKept", "NoText"] : List Str) → Gl X' x := fun x hx => by
      show X'.env.scope.names.lookup x = _
      rw [n2]
      exact D.gl x hx
    refine ⟨n1, by rw [n2]; exact D.nm.1, by rw [n2]; exact D.nm.2, gl _ (by decide), gl _ (by decide), fun x hx => gl x ?_, ?_, by rw [n3]; exact t2, fun x hx => by rw [n3]; exact (t3 x hx).1, fun i x hx => ?_, by rw [n4]; exact t6, hj⟩
    · have : ∀ x ∈ wNms, x ∈ (["isinstance", "ValueError", "NoAsk", "Ring", "NoKept", "NoText"] : List Str) := by decide
      exact this x hx
    · rw [n3, ← hmg]
      exact free _ (by decide +kernel)
    · have hi : i < 4 := (List.getElem?_eq_some_iff.mp hx).1
      have z := List.all_eq_true.mp t7 i (List.mem_range.mpr hi)
      rw [List.getD_eq_getElem?_getD, hx] at z
      rw [n4]
      simpa using z
theorem FnOk.up {P : Program} {w : World} {K : PySem.W.Frag} {mg : Str → Option Value} {base : Heap} {CX : CXT} {j k : Nat} {f : Addr} {fd : FuncData} {ps : List Str} {sp : Sp} (h : FnOk P w K mg base CX j f fd ps sp) (hj : j ≤ k) : FnOk P w K mg base CX k f fd ps sp :=
  ⟨h.len, fun A outer s H args us vs Q E hr => h.run A outer s H args us vs Q E (hr.mono hj)⟩
/-- what a body's context knows, the calls being right at the table's level k -/
theorem env1_of {P : Program} {w : World} {c : Ct} {mg : Str → Option Value} {base : Heap} {p : Pg} (hp : p.ok = true) (hwd : ∀ d q, p.wd = some (d, q) → WDef d q) (ok : ∀ df ∈ p.dfs, DfOk p.M df) (okl : ∀ lm ∈ p.lms, LmOk p.M lm) (T : Top c mg p) {k : Nat}
    (IH : ∀ (df : Df), df ∈ p.dfs → ∀ fd, FunD c.K df.d.name df.d.qual df.d.params df.d.body df.d.scope [] [] (He.fAd c.K df.d.at_) fd → FnOk P w c.K mg base (L2N.CX P w) (2 * k) (He.fAd c.K df.d.at_) fd df.ps (spM c df.ps.length (tbl p.tb k df.g)))
    (IL : ∀ lm ∈ p.lms, LamOk P w c mg base (2 * k) lm.ld (tbl p.tb k lm.g)) {X : Cx} {clo lay : List Str} {lq : Str} (hprog : X.prog = P) (hw : X.w = w) (hmg : X.mg = mg) (hbase : X.base = base) (hK : X.K = c.K) (hroom : Room (2 * k + 1) X.A) : Env1 X c { p.M with clo := clo, lq := lq, lay := lay } (tbl p.tb k) := by
  have room : Room (2 * k) X.A := hroom.mono (Nat.le_succ _)
  refine ⟨fun x hx => ?_, fun x d hx => ?_, fun g n hg => ?_, fun C m g n h1 h2 => ?_, fun C g n h => ?_, T.fl, fun e he => ?_, ⟨fun t ld h => ?_⟩, fun L xs h => ?_, fun e w' h => wd_at T hwd hprog hw hmg hbase hK ⟨by have := hroom.dp; omega, by have := hroom.un; omega⟩ (by rw [hmg]; exact T.free) h⟩
  · rw [hmg]; exact T.free x hx
  · rw [hmg]; exact T.cst x d hx
  · obtain ⟨df2, m2, hz⟩ := List.mem_filterMap.mp (mem_of_look hg)
    unfold Df.fn at hz
    split at hz
    · rename_i h2
      cases hz
      obtain ⟨fd2, F2⟩ := T.fn df2 m2
      have ok2 := IH df2 m2 fd2 F2
      have e3 : He.fAd c.K df2.d.at_ = He.ga c.K df2.d.at_.1 := by unfold He.fAd; rw [h2]
      rw [e3] at F2 ok2
      rw [(Pg.at' hp m2).1 h2] at ok2
      refine ⟨2 * k, _, fd2, df2.ps, ⟨?_, room, by rw [hmg]; exact T.glo df2 m2 h2, by rw [hK]; exact F2.kp, by rw [hK]; exact F2.bindsN (ok df2 m2).bnd⟩⟩
      rw [hprog, hw, hK, hmg, hbase]
      exact ok2
    · cases hz
  · obtain ⟨df2, m2, hz⟩ := List.mem_filterMap.mp (mem_of_look h1)
    unfold Df.mt at hz
    split at hz
    · cases hz
    · rename_i mm h3
      cases hz
      obtain ⟨fd2, F2⟩ := T.fn df2 m2
      have ok2 := IH df2 m2 fd2 F2
      have e3 : He.fAd c.K df2.d.at_ = He.ma c.K (He.ga c.K df2.d.at_.1) m := by unfold He.fAd; rw [h3]
      rw [e3] at F2 ok2
      obtain ⟨df3, m3, e4⟩ := List.mem_map.mp (mem_of_look h2)
      have e5 : df3 = df2 := by
        have z := fnd_of (Pg.nd hp) m3
        have z2 := fnd_of (Pg.nd hp) m2
        rw [(Prod.mk.inj e4).1, z2] at z
        exact (Option.some.inj z).symm
      subst e5
      have e6 : df3.ps.length = n := (Prod.mk.inj e4).2
      subst e6
      have hc : df3.d.at_.1 ∈ p.cls := (Pg.at' hp m2).2 _ h3
      refine ⟨2 * k, _, fd2, df3.ps, ⟨?_, room, by rw [hK, T.ca _ hc]; exact T.me df3 m2 _ h3, by rw [hK]; exact F2.bindsN (ok df3 m2).bnd⟩⟩
      rw [hprog, hw, hK, hmg, hbase]
      exact ok2
  · have hq := mem_of_look h
    obtain ⟨hc, df2, m2, e1, e1', rfl, rfl⟩ := Pg.mk' hp hq
    obtain ⟨fd2, F2⟩ := T.fn df2 m2
    have ok2 := IH df2 m2 fd2 F2
    have e3 : He.fAd c.K df2.d.at_ = He.ma c.K (He.ga c.K C) "__init__" := by unfold He.fAd; rw [e1', e1]
    rw [e3] at F2 ok2
    have mk := T.mkr _ hq
    refine ⟨2 * k, _, fd2, df2.ps, ⟨?_, hroom, by rw [hK, T.ca _ hc]; exact mk.1, by rw [hK]; exact F2.bindsN (ok df2 m2).bnd, by rw [T.ca _ hc]; exact T.cl _ hc, by rw [hmg, T.ca _ hc]; exact mk.2⟩⟩
    rw [hprog, hw, hK, hmg, hbase]
    exact ok2
  · obtain ⟨C, q1, q2, q3, q4, q5, q6⟩ := T.xc e he
    refine ⟨C, ⟨q1, ?_, ?_, ?_, ?_, ?_⟩⟩ <;> first | rw [hK] | rw [hmg]
    · exact q2
    · exact q3
    · exact q4
    · exact q5
    · exact q6
  · rw [T.cL, List.getElem?_map, Option.map_eq_some_iff] at h
    obtain ⟨lm, h1, rfl⟩ := h
    have hm := List.mem_of_getElem? h1
    refine ⟨(okl lm hm).one, lm.g, 2 * k, ?_, ?_, room⟩
    · show (p.lms.map (·.g))[t]? = _
      rw [List.getElem?_map, h1]
      rfl
    · rw [hprog, hw, hmg, hbase]
      exact IL lm hm
  · obtain ⟨cl, q1, q2⟩ := T.cat _ (mem_of_look h)
    rw [hK, hmg]
    exact ⟨cl, q1, q2⟩
theorem code_of {K : PySem.W.Frag} {x qual : Str} {params : Arguments} {body : List Stmt} {scope : Scope} {at_ : Str × Option Str} {fd : FuncData} (F : FunD K x qual params body scope [] [] (He.fAd K at_) fd) : fd.code = .ref (He.codeOf K at_) := by
  obtain ⟨oc, od, dV, kV, doc, pm, an, cdv, ct, osl, efd, lk, hcd, _, _⟩ := F.ex
  have e : fd.code = cdv := by rw [efd]
  cases cdv with
  | ref a => rw [He.codeOf_eq lk e]; exact e
  | _ => unfold PySem.W.codeIn at hcd; cases hcd
theorem levels {P : Program} {w : World} {c : Ct} {mg : Str → Option Value} {base : Heap} {p : Pg} (hp : p.ok = true) (hwd : ∀ d q, p.wd = some (d, q) → WDef d q) (ok : ∀ df ∈ p.dfs, DfOk p.M df) (okl : ∀ lm ∈ p.lms, LmOk p.M lm) (T : Top c mg p) (HT : ∀ lm ∈ p.lms, LamX.TabB base mg (He.cT c.K lm.by_).1 (He.cT c.K lm.by_).2) (k : Nat) :
    (∀ (df : Df), df ∈ p.dfs → ∀ fd, FunD c.K df.d.name df.d.qual df.d.params df.d.body df.d.scope [] [] (He.fAd c.K df.d.at_) fd → FnOk P w c.K mg base (L2N.CX P w) (2 * k) (He.fAd c.K df.d.at_) fd df.ps (spM c df.ps.length (tbl p.tb k df.g))) ∧
    ∀ lm ∈ p.lms, LamOk P w c mg base (2 * k) lm.ld (tbl p.tb k lm.g) := by
  induction k with
  | zero =>
    refine ⟨fun df h fd F => ⟨fun vs H Q E q => q.1, fun A outer s H args us vs Q E _ _ _ _ q => ?_⟩, fun lm hl => ⟨fun A outer s H f c' cl pm ctv us vs ws Q E _ _ _ _ _ _ _ q => ?_⟩⟩
    · obtain ⟨_, _, _, _, _, _, _, _, _, _, z⟩ := q
      exact z.elim
    · obtain ⟨_, _, _, _, _, _, _, _, _, _, z⟩ := q
      exact z.elim
  | succ k ih =>
    obtain ⟨IH, IL⟩ := ih
    refine ⟨fun df m fd F => ?_, fun lm hl => ?_⟩
    · have O := ok df m
      have e : tbl p.tb (k + 1) df.g = fnR df.N.length (df.sem (tbl p.tb k)) := by
        funext ds st
        show (match fnd p.dfs df.g with
          | some df => fnR df.N.length (df.sem (tbl p.tb k)) ds st
          | none => _) = _
        rw [fnd_of (Pg.nd hp) m]
      rw [e]
      refine fn_den (k := 2 * k + 1) F O.sc fun X W B => ?_
      have C : Cx1 X c { p.M with clo := df.clo, lq := df.lq, lay := df.lay } (tbl p.tb k) df.N W df.d.scope := ⟨B.ok, B.N, B.sc, env1_of hp hwd ok okl T IH IL B.prog B.w B.mg B.base B.ok.hK B.room⟩
      refine cBlk_ok (cS_ok 60 C ⟨T.cL, fun ld hld hq => ?_, B.fn, B.po, B.stk, B.frm⟩) (O.cmp _)
      obtain ⟨lm, hl, rfl⟩ := List.mem_map.mp hld
      have hby := (Pg.lm' hp hl).2.2 df m hq
      refine ⟨by rw [B.qual]; rfl, (He.cT c.K lm.by_).1, (He.cT c.K lm.by_).2, ?_, ?_, ?_, fun q hq2 eq => ?_⟩
      · rw [B.base, B.mg]; exact HT lm hl
      · rw [B.code, code_of F, hby]; rfl
      · rw [T.cT]; exact List.mem_map.mpr ⟨lm, hl, by rw [hq]⟩
      · rw [T.cT] at hq2
        obtain ⟨lm2, hl2, rfl⟩ := List.mem_map.mp hq2
        have : lm2 = lm := by
          obtain ⟨i, hi, ei⟩ := List.mem_iff_getElem.mp hl2
          obtain ⟨j, hj, ej⟩ := List.mem_iff_getElem.mp hl
          have z := (List.getElem_inj (xs := p.lms.map fun lm => (He.cT c.K lm.by_).2) (i := i) (j := j) (h₀ := by simpa using hi) (h₁ := by simpa using hj) T.ctn).mp (by rw [List.getElem_map, List.getElem_map, ei, ej]; exact eq)
          subst z
          rw [← ei, ej]
        rw [this]
        exact hq
    · obtain ⟨n1, n2, _⟩ := Pg.lm' hp hl
      have O := okl lm hl
      have e : tbl p.tb (k + 1) lm.g = fnR (lm.ld.ps ++ lm.ld.fr).length (sRet (lm.fe (tbl p.tb k))) := by
        funext ds st
        show (match fnd p.dfs lm.g with
          | some df => fnR df.N.length (df.sem (tbl p.tb k)) ds st
          | none => (match fndL p.lms lm.g with
            | some lm => fnR (lm.ld.ps ++ lm.ld.fr).length (sRet (lm.fe (tbl p.tb k))) ds st
            | none => .no)) = _
        rw [n1, n2]
      rw [e]
      refine lam_den (k := 2 * k + 1) O.sc O.bnd fun X W B => ?_
      have C : Cx1 X c { p.M with clo := [], lq := Str.empty, lay := [] } (tbl p.tb k) (lm.ld.ps ++ lm.ld.fr) W lm.ld.scope := ⟨B.ok, B.N, B.sc, env1_of hp hwd ok okl T IH IL B.prog B.w B.mg B.base B.ok.hK B.room⟩
      exact cX_ok 60 false _ _ _ (O.cmp _) X W C

/-! ### a law's row -/
def faOf (p : Pg) : List He.Fa := (p.dfs.filterMap fun d => match d.d.at_.2 with
    | none => some (.glo d.d.at_.1)
    | some m => some (.meth d.d.at_.1 m)) ++ bnames.map .free ++ p.cls.map .cls ++ p.mks.map (fun q => .mkr q.1) ++ p.mks.map (fun q => .glo q.1) ++ p.fl.map (fun q => .noat q.1 q.2) ++ p.xs.map .exc ++ p.xs.map .glo ++ p.cat.map (fun q => .glo q.1) ++ p.cat.flatMap fun q => q.2.map fun e => .exm e q.1 true
def exOf (p : Pg) (K : PySem.W.Frag) : Bool := ((p.ks.all fun p => p.2.ok K p.1) && decide ((p.lms.map fun lm => (He.cT K lm.by_).2).Nodup)) && (match p.wd with
  | none => true
  | some _ => wordsB K)
def faOf2 (p : Pg) : List He.Fa := faOf p ++ (match p.wd with
  | none => []
  | some _ => .glo "_law_word" :: .free "ValueError" :: wNms.map .glo)
def defsOf (p : Pg) : List He.DefD := p.dfs.map (·.d) ++ (match p.wd with
  | none => []
  | some dq => [dq.1])
abbrev hkOf (p : Pg) : PySem.W.Hook := He.hookX 4 (faOf2 p) (defsOf p) [] (p.lms.map (·.by_)) (exOf p)
abbrev ctOf (p : Pg) (K : PySem.W.Frag) : Ct := ⟨K, He.ga K, fun e => .ref (He.ga K e), p.lms.map fun lm => ((He.cT K lm.by_).2, lm.ld.qual), p.lms.map (·.ld)⟩
theorem top_of {K : PySem.W.Frag} {w : World} {h : Heap} {mg : Str → Option Value} {p : Pg} (X : K.In h) (Gm : h.Ns mainGlobals mg) (s : He.SaysX (faOf2 p) (defsOf p) [] (p.lms.map (·.by_)) (exOf p) w h K) (ok : ∀ df ∈ p.dfs, DfOk p.M df) (hwd : ∀ d q, p.wd = some (d, q) → WDef d q) :
    Top (ctOf p K) mg p := by
  have fa2 : ∀ {f : He.Fa}, f ∈ faOf2 p → f.ok K = true := fun hf => s.t.d.facts hf
  have fa : ∀ {f : He.Fa}, f ∈ faOf p → f.ok K = true := fun hf => fa2 (List.mem_append_left _ hf)
  unfold faOf at fa
  simp only [List.mem_append] at fa
  refine ⟨fun df hd => ?_, fun df hd e => ?_, fun df hd m e => ?_, fun _ _ => rfl, fun C hC => ?_, fun q hq => ?_, fun C f hq => ?_, fun e he => ?_, fun q hq => ?_, rfl, rfl, of_decide_eq_true (Bool.and_eq_true_iff.mp (Bool.and_eq_true_iff.mp s.more).1).2, fun x hx => ?_, cs_ok (c := ctOf p K) X Gm (Bool.and_eq_true_iff.mp (Bool.and_eq_true_iff.mp s.more).1).1, fun d q hd => ?_⟩
  · have O := ok df hd
    obtain ⟨fd, F⟩ := s.t.d.defs (d := df.d) (List.mem_append_left _ (List.mem_map.mpr ⟨df, hd, rfl⟩))
    have e1 : df.d.dvs K = [] := by unfold He.DefD.dvs; rw [O.dfl]; rfl
    have e2 : df.d.kws K = [] := by unfold He.DefD.kws; rw [O.kwd]; rfl
    rw [e1, e2] at F
    exact ⟨fd, F⟩
  · exact He.glo_ok X Gm (fa (f := .glo df.d.at_.1) (.inl (.inl (.inl (.inl (.inl (.inl (.inl (.inl (.inl (List.mem_filterMap.mpr ⟨df, hd, by rw [e]⟩)))))))))))
  · exact He.meth_ok (fa (f := .meth df.d.at_.1 m) (.inl (.inl (.inl (.inl (.inl (.inl (.inl (.inl (.inl (List.mem_filterMap.mpr ⟨df, hd, by rw [e]⟩)))))))))))
  · exact He.cls_ok (fa (f := .cls C) (.inl (.inl (.inl (.inl (.inl (.inl (.inl (.inr (List.mem_map.mpr ⟨C, hC, rfl⟩))))))))))
  · exact ⟨He.mkr_ok (fa (f := .mkr q.1) (.inl (.inl (.inl (.inl (.inl (.inl (.inr (List.mem_map.mpr ⟨q, hq, rfl⟩))))))))), He.glo_ok X Gm (fa (f := .glo q.1) (.inl (.inl (.inl (.inl (.inl (.inr (List.mem_map.mpr ⟨q, hq, rfl⟩))))))))⟩
  · exact He.noat_ok (fa (f := .noat C f) (.inl (.inl (.inl (.inl (.inr (List.mem_map.mpr ⟨(C, f), hq, rfl⟩)))))))
  · obtain ⟨q1, q2, q3, q4⟩ := He.exc_ok (fa (f := .exc e) (.inl (.inl (.inl (.inr (List.mem_map.mpr ⟨e, he, rfl⟩))))))
    exact ⟨He.ga K e, rfl, q1, He.glo_ok X Gm (fa (f := .glo e) (.inl (.inl (.inr (List.mem_map.mpr ⟨e, he, rfl⟩))))), q2, q3, q4⟩
  · exact ⟨_, He.glo_ok X Gm (fa (f := .glo q.1) (.inl (.inr (List.mem_map.mpr ⟨q, hq, rfl⟩)))), fun e he => He.exm_ok (fa (f := .exm e q.1 true) (.inr (List.mem_flatMap.mpr ⟨q, hq, List.mem_map.mpr ⟨e, he, rfl⟩⟩)))⟩
  · exact He.free_ok X Gm (fa (f := .free x) (.inl (.inl (.inl (.inl (.inl (.inl (.inl (.inl (.inr (List.mem_map.mpr ⟨x, hx, rfl⟩)))))))))))
  · have O := hwd d q hd
    have w2 : ∀ {f : He.Fa}, f ∈ (He.Fa.glo "_law_word" :: He.Fa.free "ValueError" :: wNms.map He.Fa.glo) → f.ok K = true := fun {f} hf => fa2 (List.mem_append_right _ (by rw [hd]; exact hf))
    obtain ⟨fd, F⟩ := s.t.d.defs (d := d) (List.mem_append_right _ (by rw [hd]; exact List.mem_singleton.mpr rfl))
    have e1 : d.dvs K = [] := by unfold He.DefD.dvs; rw [O.dfl]; rfl
    have e2 : d.kws K = [] := by unfold He.DefD.kws; rw [O.kwd]; rfl
    have e3 : He.fAd K d.at_ = He.ga K "_law_word" := by rw [O.at_]; rfl
    rw [e1, e2, e3] at F
    refine ⟨⟨fd, F⟩, He.glo_ok X Gm (w2 List.mem_cons_self), He.free_ok X Gm (w2 (List.mem_cons_of_mem _ List.mem_cons_self)), fun x hx => ⟨He.glo_ok X Gm (w2 (List.mem_cons_of_mem _ (List.mem_cons_of_mem _ (List.mem_map.mpr ⟨x, hx, rfl⟩)))), rfl⟩, ?_⟩
    have z := (Bool.and_eq_true_iff.mp s.more).2
    rw [hd] at z
    exact z
/-- the walk of a row: all by the functions on data -/
theorem walk_row {l : PySem.W.OpenLaw} {q : Program} {loose : List Str} {XP : (Str → Option Value) → Heap → Prop} {d : DefRec} {p : Pg} {k : Nat} {dl : Df} {x : Str}
    (hn : l.most = some 63) (hdf : d.params.defaults = []) (hr : Room (2 * k) callerA) (hname : d.name = "law") (hp : p.ok = true) (hwd : ∀ d q, p.wd = some (d, q) → WDef d q) (ok : ∀ df ∈ p.dfs, DfOk p.M df) (okl : ∀ lm ∈ p.lms, LmOk p.M lm) (hl : fnd p.dfs "law" = some dl) (hla : dl.d.at_.1 = "law") (hla2 : dl.d.at_.2 = none) (hps : dl.ps = [x])
    (law : ∀ ns : List Int, ns.length ≤ 63 → ∃ st, tbl p.tb k "law" [.scr ns] [] = .ok (.bl true) st) :
    PySem.W.WalkO q loose XP (hkOf p).says l.row.toRowW d [] (fun f vs => PySem.call f vs) := by
  refine LamX.walk_ofTsE (k := 2 * k) (x := x) (CX := fun w => L2N.CX l.prog w) hn (by decide) hdf hr (fun w mg fa h Y Gm hmg => ?_) fun w H s e s' z => ?_
  · obtain ⟨K, KX, Sx⟩ := Y
    have T : Top (ctOf p K) mg p := top_of KX Gm Sx ok hwd
    obtain ⟨m, en⟩ := fnd_mem hl
    obtain ⟨fd, F⟩ := T.fn dl m
    have hm0 := T.glo dl m hla2
    have e3 : He.fAd (ctOf p K).K dl.d.at_ = He.ga K dl.d.at_.1 := by unfold He.fAd; rw [hla2]
    rw [e3] at F
    have ef : He.ga K dl.d.at_.1 = fa := by
      rw [hla] at hm0 ⊢
      rw [← hname, hmg] at hm0
      rw [← hname]
      exact (Value.ref.inj (Option.some.inj hm0)).symm
    rw [ef] at F e3
    have hps1 : dl.ps.length = 1 := by rw [hps]; rfl
    refine ⟨K, KX, fd, p.lms.map fun lm => He.cT K lm.by_, spM (ctOf p K) 1 (tbl p.tb k "law"), fun q hq => ?_, fun q hq => ?_, fun q hq => ?_, fun s v => ?_, fun H a ns hlen _ hH hS => ?_, fun base hb1 hb2 hb3 => ?_⟩
    · obtain ⟨lm, hm, rfl⟩ := List.mem_map.mp hq
      exact Sx.empty lm.by_ (List.mem_map.mpr ⟨lm, hm, rfl⟩)
    · obtain ⟨lm, hm, rfl⟩ := List.mem_map.mp hq
      exact Sx.out lm.by_ (List.mem_map.mpr ⟨lm, hm, rfl⟩)
    · obtain ⟨lm, hm, rfl⟩ := List.mem_map.mp hq
      exact PySem.W.codeHd_of_K KX (Sx.hd lm.by_ (List.mem_map.mpr ⟨lm, hm, rfl⟩))
    · have q := F.bindsA (ok dl m).bnd s [v] (by rw [hps]; rfl)
      rw [hps] at q
      exact q
    · obtain ⟨st, e⟩ := law ns hlen
      refine ⟨rfl, fun a => (match H a with
        | some (.tbl _) => none
        | o => o), [], [], [.scr ns], fun a o q => ?_, (fun q hq => ?_), (fun a ps e => ?_), ⟨rfl, List.nodup_nil, fun n a o q => by cases q⟩, .cons (RvA.of (.scr ?_)) .nil, ?_⟩
      · simp only at q
        split at q
        · cases q
        · exact q
      · obtain ⟨lm, hm, rfl⟩ := List.mem_map.mp hq
        exact LamX.TabS.nil (hH (He.cT K lm.by_) (List.mem_map.mpr ⟨lm, hm, rfl⟩))
      · simp only at e
        split at e
        · cases e
        · rename_i h1
          exact h1 ps e
      · rcases hS with h | h
        · refine .inl ⟨?_, by simp⟩
          rcases h with h | ⟨o, h⟩
          · exact .inl (by simp only [h])
          · exact .inr ⟨o, by simp only [h]⟩
        · exact .inr h
      · rw [e]
        intro v H' F' io' S s' r
        cases r
        rfl
    · have q := (levels (P := l.prog) (w := w) (base := base) hp hwd ok okl T (fun lm hm => hb3 _ (List.mem_map.mpr ⟨lm, hm, rfl⟩)) k).1 dl m fd (by rw [e3]; exact F)
      rw [hps1, hps, e3, en] at q
      exact q
  · obtain ⟨_, _, _, _, _, _, _, _, _, _, _, _, q⟩ := z
    exact q
end KL

namespace KL
open PySem L2

/-! ### running the functions on data: rules for simp -/
section
variable {α β : Type} {st st' : Sto} {rh : Rho} {d e : D}
@[simp] theorem R.bind_ok (a : α) (st : Sto) (k : α → Sto → R β) : (R.ok a st).bind k = k a st := rfl
@[simp] theorem R.bind_ex (c : Str) (st : Sto) (k : α → Sto → R β) : (R.ex c st : R α).bind k = .ex c st := rfl
@[simp] theorem R.bind_no (k : α → Sto → R β) : (R.no : R α).bind k = .no := rfl
theorem R.bind_ite (c : Prop) [Decidable c] (r1 r2 : R α) (k : α → Sto → R β) : (if c then r1 else r2).bind k = if c then r1.bind k else r2.bind k := by split <;> rfl
def onB (t : TV) (k : Bool → R TV) : R TV := match t with
  | .d (.bl b) => k b
  | _ => .no
@[simp] theorem onB_bl (b : Bool) (k : Bool → R TV) : onB (.d (.bl b)) k = k b := rfl
theorem onB_ite (c : Prop) [Decidable c] (t u : TV) (k : Bool → R TV) : onB (if c then t else u) k = if c then onB t k else onB u k := by split <;> rfl
def onR (r : R TV) (rh : Rho) (k : TV → Sto → RS) : RS := match r with
  | .ok t st1 => k t st1
  | .ex e st1 => .ex e rh st1
  | .no => .no
@[simp] theorem onR_ok (t : TV) (st : Sto) (rh : Rho) (k : TV → Sto → RS) : onR (.ok t st) rh k = k t st := rfl
@[simp] theorem onR_ex (c : Str) (st : Sto) (rh : Rho) (k : TV → Sto → RS) : onR (.ex c st) rh k = .ex c rh st := rfl
theorem onR_ite (c : Prop) [Decidable c] (r1 r2 : R TV) (rh : Rho) (k : TV → Sto → RS) : onR (if c then r1 else r2) rh k = if c then onR r1 rh k else onR r2 rh k := by split <;> rfl
def onT (t : TV) (k : Bool → RS) : RS := match t with
  | .d (.bl b) => k b
  | _ => .no
@[simp] theorem onT_bl (b : Bool) (k : Bool → RS) : onT (.d (.bl b)) k = k b := rfl
def onN (r : RS) (k : Ss) : RS := match r with
  | .nx rh' st' => k rh' st'
  | r => r
@[simp] theorem onN_nx (rh : Rho) (st : Sto) (k : Ss) : onN (.nx rh st) k = k rh st := rfl
@[simp] theorem onN_rt (d : D) (st : Sto) (k : Ss) : onN (.rt d st) k = .rt d st := rfl
@[simp] theorem onN_bk (rh : Rho) (st : Sto) (k : Ss) : onN (.bk rh st) k = .bk rh st := rfl
@[simp] theorem onN_ex (c : Str) (rh : Rho) (st : Sto) (k : Ss) : onN (.ex c rh st) k = .ex c rh st := rfl
theorem onN_ite (c : Prop) [Decidable c] (r1 r2 : RS) (k : Ss) : onN (if c then r1 else r2) k = if c then onN r1 k else onN r2 k := by split <;> rfl
theorem fin_ite (c : Prop) [Decidable c] (r1 r2 : RS) (n : Nat) : fin n (if c then r1 else r2) = if c then fin n r1 else fin n r2 := by split <;> rfl
@[simp] theorem oR_some (a : α) : oR (some a) st = .ok a st := rfl
@[simp] theorem oR_none : (oR none st : R α) = .no := rfl
@[simp] theorem eC_ev : eC d rh st = .ok (.d d) st := rfl
@[simp] theorem eArgs_nil : eArgs [] rh st = .ok [] st := rfl
@[simp] theorem eArgs_cons (f : Sm) (fs : List Sm) : eArgs (f :: fs) rh st = (f rh st).bind fun t st1 => match toDv t with
    | none => .no
    | some d => (eArgs fs rh st1).bind fun ds st2 => .ok (d :: ds) st2 := rfl
@[simp] theorem eArgsC_nil : eArgsC [] rh st = .ok [] st := rfl
@[simp] theorem eArgsC_e (f : Sm) (fs : List Ag) : eArgsC (.e f :: fs) rh st = (f rh st).bind fun t st1 => match toDv t with
    | none => .no
    | some d => (eArgsC fs rh st1).bind fun ds st2 => .ok (d :: ds) st2 := rfl
@[simp] theorem eArgsC_k (i : Nat) (fs : List Ag) : eArgsC (.k i :: fs) rh st = match cloAt rh i with
    | none => .no
    | some d => (eArgsC fs rh st).bind fun ds st2 => .ok (d :: ds) st2 := rfl
@[simp] theorem toDv_d : toDv (.d d) = some d := rfl
@[simp] theorem toDv_fr (ds : List D) : toDv (.fr ds) = some (.lst ds) := rfl
@[simp] theorem toDv_o (i : Nat) : toDv (.o i) = none := rfl
@[simp] theorem eTup_ev (fs : List Sm) : eTup fs rh st = (eArgs fs rh st).bind fun ds st1 => .ok (.d (.tup ds)) st1 := rfl
@[simp] theorem eLst_ev (fs : List Sm) : eLst fs rh st = (eArgs fs rh st).bind fun ds st1 => .ok (.fr ds) st1 := rfl
@[simp] theorem eVar_ev (i : Nat) : eVar i rh st = (match rh[i]? with
  | some (some (.val d)) => .ok (.d d) st
  | some (some (.own _)) => .ok (.o i) st
  | _ => .no) := rfl
@[simp] theorem eOp2_ev (f : Sto → D → D → Option TV) (fa fb : Sm) : eOp2 f fa fb rh st = (fa rh st).bind fun t1 st1 => (fb rh st1).bind fun t2 st2 =>
  match view rh st2 t1, view rh st2 t2 with
  | some d, some e => (match f st2 d e with
    | some t => .ok t st2
    | none => .no)
  | _, _ => .no := rfl
@[simp] theorem eBin_ev (op : Operator) (fa fb : Sm) : eBin op fa fb rh st = eOp2 (fun _ => binD op) fa fb rh st := rfl
@[simp] theorem eCmp_ev (op : CmpOp) (fa fb : Sm) : eCmp op fa fb rh st = eOp2 (fun st d e => bV (cmpD st op d e)) fa fb rh st := rfl
@[simp] theorem eIdx_ev (fa fb : Sm) : eIdx fa fb rh st = eOp2 (fun st d e => dV (idxD st d e)) fa fb rh st := rfl
@[simp] theorem eCmp2_ev (op op' : CmpOp) (fa fb fc : Sm) : eCmp2 op op' fa fb fc rh st = (fa rh st).bind fun t1 st1 => (fb rh st1).bind fun t2 st2 =>
  match view rh st2 t1, view rh st2 t2 with
  | some d, some e => (match cmpD st2 op d e with
    | some b => if b then (fc rh st2).bind fun t3 st3 => (match view rh st3 t2, view rh st3 t3 with
      | some e', some f' => (match cmpD st3 op' e' f' with
        | some b => .ok (.d (.bl b)) st3
        | none => .no)
      | _, _ => .no) else .ok (.d (.bl false)) st2
    | none => .no)
  | _, _ => .no := by
  unfold eCmp2
  congr 1
  funext t1 st1
  congr 1
  funext t2 st2
  cases view rh st2 t1 with
  | none => rfl
  | some d =>
    cases view rh st2 t2 with
    | none => rfl
    | some e =>
      simp only
      cases cmpD st2 op d e with
      | none => rfl
      | some b => cases b <;> rfl
@[simp] theorem eOp1_ev (f : Sto → D → Option TV) (fa : Sm) : eOp1 f fa rh st = (fa rh st).bind fun t1 st1 =>
  match view rh st1 t1 with
  | some d => (match f st1 d with
    | some t => .ok t st1
    | none => .no)
  | none => .no := rfl
@[simp] theorem eTru_ev (fa : Sm) : eTru fa rh st = eOp1 (fun st d => bV (truD st d)) fa rh st := rfl
@[simp] theorem eNot_ev (fa : Sm) : eNot fa rh st = eOp1 (fun _ d => bV (notD d)) fa rh st := rfl
@[simp] theorem eNeg_ev (fa : Sm) : eNeg fa rh st = eOp1 (fun _ d => dV (negD d)) fa rh st := rfl
@[simp] theorem eB1_ev (b : Bi) (fa : Sm) : eB1 b fa rh st = eOp1 b.f fa rh st := rfl
@[simp] theorem eIsi_ev (t : Ty) (fa : Sm) : eIsi t fa rh st = eOp1 (fun _ d => bV (isi t d)) fa rh st := rfl
@[simp] theorem eIsi2_ev (t u : Ty) (fa : Sm) : eIsi2 t u fa rh st = eOp1 (fun _ d => bV ((isi t d).bind fun a => (isi u d).map fun b => a || b)) fa rh st := rfl
@[simp] theorem eSortSet_ev (fa : Sm) : eSortSet fa rh st = eOp1 (fun _ => srtD) fa rh st := rfl
@[simp] theorem eLenSet_ev (fa : Sm) : eLenSet fa rh st = eOp1 (fun _ d => dV (lenSD d)) fa rh st := rfl
@[simp] theorem eRev_ev (fa : Sm) : eRev fa rh st = eOp1 (fun _ d => dV (revD d)) fa rh st := rfl
@[simp] theorem eUpper_ev (fa : Sm) : eM_upper fa rh st = eOp1 (fun _ d => dV (uppD d)) fa rh st := rfl
@[simp] theorem eIndex_ev (fa fb : Sm) : eM_index fa fb rh st = (fa rh st).bind fun t1 st1 => match t1 with
  | .d (.str x) => eOp1 (fun _ => sixS x) fb rh st1
  | _ => .no := rfl
@[simp] theorem eIndex_ev' (fa fb : Sm) : eIndex fa fb rh st = (match fa rh st with
  | .ok (.d (.str _)) _ => eM_index fa fb rh st
  | _ => eLix fa fb rh st) := rfl
@[simp] theorem eLix_ev (fa fb : Sm) : eLix fa fb rh st = (fa rh st).bind fun t1 st1 => if isL rh st1 t1 then (fb rh st1).bind fun t2 st2 => (match view rh st2 t1, view rh st2 t2 with
  | some (.lst ds), some y => (match lixD ds y with
    | some t => .ok t st2
    | none => .no)
  | _, _ => .no) else .no := rfl
@[simp] theorem eSrtI_ev (fa : Sm) : eSrtI fa rh st = eOp1 srtA fa rh st := rfl
@[simp] theorem eAnd_ev (fa fb : Sm) : eAnd fa fb rh st = (fa rh st).bind fun t st1 => onB t fun b => if b then fb rh st1 else .ok (.d (.bl false)) st1 := by
  unfold eAnd
  congr 1
  funext t s
  cases t with
  | d d => cases d with
    | bl b => cases b <;> rfl
    | _ => rfl
  | _ => rfl
@[simp] theorem eOr_ev (fa fb : Sm) : eOr fa fb rh st = (fa rh st).bind fun t st1 => onB t fun b => if b then .ok (.d (.bl true)) st1 else fb rh st1 := by
  unfold eOr
  congr 1
  funext t s
  cases t with
  | d d => cases d with
    | bl b => cases b <;> rfl
    | _ => rfl
  | _ => rfl
@[simp] theorem eIf_ev (fc fa fb : Sm) : eIf fc fa fb rh st = (fc rh st).bind fun t st1 => onB t fun b => if b then fa rh st1 else fb rh st1 := by
  unfold eIf
  congr 1
  funext t s
  cases t with
  | d d => cases d with
    | bl b => cases b <;> rfl
    | _ => rfl
  | _ => rfl
@[simp] theorem ePart_none : ePart none rh st = .ok none st := rfl
@[simp] theorem ePart_some (f : Sm) : ePart (some f) rh st = (f rh st).bind fun t st1 => match t with
    | .d (.int i) => .ok (some i) st1
    | _ => .no := rfl
@[simp] theorem eSlc_ev (fa : Sm) (lo hi : Option Sm) : eSlc fa lo hi rh st = (fa rh st).bind fun t st1 => (ePart lo rh st1).bind fun l st2 => (ePart hi rh st2).bind fun u st3 =>
  match view rh st3 t with
  | some d => (match slcD l u d with
    | some t => .ok t st3
    | none => .no)
  | none => .no := rfl
@[simp] theorem eCall_ev (G : Tbl) (g : Str) (fs : List Ag) : eCall G g fs rh st = (eArgsC fs rh st).bind fun ds st1 => (G g ds st1).bind fun d st2 => .ok (.d d) st2 := rfl
@[simp] theorem view_non : view rh st (.d .non) = some .non := rfl
@[simp] theorem view_bl (b : Bool) : view rh st (.d (.bl b)) = some (.bl b) := rfl
@[simp] theorem view_int (i : Int) : view rh st (.d (.int i)) = some (.int i) := rfl
@[simp] theorem view_str (x : Str) : view rh st (.d (.str x)) = some (.str x) := rfl
@[simp] theorem view_tup (ds : List D) : view rh st (.d (.tup ds)) = some (.tup ds) := rfl
@[simp] theorem view_lst (ds : List D) : view rh st (.d (.lst ds)) = some (.lst ds) := rfl
@[simp] theorem view_scr (ns : List Int) : view rh st (.d (.scr ns)) = some (.scr ns) := rfl
@[simp] theorem view_fr (ds : List D) : view rh st (.fr ds) = some (.lst ds) := rfl
@[simp] theorem view_o (i : Nat) : view rh st (.o i) = (match rh[i]? with
    | some (some (.own ds)) => some (.lst ds)
    | _ => none) := rfl
@[simp] theorem bV_some (b : Bool) : bV (some b) = some (.d (.bl b)) := rfl
@[simp] theorem bV_none : bV none = none := rfl
@[simp] theorem dV_some' (d : D) : dV (some d) = some (.d d) := rfl
@[simp] theorem dV_none : dV none = none := rfl
end
section
variable {st : Sto} {i j : Int} {x y : Str} {ds es : List D} {b c : Bool} {d e : D}
@[simp] theorem bin_add_int : binD .Add (.int i) (.int j) = some (.d (.int (i + j))) := rfl
@[simp] theorem bin_sub_int : binD .Sub (.int i) (.int j) = some (.d (.int (i - j))) := rfl
theorem bin_add_str (h : x.length + y.length ≤ sizeLine) : binD .Add (.str x) (.str y) = some (.d (.str (x ++ y))) := by simp only [binD, if_pos h]
theorem bin_add_tup (h : ds.length + es.length ≤ sizeLine) : binD .Add (.tup ds) (.tup es) = some (.d (.tup (ds ++ es))) := by simp only [binD, if_pos h]
theorem bin_add_lst (h : ds.length + es.length ≤ sizeLine) : binD .Add (.lst ds) (.lst es) = some (.fr (ds ++ es)) := by simp only [binD, if_pos h]
theorem bin_mul_r (h : -(2 ^ 64) < j ∧ j < 2 ^ 64) : binD .Mult (.int i) (.int j) = some (.d (.int (i * j))) := by
  have h' : CMul i j := Or.inr h
  simp only [binD, if_pos h']
theorem bin_mul_l (h : -(2 ^ 64) < i ∧ i < 2 ^ 64) : binD .Mult (.int i) (.int j) = some (.d (.int (i * j))) := by
  have h' : CMul i j := Or.inl h
  simp only [binD, if_pos h']
theorem bin_mod (h : 0 < j) : binD .Mod (.int i) (.int j) = some (.d (.int (i % j))) := by simp only [binD, if_pos h]
theorem bin_div (h : 0 < j ∧ j < 1073741824) : binD .FloorDiv (.int i) (.int j) = some (.d (.int (i / j))) := by
  have h' : CDiv i j := h
  simp only [binD, if_pos h']
theorem bin_rep {k : Int} (h : 0 ≤ k ∧ k ≤ 1000 ∧ ds.length ≤ 10000) : binD .Mult (.lst ds) (.int k) = some (.fr (List.replicate k.toNat ds).flatten) := by
  have h2 : -(2 ^ 63) ≤ k ∧ k < 2 ^ 63 ∧ ds.length * k.toNat ≤ sizeLine := by
    refine ⟨by omega, by omega, ?_⟩
    have : ds.length * k.toNat ≤ 10000 * 1000 := Nat.mul_le_mul h.2.2 (by omega)
    rw [sizeLine_eq]
    omega
  simp only [binD, if_pos h2]
theorem bin_repS {k : Int} (h : x.length ≤ 1000 ∧ 0 ≤ k ∧ k ≤ 1000) : binD .Mult (.str x) (.int k) = some (.d (.str (Txt.mul x k))) := by simp only [binD, if_pos h]
@[simp] theorem eq_int : cmpD st .Eq (.int i) (.int j) = some (decide (i = j)) := rfl
@[simp] theorem eq_str : cmpD st .Eq (.str x) (.str y) = some (decide (x = y)) := rfl
@[simp] theorem ne_int : cmpD st .NotEq (.int i) (.int j) = some (!decide (i = j)) := rfl
@[simp] theorem ne_str : cmpD st .NotEq (.str x) (.str y) = some (!decide (x = y)) := rfl
@[simp] theorem lt_int : cmpD st .Lt (.int i) (.int j) = some (decide (i < j)) := rfl
@[simp] theorem le_int : cmpD st .LtE (.int i) (.int j) = some (decide (i ≤ j)) := rfl
@[simp] theorem gt_int : cmpD st .Gt (.int i) (.int j) = some (decide (j < i)) := rfl
@[simp] theorem ge_int : cmpD st .GtE (.int i) (.int j) = some (decide (j ≤ i)) := rfl
@[simp] theorem lt_str : cmpD st .Lt (.str x) (.str y) = some (decide (x.cps.toList < y.cps.toList)) := rfl
@[simp] theorem gt_str : cmpD st .Gt (.str x) (.str y) = some (decide (y.cps.toList < x.cps.toList)) := rfl
@[simp] theorem in_ev : cmpD st .In d e = inD st d e := rfl
@[simp] theorem nin_ev : cmpD st .NotIn d e = (inD st d e).map (!·) := rfl
@[simp] theorem is_ev : cmpD st .Is d e = isD d e := rfl
@[simp] theorem isn_ev : cmpD st .IsNot d e = (isD d e).map (!·) := rfl
@[simp] theorem tru_bl : truD st (.bl b) = some b := rfl
@[simp] theorem tru_int : truD st (.int i) = some (i != 0) := rfl
@[simp] theorem tru_non : truD st .non = some false := rfl
@[simp] theorem tru_tup : truD st (.tup ds) = some (!ds.isEmpty) := rfl
@[simp] theorem tru_lst : truD st (.lst ds) = some (!ds.isEmpty) := rfl
theorem tru_str (h : x.length ≤ sizeLine) : truD st (.str x) = some ((x.length : Int) != 0) := by simp only [truD, if_pos h]
@[simp] theorem not_bl : notD (.bl b) = some (!b) := rfl
@[simp] theorem neg_int : negD (.int i) = some (.int (-i)) := rfl
@[simp] theorem isi_int_int : isi .int (.int i) = some true := rfl
@[simp] theorem isi_int_bl : isi .int (.bl b) = some true := rfl
@[simp] theorem isi_int_non : isi .int .non = some false := rfl
@[simp] theorem isi_int_str : isi .int (.str x) = some false := rfl
@[simp] theorem isi_int_tup : isi .int (.tup ds) = some false := rfl
@[simp] theorem isi_int_lst : isi .int (.lst ds) = some false := rfl
@[simp] theorem isi_str_int : isi .str (.int i) = some false := rfl
@[simp] theorem isi_str_bl : isi .str (.bl b) = some false := rfl
@[simp] theorem isi_str_non : isi .str .non = some false := rfl
@[simp] theorem isi_str_str : isi .str (.str x) = some true := rfl
@[simp] theorem isi_str_tup : isi .str (.tup ds) = some false := rfl
@[simp] theorem isi_str_lst : isi .str (.lst ds) = some false := rfl
@[simp] theorem isi_bool_int : isi .bool (.int i) = some false := rfl
@[simp] theorem isi_bool_bl : isi .bool (.bl b) = some true := rfl
@[simp] theorem isi_bool_non : isi .bool .non = some false := rfl
@[simp] theorem isi_bool_str : isi .bool (.str x) = some false := rfl
@[simp] theorem isi_bool_tup : isi .bool (.tup ds) = some false := rfl
@[simp] theorem isi_bool_lst : isi .bool (.lst ds) = some false := rfl
@[simp] theorem isi_tuple_int : isi .tuple (.int i) = some false := rfl
@[simp] theorem isi_tuple_bl : isi .tuple (.bl b) = some false := rfl
@[simp] theorem isi_tuple_non : isi .tuple .non = some false := rfl
@[simp] theorem isi_tuple_str : isi .tuple (.str x) = some false := rfl
@[simp] theorem isi_tuple_tup : isi .tuple (.tup ds) = some true := rfl
@[simp] theorem isi_tuple_lst : isi .tuple (.lst ds) = some false := rfl
@[simp] theorem isi_list_int : isi .list (.int i) = some false := rfl
@[simp] theorem isi_list_bl : isi .list (.bl b) = some false := rfl
@[simp] theorem isi_list_non : isi .list .non = some false := rfl
@[simp] theorem isi_list_str : isi .list (.str x) = some false := rfl
@[simp] theorem isi_list_tup : isi .list (.tup ds) = some false := rfl
@[simp] theorem isi_list_lst : isi .list (.lst ds) = some true := rfl
@[simp] theorem len_ev : Bi.f .len st d = dV (lenD st d) := rfl
@[simp] theorem all_ev : Bi.f .all st d = dV (allD d) := rfl
@[simp] theorem any_ev : Bi.f .any st d = dV (anyD d) := rfl
@[simp] theorem tuple_ev : Bi.f .tuple st d = dV (tupD d) := rfl
@[simp] theorem list_ev : Bi.f .list st d = lisD d := rfl
@[simp] theorem int_ev : Bi.f .int st d = dV (intD d) := rfl
@[simp] theorem str_ev : Bi.f .str st d = dV (strD d) := rfl
@[simp] theorem len_tup : lenD st (.tup ds) = some (.int ds.length) := rfl
@[simp] theorem len_lst : lenD st (.lst ds) = some (.int ds.length) := rfl
@[simp] theorem len_scr (ns : List Int) : lenD st (.scr ns) = some (.int ns.length) := rfl
theorem len_str (h : x.length ≤ sizeLine) : lenD st (.str x) = some (.int x.length) := by simp only [lenD, if_pos h]
theorem blsOf_map (bs : List Bool) : blsOf (bs.map .bl) = some bs := by
  induction bs with
  | nil => rfl
  | cons b bs ih => simp [blsOf, blOf, ih]
theorem all_bls (bs : List Bool) : allD (.lst (bs.map .bl)) = some (.bl (bs.all id)) := by simp only [allD, blsOf_map]; rfl
theorem all_map {α : Type} (f : α → Bool) (xs : List α) : allD (.lst (xs.map fun x => .bl (f x))) = some (.bl (xs.all f)) := by
  have := all_bls (xs.map f)
  rw [List.map_map, List.all_map] at this
  exact this
theorem any_bls (bs : List Bool) : anyD (.lst (bs.map .bl)) = some (.bl (bs.any id)) := by simp only [anyD, blsOf_map]; rfl
@[simp] theorem tup_tup : tupD (.tup ds) = some (.tup ds) := rfl
@[simp] theorem tup_lst : tupD (.lst ds) = some (.tup ds) := rfl
@[simp] theorem lis_tup : lisD (.tup ds) = some (.fr ds) := rfl
@[simp] theorem lis_lst : lisD (.lst ds) = some (.fr ds) := rfl
theorem lis_str (h : x.length ≤ sizeLine) : lisD (.str x) = some (.fr (signs x)) := by simp only [lisD, if_pos h]; rfl
@[simp] theorem int_int : intD (.int i) = some (.int i) := rfl
@[simp] theorem int_bl : intD (.bl b) = some (.int (if b then 1 else 0)) := rfl
@[simp] theorem rev_tup : revD (.tup ds) = some (.tup ds.reverse) := rfl
@[simp] theorem slc_tup (lo hi : Option Int) : slcD lo hi (.tup ds) = some (.d (.tup (cutD ds lo hi))) := rfl
@[simp] theorem slc_lst (lo hi : Option Int) : slcD lo hi (.lst ds) = some (.fr (cutD ds lo hi)) := rfl
theorem slc_str (lo hi : Option Int) (h : x.length ≤ sizeLine) : slcD lo hi (.str x) = some (.d (.str (cutS x lo hi))) := by simp only [slcD, if_pos h]
@[simp] theorem is_non_non : isD .non .non = some true := rfl
@[simp] theorem is_bl_bl : isD (.bl b) (.bl c) = some (decide (b = c)) := rfl
theorem is_x_non (h : d ≠ .non) : isD d .non = some false := by cases d <;> first | rfl | exact absurd rfl h
@[simp] theorem is_bl_non : isD (.bl b) .non = some false := rfl
@[simp] theorem is_int_non : isD (.int i) .non = some false := rfl
@[simp] theorem is_str_non : isD (.str x) .non = some false := rfl
@[simp] theorem is_tup_non : isD (.tup ds) .non = some false := rfl
@[simp] theorem is_lst_non : isD (.lst ds) .non = some false := rfl
@[simp] theorem idx_tup : idxD st (.tup ds) (.int i) = atI ds i := rfl
@[simp] theorem idx_lst : idxD st (.lst ds) (.int i) = atI ds i := rfl
@[simp] theorem idx_scr (ns : List Int) : idxD st (.scr ns) (.int i) = (atI ns i).map .int := rfl
theorem idx_str (h : x.length ≤ sizeLine) : idxD st (.str x) (.int i) = (atI x.cps.toList i).map fun k => .str ⟨#[k]⟩ := by simp only [idxD, if_pos h]
theorem at_nat {α : Type} (xs : List α) (k : Nat) : atI xs (k : Int) = xs[k]? := by
  unfold L2.atI L2.ixN
  rw [if_pos (by omega)]
  by_cases h : k < xs.length
  · rw [if_pos (by omega)]
    simp
  · rw [if_neg (by omega), List.getElem?_eq_none (by omega)]
    rfl
@[simp] theorem atI_0 {α : Type} (xs : List α) : atI xs 0 = xs[0]? := at_nat xs 0
@[simp] theorem atI_1 {α : Type} (xs : List α) : atI xs 1 = xs[1]? := at_nat xs 1
@[simp] theorem atI_2 {α : Type} (xs : List α) : atI xs 2 = xs[2]? := at_nat xs 2
@[simp] theorem atI_3 {α : Type} (xs : List α) : atI xs 3 = xs[3]? := at_nat xs 3
theorem atI_of {α : Type} (xs : List α) {i : Int} (h : 0 ≤ i) : atI xs i = xs[i.toNat]? := by
  have e : i = (i.toNat : Int) := by omega
  rw [e, at_nat, Int.toNat_natCast]
theorem atI_last {α : Type} (xs : List α) : atI xs (-1) = xs[xs.length - 1]? := by
  unfold L2.atI L2.ixN
  rw [if_neg (by omega)]
  by_cases h : xs.length = 0
  · have : xs = [] := List.length_eq_zero_iff.mp h
    subst this
    rfl
  · rw [if_pos (by omega)]
    simp only [Option.bind_some]
    congr 1
    omega
@[simp] theorem cut_from1 (ds : List D) : cutD ds (some 1) none = ds.drop 1 := by
  unfold cutD
  have e : HT.sIx ds.length 0 (some 1) = min 1 ds.length := HT.sIx_nat _ _ 1
  rw [e, HT.sIx_none]
  rcases ds with _ | ⟨d, ds⟩
  · rfl
  · simp
theorem cut_from (ds : List D) (k : Nat) : cutD ds (some (k : Int)) none = ds.drop k := by
  unfold cutD
  rw [HT.sIx_nat, HT.sIx_none]
  by_cases h : k ≤ ds.length
  · rw [Nat.min_eq_left h]
    apply List.take_of_length_le
    simp
  · rw [Nat.min_eq_right (by omega), List.drop_of_length_le (by omega : ds.length ≤ k), List.drop_of_length_le (Nat.le_refl _)]
    simp
theorem cut_to (ds : List D) (k : Nat) : cutD ds none (some (k : Int)) = ds.take k := by
  unfold cutD
  rw [HT.sIx_nat, HT.sIx_none]
  simp only [List.drop_zero, Nat.sub_zero]
  by_cases h : k ≤ ds.length
  · rw [Nat.min_eq_left h]
  · rw [Nat.min_eq_right (by omega), List.take_of_length_le (Nat.le_refl _), List.take_of_length_le (by omega)]
@[simp] theorem cut_to1 (ds : List D) : cutD ds none (some 1) = ds.take 1 := cut_to ds 1
theorem sIx_neg (n d : Nat) (k : Nat) : HT.sIx n d (some (-((k : Int) + 1))) = n - (k + 1) := by
  show (if -((k : Int) + 1) < 0 then (-((k : Int) + 1) + (n : Int)).toNat else min (-((k : Int) + 1)).toNat n) = _
  rw [if_pos (by omega)]
  omega
@[simp] theorem cut_last (ds : List D) : cutD ds (some (-1)) none = ds.drop (ds.length - 1) := by
  unfold cutD
  have e : HT.sIx ds.length 0 (some (-1)) = ds.length - 1 := sIx_neg _ _ 0
  rw [e, HT.sIx_none]
  apply List.take_of_length_le
  simp
@[simp] theorem cut_init (ds : List D) : cutD ds none (some (-1)) = ds.take (ds.length - 1) := by
  unfold cutD
  have e : HT.sIx ds.length ds.length (some (-1)) = ds.length - 1 := sIx_neg _ _ 0
  rw [e, HT.sIx_none]
  rfl
end

/-! ### statements -/
section
variable {st st' : Sto} {rh rh' : Rho} {d e : D}
@[simp] theorem sThen_ev (fe : Sm) (k : TV → Sto → Rho → RS) : sThen fe k rh st = onR (fe rh st) rh fun t st1 => k t st1 rh := rfl
@[simp] theorem sAsg_ev (own : Bool) (i : Nat) (fe : Sm) : sAsg own i fe rh st = onR (fe rh st) rh fun t st1 => asg own i t st1 rh := rfl
@[simp] theorem asg_d (own : Bool) (i : Nat) : asg own i (.d d) st rh = .nx (rh.set i (some (.val d))) st := rfl
@[simp] theorem asg_fr_t (i : Nat) (ds : List D) : asg true i (.fr ds) st rh = .nx (rh.set i (some (.own ds))) st := rfl
@[simp] theorem asg_fr_f (i : Nat) (ds : List D) : asg false i (.fr ds) st rh = .nx (rh.set i (some (.val (.lst ds)))) st := rfl
@[simp] theorem sRet_ev (fe : Sm) : sRet fe rh st = onR (fe rh st) rh fun t st1 => ret t st1 rh := rfl
@[simp] theorem ret_d : ret (.d d) st rh = .rt d st := rfl
@[simp] theorem ret_fr (ds : List D) : ret (.fr ds) st rh = .rt (.lst ds) st := rfl
@[simp] theorem ret_o (i : Nat) : ret (.o i) st rh = (match rh[i]? with
    | some (some (.own ds)) => .rt (.lst ds) st
    | _ => .no) := rfl
@[simp] theorem sRetN_ev : sRetN rh st = .rt .non st := rfl
@[simp] theorem sNil_ev : sNil rh st = .nx rh st := rfl
@[simp] theorem sBrk_ev : sBrk rh st = .bk rh st := rfl
@[simp] theorem sSeq_ev (f k : Ss) : sSeq f k rh st = onN (f rh st) k := rfl
@[simp] theorem sExpr_ev (fe : Sm) : sExpr fe rh st = onR (fe rh st) rh fun t st1 => .nx rh st1 := rfl
@[simp] theorem sIf_ev (fc : Sm) (f k : Ss) : sIf fc f k rh st = onR (fc rh st) rh fun t st1 => onT t fun b => if b then f rh st1 else k rh st1 := by
  unfold sIf sThen onR
  cases fc rh st with
  | ok t s =>
    cases t with
    | d d => cases d with
      | bl b => cases b <;> rfl
      | _ => rfl
    | _ => rfl
  | _ => rfl
@[simp] theorem sPar_ev (i j : Nat) (fs : List Sm) : sPar i j fs rh st = (match eArgs fs rh st with
  | .ok [d, e] st1 => .nx ((rh.set i (some (.val d))).set j (some (.val e))) st1
  | .ok _ _ => .no
  | .ex x st1 => .ex x rh st1
  | .no => .no) := rfl
@[simp] theorem sParN_ev (is : List Nat) (fs : List Sm) : sParN is fs rh st = (match eHelds fs rh st with
  | .ok ds st1 => (match setAll is ds rh with
    | some rh' => .nx rh' st1
    | none => .no)
  | .ex x st1 => .ex x rh st1
  | .no => .no) := rfl
@[simp] theorem sLay_ev (i : Nat) (fe : Sm) : sLay i fe rh st = onR (fe rh st) rh fun t st1 => (match held t st1 with
  | some (d, st2) => .nx (rh.set i (some (.val d))) st2
  | none => .no) := rfl
@[simp] theorem eMax1_ev (fa : Sm) : eMax1 fa rh st = eOp1 (fun _ => maxD) fa rh st := rfl
@[simp] theorem eSlcT_ev (k : Int) (fa fl : Sm) : eSlcT k fa fl rh st = (fa rh st).bind fun t st1 => (fl rh st1).bind fun u st2 => (match view rh st2 t, u with
  | some (.lst ds), .d (.int i) => .ok (.fr (stpL ds i k)) st2
  | _, _ => .no) := rfl
@[simp] theorem sForL_ev (fa : Sm) (f1 f2 : Ss) : sForL fa f1 f2 rh st = (match fa rh st with
  | .ok (.d (.loc n)) _ => (match st[n]? with
    | some o => (match lockO o with
      | some o1 => (match f1 rh (st.set n o1) with
        | .nx rh' st2 => (match st2[n]?.bind unlockO with
          | some o2 => .nx rh' (st2.set n o2)
          | none => .no)
        | .rt d st2 => (match st2[n]?.bind unlockO with
          | some o2 => .rt d (st2.set n o2)
          | none => .no)
        | _ => .no)
      | none => .no)
    | none => .no)
  | _ => f2 rh st) := rfl
@[simp] theorem sFor_ev (tg : Tg) (fi : Im) (body : Ss) : sFor tg fi body rh st = (match fi rh st with
  | .ok ds st1 => sLoop tg body ds rh st1
  | .ex x st1 => .ex x rh st1
  | .no => .no) := rfl
@[simp] theorem sLoop_nil (tg : Tg) (body : Ss) : sLoop tg body [] rh st = .nx rh st := rfl
theorem sLoop_cons (tg : Tg) (body : Ss) (d : D) (ds : List D) : sLoop tg body (d :: ds) rh st = (match tgSet tg d rh with
    | none => .no
    | some rh1 => (match body rh1 st with
      | .nx rh2 st2 => sLoop tg body ds rh2 st2
      | .ct rh2 st2 => sLoop tg body ds rh2 st2
      | .bk rh2 st2 => .nx rh2 st2
      | r => r)) := rfl
@[simp] theorem iOne_ev (f : D → Option (List D)) (fa : Sm) : iOne f fa rh st = (fa rh st).bind fun t st1 => if notLoc t then oR ((view rh st1 t).bind f) st1 else .no := rfl
@[simp] theorem iOneP_ev (f : D → Option (List D)) (fa : Sm) : iOneP f fa rh st = (fa rh st).bind fun t st1 => if notLoc t then oR ((toDv t).bind f) st1 else .no := rfl
@[simp] theorem iTwo_ev (f : D → D → Option (List D)) (fa fb : Sm) : iTwo f fa fb rh st = (fa rh st).bind fun t st1 => (fb rh st1).bind fun u st2 => if notLoc t && notLoc u then oR ((view rh st2 t).bind fun d => (view rh st2 u).bind fun e => f d e) st2 else .no := rfl
theorem iTwo_ok {f : D → D → Option (List D)} {fa fb : Sm} {t u : TV} {st1 st2 : Sto} {ds : List D} (h1 : fa rh st = .ok t st1) (h2 : fb rh st1 = .ok u st2) (hn : notLoc t = true) (hu : notLoc u = true) (v1 : view rh st2 t = some d) (v2 : view rh st2 u = some e) (hf : f d e = some ds) : iTwo f fa fb rh st = .ok ds st2 := by
  show (fa rh st).bind _ = _
  rw [h1, R.bind_ok, h2, R.bind_ok, hn, hu, v1, v2]
  show oR (f d e) st2 = _
  rw [hf]
  rfl
theorem iOne_ok {f : D → Option (List D)} {fa : Sm} {t : TV} {st1 : Sto} {ds : List D} (h1 : fa rh st = .ok t st1) (hn : notLoc t = true) (v1 : view rh st1 t = some d) (hf : f d = some ds) : iOne f fa rh st = .ok ds st1 := by
  show (fa rh st).bind _ = _
  rw [h1, R.bind_ok, hn, v1]
  show oR (f d) st1 = _
  rw [hf]
  rfl
theorem iOneP_ok {f : D → Option (List D)} {fa : Sm} {t : TV} {st1 : Sto} {ds : List D} (h1 : fa rh st = .ok t st1) (hn : notLoc t = true) (v1 : toDv t = some d) (hf : f d = some ds) : iOneP f fa rh st = .ok ds st1 := by
  show (fa rh st).bind _ = _
  rw [h1, R.bind_ok, hn, v1]
  show oR (f d) st1 = _
  rw [hf]
  rfl
@[simp] theorem notLoc_fr (ds : List D) : notLoc (.fr ds) = true := rfl
@[simp] theorem notLoc_o (i : Nat) : notLoc (.o i) = true := rfl
@[simp] theorem notLoc_tup (ds : List D) : notLoc (.d (.tup ds)) = true := rfl
@[simp] theorem notLoc_lst (ds : List D) : notLoc (.d (.lst ds)) = true := rfl
@[simp] theorem notLoc_str (x : Str) : notLoc (.d (.str x)) = true := rfl
@[simp] theorem notLoc_int (x : Int) : notLoc (.d (.int x)) = true := rfl
@[simp] theorem items_tup (ds : List D) : itemsD (.tup ds) = some ds := rfl
@[simp] theorem items_lst (ds : List D) : itemsD (.lst ds) = some ds := rfl
@[simp] theorem items_str (x : Str) : itemsD (.str x) = some (signs x) := rfl
@[simp] theorem enm_lst (ds : List D) : enmD (.lst ds) = some (numFrom 0 ds) := rfl
@[simp] theorem enm_tup (ds : List D) : enmD (.tup ds) = some (numFrom 0 ds) := rfl
@[simp] theorem enm_str (x : Str) : enmD (.str x) = some (numFrom 0 (signs x)) := rfl
@[simp] theorem zip_tup (ds es : List D) : zipD (.tup ds) (.tup es) = some (zipTup ds es) := rfl
@[simp] theorem zip_lst (ds es : List D) : zipD (.lst ds) (.lst es) = some (zipTup ds es) := rfl
theorem rng1_ev {n : Nat} (h : n < 4611686018427387904) : rng1 (.int n) = some ((List.range n).map fun i => .int (i : Nat)) := by
  show rngD 0 (n : Int) = _
  unfold rngD
  rw [if_pos (by omega)]
  simp
theorem rng2_ev {i j : Int} (h : -4611686018427387904 ≤ i ∧ i < 4611686018427387904 ∧ -4611686018427387904 ≤ j ∧ j < 4611686018427387904) : rng2 (.int i) (.int j) = some ((List.range (j - i).toNat).map fun k => .int (i + (k : Nat))) := by
  show rngD i j = _
  unfold rngD
  rw [if_pos (by omega)]
@[simp] theorem eComp_ev (vs : List Nat) (tg : Tg) (fi : Im) (fc : Option Sm) (fe : Sm) : eComp vs tg fi fc fe rh st = (fi rh st).bind fun ds st1 => if ds.length ≤ sizeLine then (cLoop tg fc fe (wipeR rh vs) ds st1).bind fun ys st2 => .ok (.fr ys) st2 else .no := rfl
theorem comp_ok {vs : List Nat} {tg : Tg} {fi : Im} {fc : Option Sm} {fe : Sm} {ds ys : List D} {st1 st2 : Sto} (hi : fi rh st = .ok ds st1) (hl : ds.length ≤ sizeLine) (hc : cLoop tg fc fe (wipeR rh vs) ds st1 = .ok ys st2) : eComp vs tg fi fc fe rh st = .ok (.fr ys) st2 := by
  show (fi rh st).bind _ = _
  rw [hi, R.bind_ok, if_pos hl, hc]
  rfl
@[simp] theorem wipe_nil : wipeR rh [] = rh := rfl
@[simp] theorem wipe_cons (v : Nat) (vs : List Nat) : wipeR rh (v :: vs) = (wipeR rh vs).set v none := rfl
@[simp] theorem tg_name_ev (i : Nat) : tgSet (.name i) d rh = some (rh.set i (some (.val d))) := rfl
@[simp] theorem tg_tup_ev (is : List Nat) (ds : List D) : tgSet (.tup is) (.tup ds) rh = setAll is ds rh := rfl
@[simp] theorem tg_raw_ev (is : List Nat) (ds : List D) : tgSet (.tup is) (.raw ds) rh = setAll is ds rh := rfl
@[simp] theorem setAll_nil : setAll [] [] rh = some rh := rfl
@[simp] theorem setAll_cons (i : Nat) (is : List Nat) (d : D) (ds : List D) : setAll (i :: is) (d :: ds) rh = setAll is ds (rh.set i (some (.val d))) := rfl
/-- each item is led to one value, the store is left -/
theorem cLoop_map {tg : Tg} {fe : Sm} {rhw : Rho} (f : D → D) : ∀ (ds : List D), (∀ d ∈ ds, ∃ rh', tgSet tg d rhw = some rh' ∧ cElt fe rh' st = .ok (f d) st) → cLoop tg none fe rhw ds st = .ok (ds.map f) st
  | [], _ => rfl
  | d :: ds, h => by
    obtain ⟨rh', h1, h2⟩ := h d List.mem_cons_self
    unfold cLoop
    rw [h1]
    simp only [oR_some, R.bind_ok, cTest, h2, cLoop_map f ds fun d hd => h d (List.mem_cons_of_mem _ hd), List.map_cons]
theorem cLoop_filter {tg : Tg} {fc fe : Sm} {rhw : Rho} (p : D → Bool) (f : D → D) : ∀ (ds : List D), (∀ d ∈ ds, ∃ rh', tgSet tg d rhw = some rh' ∧ fc rh' st = .ok (.d (.bl (p d))) st ∧ (p d = true → cElt fe rh' st = .ok (f d) st)) → cLoop tg (some fc) fe rhw ds st = .ok ((ds.filter p).map f) st
  | [], _ => rfl
  | d :: ds, h => by
    obtain ⟨rh', h1, h2, h3⟩ := h d List.mem_cons_self
    unfold cLoop
    rw [h1]
    have ih := cLoop_filter p f ds fun d hd => h d (List.mem_cons_of_mem _ hd)
    simp only [oR_some, R.bind_ok, cTest, h2, ih]
    cases hp : p d with
    | false => simp [List.filter_cons, hp]
    | true => simp [List.filter_cons, hp, h3 hp, ih]
@[simp] theorem fin_rt (n : Nat) : fin n (.rt d st) = .ok d (cut n d st) := rfl
@[simp] theorem fin_nx (n : Nat) : fin n (.nx rh st) = .ok .non (cut n .non st) := rfl
@[simp] theorem fin_ex (n : Nat) (c : Str) : fin n (.ex c rh st) = .ex c (cut n .non st) := rfl
@[simp] theorem cut_same (d : D) : cut st.length d st = st := by unfold cut; rw [if_pos (Nat.le_refl _)]
@[simp] theorem sApp_ev (fo fe : Sm) : sApp fo fe rh st = onR (fo rh st) rh fun t st1 => if isL rh st1 t then onR (fe rh st1) rh fun u st2 => (match toDv u with
      | some d => updL t (appD d) st2 rh
      | none => .no) else .no := rfl
@[simp] theorem sExt_ev (fo fe : Sm) : sExt fo fe rh st = onR (fo rh st) rh fun t st1 => if isL rh st1 t then onR (fe rh st1) rh fun u st2 => (match view rh st2 u with
      | some (.lst es) => updL t (extD es) st2 rh
      | _ => .no) else .no := rfl
@[simp] theorem isL_o (i : Nat) : isL rh st (.o i) = (match rh[i]? with
  | some (some (.own _)) => true
  | _ => false) := by
  unfold isL
  simp only [view_o]
  cases h : rh[i]? with
  | none => rfl
  | some o =>
    cases o with
    | none => rfl
    | some c => cases c <;> rfl
@[simp] theorem updL_o (i : Nat) (f : List D → Option (List D)) : updL (.o i) f st rh = (match rh[i]? with
    | some (some (.own ds)) => (match f ds with
      | some ds' => .nx (rh.set i (some (.own ds'))) st
      | none => .no)
    | _ => .no) := rfl
theorem app_ev {ds : List D} (h : ds.length < sizeLine) : appD d ds = some (ds ++ [d]) := by unfold appD; rw [if_pos h]
theorem ext_ev {ds es : List D} (h : ds.length + es.length ≤ sizeLine) : extD es ds = some (ds ++ es) := by unfold extD; rw [if_pos h]
@[simp] theorem cellD_non : cellD .non = .val .non := rfl
@[simp] theorem cellD_bl (b : Bool) : cellD (.bl b) = .val (.bl b) := rfl
@[simp] theorem cellD_int (i : Int) : cellD (.int i) = .val (.int i) := rfl
@[simp] theorem cellD_str (x : Str) : cellD (.str x) = .val (.str x) := rfl
@[simp] theorem cellD_tup (ds : List D) : cellD (.tup ds) = .val (.tup ds) := rfl
@[simp] theorem cellD_lst (ds : List D) : cellD (.lst ds) = .val (.lst ds) := rfl
@[simp] theorem cellD_raw (ds : List D) : cellD (.raw ds) = .val (.raw ds) := rfl
@[simp] theorem cellD_loc (n : Nat) : cellD (.loc n) = .val (.loc n) := rfl
@[simp] theorem cellD_scr (ns : List Int) : cellD (.scr ns) = .val (.scr ns) := rfl
/-! objects, exceptions, texts -/
theorem view_loc (n : Nat) : view rh st (.d (.loc n)) = (match st[n]? with
    | some (.lst ds) => some (.lst ds)
    | some _ => some (.loc n)
    | none => none) := rfl
@[simp] theorem eFld_ev (f : Str) (fa : Sm) : eFld f fa rh st = eOp1 (fun st d => dV (fldD f st d)) fa rh st := rfl
@[simp] theorem fldD_loc (f : Str) (n : Nat) : fldD f st (.loc n) = (match st[n]? with
    | some (.ins _ fs) => fs.lookup f
    | _ => none) := rfl
@[simp] theorem eMeth_ev (ml : Ml) (G : Tbl) (m : Str) (fo : Sm) (fs : List Ag) : eMeth ml G m fo fs rh st = (fo rh st).bind fun t st1 => match t with
  | .d (.loc n) => (match st1[n]? with
    | some (.ins C _) => (match ml.lookup (C, m) with
      | some g => (eArgsC fs rh st1).bind fun ds st2 => (G g (.loc n :: ds) st2).bind fun d st3 => .ok (.d d) st3
      | none => .no)
    | _ => .no)
  | _ => .no := rfl
@[simp] theorem eMake_ev (G : Tbl) (C g : Str) (fs : List Ag) : eMake G C g fs rh st = (eArgsC fs rh st).bind fun ds st1 => (G g (.loc st1.length :: ds) (st1 ++ [.ins C []])).bind fun d st2 => match d with
  | .non => .ok (.d (.loc st1.length)) st2
  | _ => .no := rfl
@[simp] theorem sFldS_ev (fl : List (Str × Str)) (f : Str) (fo fe : Sm) : sFldS fl f fo fe rh st = onR (fe rh st) rh fun t st1 => (match held t st1 with
  | some (d, st2) => onR (fo rh st2) rh fun u st3 => (match u with
    | .d (.loc n) => (match setFld fl f n d st3 with
      | some st4 => .nx rh st4
      | none => .no)
    | _ => .no)
  | none => .no) := rfl
@[simp] theorem held_d : held (.d d) st = some (d, st) := rfl
@[simp] theorem held_fr (ds : List D) : held (.fr ds) st = some (.loc st.length, st ++ [.lst ds]) := rfl
@[simp] theorem sRaise_ev (e : Str) : sRaise e rh st = .ex e rh st := rfl
@[simp] theorem sTry_ev (xs : List Str) (fb fs : Ss) : sTry xs fb fs rh st = (match fb rh st with
  | .ex e rh' st' => if xs.contains e then noEx (fs rh' st') else .no
  | r => r) := rfl
theorem sTry_rt {xs : List Str} {fb fs : Ss} (h : fb rh st = .rt d st') : sTry xs fb fs rh st = .rt d st' := by
  show (match fb rh st with
    | .ex e rh' st' => if xs.contains e then noEx (fs rh' st') else .no
    | r => r) = _
  rw [h]
@[simp] theorem sTryX_ev (xs : List Str) (ws : List (Str × Str)) (fb : Ss) : sTryX xs ws fb rh st = (match fb rh st with
  | .ex e _ st' => if xs.contains e then (match ws.lookup e with
    | some w => .rt (.str w) st'
    | none => .no) else .no
  | r => r) := rfl
@[simp] theorem eJoin_ev (fa fb : Sm) : eM_join fa fb rh st = (fa rh st).bind fun t1 st1 => match t1 with
  | .d (.str x) => eOp1 (fun _ => joinD x) fb rh st1
  | _ => .no := rfl
@[simp] theorem eSplit_ev (fa fb : Sm) : eM_split fa fb rh st = (fa rh st).bind fun t1 st1 => match t1 with
  | .d (.str x) => eOp1 (fun _ => splitD x) fb rh st1
  | _ => .no := rfl
@[simp] theorem ePart_ev (fa fb : Sm) : eM_part fa fb rh st = (fa rh st).bind fun t1 st1 => match t1 with
  | .d (.str x) => eOp1 (fun _ => partD x) fb rh st1
  | _ => .no := rfl
theorem wLoop_succ (fc : Sm) (body : Ss) (n : Nat) : wLoop fc body (n + 1) rh st = onR (fc rh st) rh fun t st1 => onT t fun b => if b then (match body rh st1 with
      | .nx rh2 st2 => wLoop fc body n rh2 st2
      | .ct rh2 st2 => wLoop fc body n rh2 st2
      | .bk rh2 st2 => .nx rh2 st2
      | r => r) else .nx rh st1 := by
  show sThen fc _ rh st = _
  unfold sThen onR
  cases fc rh st with
  | ok t s =>
    cases t with
    | d d => cases d with
      | bl b => cases b <;> rfl
      | _ => rfl
    | _ => rfl
  | _ => rfl
end
end KL
namespace KL
open PySem L2
/-! ### lambdas -/
section
variable {st : Sto} {rh : Rho}
@[simp] theorem eCallV_ev (ls : List Str) (G : Tbl) (i : Nat) (fs : List Sm) : eCallV ls G i fs rh st = (match capAt rh i with
  | some (t, cs) => (match ls[t]? with
    | some g => (eArgs fs rh st).bind fun ds st1 => (G g (ds ++ cs) st1).bind fun d st2 => .ok (.d d) st2
    | none => .no)
  | none => .no) := rfl
@[simp] theorem eCallL_ev (G : Tbl) (g : Str) (f1 : Sm) (t : Nat) (js : List Nat) : eCallL G g f1 t js rh st = (f1 rh st).bind fun tv st1 => match toDv tv with
  | some d => (match capsAt rh js with
    | some cs => (G g [d, .clo t cs] st1).bind fun r st2 => .ok (.d r) st2
    | none => .no)
  | none => .no := rfl
end
/-! ### the lambdas of a def's body, in order -/
def lamE : Expr → List (Arguments × Expr × Scope)
  | .Call _ [_, .Lambda a b sc _] _ _ => [(a, b, sc)]
  | _ => []
def lamsS : Nat → List Stmt → List (Arguments × Expr × Scope)
  | 0, _ => []
  | n + 1, ss => ss.flatMap fun s => match s with
    | .Assign _ e _ => lamE e
    | .If _ a b _ => lamsS n a ++ lamsS n b
    | .For _ _ a _ _ => lamsS n a
    | .While _ a _ _ => lamsS n a
    | .Try a _ _ _ _ => lamsS n a
    | _ => []
def lamAt (ss : List Stmt) (j : Nat) : Arguments × Expr × Scope := (lamsS 10 ss).getD j (⟨[], [], none, [], [], none, []⟩, .Constant .none 0 ⟨0, 0, 0, 0⟩, ⟨.function, [], false, false, []⟩)
end KL

namespace KW
open PySem L2 KL
def top (i : Nat) : Stmt := PySem.Challenge.pw_keptlooks_k09_whole_trees_and_tables.main.body.getD i (.Pass ⟨0, 0, 0, 0⟩)
def inCls (s : Stmt) (j : Nat) : Stmt := match s with
  | .ClassDef _ _ _ b _ _ _ _ _ _ _ => b.getD j (.Pass ⟨0, 0, 0, 0⟩)
  | _ => .Pass ⟨0, 0, 0, 0⟩
def mlD : Ml := [(("Run", "__init__"), "Run.__init__"), (("Run", "see"), "Run.see"), (("Run", "ask"), "Run.ask"), (("Run", "look_from"), "Run.look_from")]
def flD : List (Str × Str) := [("Run", "book"), ("Run", "world"), ("Run", "path"), ("Run", "begun"), ("Run", "seen"), ("Run", "answers"), ("Run", "rows"), ("Run", "ring")]
def wsD : List (Str × Str) := []
def lsD : List Str := ["lambda0"]
abbrev s_of_two : Stmt := top 6
def d_of_two : He.DefD := ⟨("of_two", none), "of_two", "of_two", defArgs s_of_two, defBody s_of_two, defScope s_of_two, [], []⟩
def m_of_two (G : Tbl) : Ss :=
  (sSeq (sIf (eCmp .Eq (eVar 0) (eC (.str "plus")))
  (sRet (eBin .Mod (eBin .Add (eVar 1) (eVar 2)) (eC (.int 3))))
  sNil)
  (sSeq (sIf (eCmp .Eq (eVar 0) (eC (.str "times")))
  (sRet (eBin .Mod (eBin .Mult (eVar 1) (eVar 2)) (eC (.int 3))))
  sNil)
  (sSeq (sIf (eCmp .Eq (eVar 0) (eC (.str "same")))
  (sRet (eB1 .int (eCmp .Eq (eVar 1) (eVar 2))))
  sNil)
  (sSeq (sIf (eCmp .Eq (eVar 0) (eC (.str "least")))
  (sRet (eMin2 (eVar 1) (eVar 2)))
  sNil)
  (sRet (eMax2 (eVar 1) (eVar 2)))))))
def f_of_two : Df := ⟨"of_two", d_of_two, ["word", "one", "other"], ["word", "one", "other"], [], [], m_of_two, []⟩
abbrev s_worth_of : Stmt := top 7
def d_worth_of : He.DefD := ⟨("worth_of", none), "worth_of", "worth_of", defArgs s_worth_of, defBody s_worth_of, defScope s_worth_of, [], []⟩
def m_worth_of (G : Tbl) : Ss :=
  (sSeq (sAsg false 2 (eIdx (eVar 0) (eC (.int 0))))
  (sSeq (sIf (eCmp .Eq (eVar 2) (eC (.str "worth")))
  (sRet (eIdx (eVar 0) (eC (.int 1))))
  sNil)
  (sSeq (sIf (eCmp .Eq (eVar 2) (eC (.str "look")))
  (sRet (eCallV lsD G 1 [(eIdx (eVar 0) (eC (.int 1)))]))
  sNil)
  (sSeq (sIf (eCmp .Eq (eVar 2) (eC (.str "if")))
  (sSeq (sIf (eCmp .NotEq (eCall G "worth_of" [.e (eIdx (eVar 0) (eC (.int 1))), .k 1]) (eC (.int 0)))
  (sRet (eCall G "worth_of" [.e (eIdx (eVar 0) (eC (.int 2))), .k 1]))
  sNil)
  (sRet (eCall G "worth_of" [.e (eIdx (eVar 0) (eC (.int 3))), .k 1])))
  sNil)
  (sSeq (sAsg false 3 (eCall G "worth_of" [.e (eIdx (eVar 0) (eC (.int 1))), .k 1]))
  (sRet (eCall G "of_two" [.e (eVar 2), .e (eVar 3), .e (eCall G "worth_of" [.e (eIdx (eVar 0) (eC (.int 2))), .k 1])])))))))
def f_worth_of : Df := ⟨"worth_of", d_worth_of, ["rule", "look"], ["rule", "look", "word", "one"], [], ["look"], m_worth_of, []⟩
abbrev s_Run___init : Stmt := inCls (top 9) 0
def d_Run___init : He.DefD := ⟨("Run", some "__init__"), "__init__", "Run.__init__", defArgs s_Run___init, defBody s_Run___init, defScope s_Run___init, [], []⟩
def m_Run___init (G : Tbl) : Ss :=
  (sSeq (sFldS flD "book" (eVar 0) (eDict (eVar 1)))
  (sSeq (sFldS flD "world" (eVar 0) (eVar 2))
  (sSeq (sFldS flD "path" (eVar 0) (eLst []))
  (sSeq (sFldS flD "begun" (eVar 0) (eLst []))
  (sSeq (sFldS flD "seen" (eVar 0) (eLst []))
  (sSeq (sFldS flD "answers" (eVar 0) eDictNew)
  (sSeq (sFldS flD "rows" (eVar 0) (eLst []))
  (sFldS flD "ring" (eVar 0) (eC .non)))))))))
def f_Run___init : Df := ⟨"Run.__init__", d_Run___init, ["self", "book", "world"], ["self", "book", "world"], [], [], m_Run___init, []⟩
abbrev s_Run_see : Stmt := inCls (top 9) 1
def d_Run_see : He.DefD := ⟨("Run", some "see"), "see", "Run.see", defArgs s_Run_see, defBody s_Run_see, defScope s_Run_see, [], []⟩
def m_Run_see (G : Tbl) : Ss :=
  (sSeq (sIf (eCmp .In (eVar 1) (eC (Kc.d (.str "abc"))))
  (sSeq (sIf (eCmp .NotIn (eVar 1) (eFld "seen" (eVar 0)))
  (sApp (eFld "seen" (eVar 0)) (eVar 1))
  sNil)
  (sRet (eIdx (eFld "world" (eVar 0)) (eIndex (eC (Kc.d (.str "abc"))) (eVar 1)))))
  sNil)
  (sRet (eMeth mlD G "ask" (eVar 0) [.e (eVar 1)])))
def f_Run_see : Df := ⟨"Run.see", d_Run_see, ["self", "name"], ["self", "name"], [], [], m_Run_see, []⟩
abbrev s_Run_ask : Stmt := inCls (top 9) 2
def d_Run_ask : He.DefD := ⟨("Run", some "ask"), "ask", "Run.ask", defArgs s_Run_ask, defBody s_Run_ask, defScope s_Run_ask, [], []⟩
def m_Run_ask (G : Tbl) : Ss :=
  (sSeq (sIf (eCmp .NotIn (eVar 1) (eFld "book" (eVar 0)))
  (sRaise "NoAsk")
  sNil)
  (sSeq (sIf (eCmp .In (eVar 1) (eFld "path" (eVar 0)))
  (sSeq (sFldS flD "ring" (eVar 0) (eB1 .tuple (eSlc (eFld "path" (eVar 0)) (some (eIndex (eFld "path" (eVar 0)) (eVar 1))) none)))
  (sRaise "Ring"))
  sNil)
  (sSeq (sIf (eCmp .NotIn (eVar 1) (eFld "answers" (eVar 0)))
  (sSeq (sApp (eFld "path" (eVar 0)) (eVar 1))
  (sSeq (sApp (eFld "begun" (eVar 0)) (eVar 1))
  (sSeq (sAsg false 2 eDictNew)
  (sSeq (sPut (eFld "answers" (eVar 0)) (eVar 1) (eCallL G "worth_of" (eIdx (eFld "book" (eVar 0)) (eVar 1)) 0 [2, 0]))
  (sSeq (sApp (eFld "rows" (eVar 0)) (eTup [(eVar 1), (eIdx (eFld "answers" (eVar 0)) (eVar 1)), (eB1 .tuple (eLk (eVar 2) (eComp [3] (.name 3) (iLk (eVar 2)) none (eTup [(eVar 3), (eIdx (eVar 2) (eVar 3))])) (eComp [3] (.name 3) (iOne itemsD (eVar 2)) none (eTup [(eVar 3), (eIdx (eVar 2) (eVar 3))]))))]))
  (sExpr (ePop0 (eFld "path" (eVar 0)))))))))
  sNil)
  (sRet (eIdx (eFld "answers" (eVar 0)) (eVar 1))))))
def f_Run_ask : Df := ⟨"Run.ask", d_Run_ask, ["self", "name"], ["self", "name", "here", "one"], [], [], m_Run_ask, []⟩
abbrev s_Run_look_from : Stmt := inCls (top 9) 3
def d_Run_look_from : He.DefD := ⟨("Run", some "look_from"), "look_from", "Run.look_from", defArgs s_Run_look_from, defBody s_Run_look_from, defScope s_Run_look_from, [], []⟩
def m_Run_look_from (G : Tbl) : Ss :=
  (sSeq (sIf (eCmp .NotIn (eVar 2) (eVar 1))
  (sPut (eVar 1) (eVar 2) (eMeth mlD G "see" (eVar 0) [.e (eVar 2)]))
  sNil)
  (sRet (eIdx (eVar 1) (eVar 2))))
def f_Run_look_from : Df := ⟨"Run.look_from", d_Run_look_from, ["self", "here", "name"], ["self", "here", "name"], [], [], m_Run_look_from, []⟩
abbrev s_run_of : Stmt := top 10
def d_run_of : He.DefD := ⟨("run_of", none), "run_of", "run_of", defArgs s_run_of, defBody s_run_of, defScope s_run_of, [], []⟩
def m_run_of (G : Tbl) : Ss :=
  (sSeq (sAsg false 3 (eMake G "Run" "Run.__init__" [.e (eVar 0), .e (eVar 1)]))
  (sSeq (sAsg false 4 (eC (.str "?")))
  (sSeq (sTry ["LookError", "NoAsk", "Ring"]
  (sAsg false 4 (eB1 .str (eMeth mlD G "ask" (eVar 3) [.e (eVar 2)])))
  (sIf (eCmp .IsNot (eFld "ring" (eVar 3)) (eC .non))
  (sAsg false 4 (eC (.str "o")))
  sNil))
  (sRet (eTup [(eVar 3), (eVar 4)])))))
def f_run_of : Df := ⟨"run_of", d_run_of, ["book", "world", "name"], ["book", "world", "name", "run", "sign"], [], [], m_run_of, []⟩
def b_all_worlds_2 (G : Tbl) : Ss :=
  (sExt (eVar 0) (eComp [3] (.name 3) (iOne itemsD (eC (Kc.d (.tI [0, 1, 2])))) none (eTup [(eVar 1), (eVar 2), (eVar 3)])))
def b_all_worlds_1 (G : Tbl) : Ss :=
  (sFor (.name 2) (iOneP itemsD (eC (Kc.d (.tI [0, 1, 2]))))
  (b_all_worlds_2 G))
abbrev s_all_worlds : Stmt := top 13
def d_all_worlds : He.DefD := ⟨("all_worlds", none), "all_worlds", "all_worlds", defArgs s_all_worlds, defBody s_all_worlds, defScope s_all_worlds, [], []⟩
def m_all_worlds (G : Tbl) : Ss :=
  (sSeq (sAsg true 0 (eLst []))
  (sSeq (sFor (.name 1) (iOneP itemsD (eC (Kc.d (.tI [0, 1, 2]))))
  (b_all_worlds_1 G))
  (sRet (eVar 0))))
def f_all_worlds : Df := ⟨"all_worlds", d_all_worlds, [], ["found", "first", "second", "third"], ["found"], [], m_all_worlds, []⟩
abbrev s_sign_of : Stmt := top 14
def d_sign_of : He.DefD := ⟨("sign_of", none), "sign_of", "sign_of", defArgs s_sign_of, defBody s_sign_of, defScope s_sign_of, [], []⟩
def m_sign_of (G : Tbl) : Ss :=
  (sRet (eIdx (eCall G "run_of" [.e (eVar 0), .e (eVar 1), .e (eVar 2)]) (eC (.int 1))))
def f_sign_of : Df := ⟨"sign_of", d_sign_of, ["book", "world", "name"], ["book", "world", "name"], [], [], m_sign_of, []⟩
abbrev s_table : Stmt := top 15
def d_table : He.DefD := ⟨("table", none), "table", "table", defArgs s_table, defBody s_table, defScope s_table, [], []⟩
def m_table (G : Tbl) : Ss :=
  (sRet (eM_join (eC (.str "")) (eComp [2] (.name 2) (iOne itemsD (eCall G "all_worlds" [])) none (eCall G "sign_of" [.e (eVar 0), .e (eVar 2), .e (eVar 1)]))))
def f_table : Df := ⟨"table", d_table, ["book", "name"], ["book", "name", "world"], [], [], m_table, []⟩
def b_parting_1 (G : Tbl) : Ss :=
  (sIf (eCmp .NotEq (eCall G "sign_of" [.e (eVar 0), .e (eVar 3), .e (eVar 2)]) (eCall G "sign_of" [.e (eVar 1), .e (eVar 3), .e (eVar 2)]))
  (sRet (eVar 3))
  sNil)
abbrev s_parting : Stmt := top 16
def d_parting : He.DefD := ⟨("parting", none), "parting", "parting", defArgs s_parting, defBody s_parting, defScope s_parting, [], []⟩
def m_parting (G : Tbl) : Ss :=
  (sSeq (sFor (.name 3) (iOneP itemsD (eCall G "all_worlds" []))
  (b_parting_1 G))
  (sRet (eC .non)))
def f_parting : Df := ⟨"parting", d_parting, ["one", "other", "name"], ["one", "other", "name", "world"], [], [], m_parting, []⟩
abbrev s_with_cell : Stmt := top 17
def d_with_cell : He.DefD := ⟨("with_cell", none), "with_cell", "with_cell", defArgs s_with_cell, defBody s_with_cell, defScope s_with_cell, [], []⟩
def m_with_cell (G : Tbl) : Ss :=
  (sRet (eBin .Add (eBin .Add (eSlc (eVar 0) none (some (eVar 1))) (eTup [(eVar 2)])) (eSlc (eVar 0) (some (eBin .Add (eVar 1) (eC (.int 1)))) none)))
def f_with_cell : Df := ⟨"with_cell", d_with_cell, ["world", "place", "worth"], ["world", "place", "worth"], [], [], m_with_cell, []⟩
def b_hangs_on_1 (G : Tbl) : Ss :=
  (sIf (eTru (eB1 .any (eLk (eVar 2) (eComp [3] (.name 3) (iLk (eVar 2)) none (eCmp .NotEq (eIdx (eVar 2) (eVar 3)) (eIdx (eVar 2) (eCall G "with_cell" [.e (eVar 3), .e (eVar 5), .e (eC (.int 0))])))) (eComp [3] (.name 3) (iOne itemsD (eVar 2)) none (eCmp .NotEq (eIdx (eVar 2) (eVar 3)) (eIdx (eVar 2) (eCall G "with_cell" [.e (eVar 3), .e (eVar 5), .e (eC (.int 0))])))))))
  (sApp (eVar 4) (eVar 6))
  sNil)
abbrev s_hangs_on : Stmt := top 18
def d_hangs_on : He.DefD := ⟨("hangs_on", none), "hangs_on", "hangs_on", defArgs s_hangs_on, defBody s_hangs_on, defScope s_hangs_on, [], []⟩
def m_hangs_on (G : Tbl) : Ss :=
  (sSeq (sAsg false 2 (eDict (eComp [3] (.name 3) (iOne itemsD (eCall G "all_worlds" [])) none (eTup [(eVar 3), (eCall G "sign_of" [.e (eVar 0), .e (eVar 3), .e (eVar 1)])]))))
  (sSeq (sAsg true 4 (eLst []))
  (sSeq (sFor (.tup [5, 6]) (iOneP enmD (eC (.str "abc")))
  (b_hangs_on_1 G))
  (sRet (eB1 .tuple (eVar 4))))))
def f_hangs_on : Df := ⟨"hangs_on", d_hangs_on, ["book", "name"], ["book", "name", "signs", "world", "found", "place", "cell"], ["found"], [], m_hangs_on, []⟩
abbrev s_tree_from : Stmt := top 20
def d_tree_from : He.DefD := ⟨("tree_from", none), "tree_from", "tree_from", defArgs s_tree_from, defBody s_tree_from, defScope s_tree_from, [], []⟩
def m_tree_from (G : Tbl) : Ss :=
  (sSeq (sUnp [4, 5] (eCall G "run_of" [.e (eVar 0), .e (eVar 2), .e (eVar 1)]))
  (sSeq (sAsg false 6 (eLk (eFld "seen" (eVar 4)) (eComp [7] (.name 7) (iLk (eFld "seen" (eVar 4))) (some (eCmp .NotIn (eVar 7) (eVar 3))) (eVar 7)) (eComp [7] (.name 7) (iOne itemsD (eFld "seen" (eVar 4))) (some (eCmp .NotIn (eVar 7) (eVar 3))) (eVar 7))))
  (sSeq (sIf (eNot (eTru (eVar 6)))
  (sRet (eTup [(eC (.str "end")), (eVar 5)]))
  sNil)
  (sSeq (sAsg false 8 (eIndex (eC (Kc.d (.str "abc"))) (eIdx (eVar 6) (eC (.int 0)))))
  (sSeq (sAsg false 9 (eComp [10] (.name 10) (iOne itemsD (eC (Kc.d (.tI [0, 1, 2])))) none (eCall G "tree_from" [.e (eVar 0), .e (eVar 1), .e (eCall G "with_cell" [.e (eVar 2), .e (eVar 8), .e (eVar 10)]), .e (eBin .Add (eVar 3) (eLst [(eIdx (eVar 6) (eC (.int 0)))]))])))
  (sRet (eTup [(eC (.str "cell")), (eIdx (eVar 6) (eC (.int 0))), (eB1 .tuple (eVar 9))])))))))
def f_tree_from : Df := ⟨"tree_from", d_tree_from, ["book", "name", "world", "known"], ["book", "name", "world", "known", "run", "sign", "new", "cell", "place", "some", "worth"], [], [], m_tree_from, []⟩
abbrev s_tree : Stmt := top 21
def d_tree : He.DefD := ⟨("tree", none), "tree", "tree", defArgs s_tree, defBody s_tree, defScope s_tree, [], []⟩
def m_tree (G : Tbl) : Ss :=
  (sRet (eCall G "tree_from" [.e (eVar 0), .e (eVar 1), .e (eTup [(eC (.int 0)), (eC (.int 0)), (eC (.int 0))]), .e (eLst [])]))
def f_tree : Df := ⟨"tree", d_tree, ["book", "name"], ["book", "name"], [], [], m_tree, []⟩
def b_sign_by_1 (G : Tbl) : Ss :=
  (sAsg false 0 (eIdx (eIdx (eVar 0) (eC (.int 2))) (eIdx (eVar 1) (eIndex (eC (Kc.d (.str "abc"))) (eIdx (eVar 0) (eC (.int 1)))))))
abbrev s_sign_by : Stmt := top 22
def d_sign_by : He.DefD := ⟨("sign_by", none), "sign_by", "sign_by", defArgs s_sign_by, defBody s_sign_by, defScope s_sign_by, [], []⟩
def m_sign_by (G : Tbl) : Ss :=
  (sSeq (sWhile (eCmp .Eq (eIdx (eVar 0) (eC (.int 0))) (eC (.str "cell")))
  (b_sign_by_1 G))
  (sRet (eIdx (eVar 0) (eC (.int 1)))))
def f_sign_by : Df := ⟨"sign_by", d_sign_by, ["one", "world"], ["one", "world"], [], [], m_sign_by, []⟩
abbrev s_deepest : Stmt := top 23
def d_deepest : He.DefD := ⟨("deepest", none), "deepest", "deepest", defArgs s_deepest, defBody s_deepest, defScope s_deepest, [], []⟩
def m_deepest (G : Tbl) : Ss :=
  (sSeq (sIf (eCmp .Eq (eIdx (eVar 0) (eC (.int 0))) (eC (.str "end")))
  (sRet (eC (.int 0)))
  sNil)
  (sRet (eBin .Add (eC (.int 1)) (eMax1 (eComp [1] (.name 1) (iOne itemsD (eIdx (eVar 0) (eC (.int 2)))) none (eCall G "deepest" [.e (eVar 1)]))))))
def f_deepest : Df := ⟨"deepest", d_deepest, ["one"], ["one", "each"], [], [], m_deepest, []⟩
abbrev s_joined : Stmt := top 24
def d_joined : He.DefD := ⟨("joined", none), "joined", "joined", defArgs s_joined, defBody s_joined, defScope s_joined, [], []⟩
def m_joined (G : Tbl) : Ss :=
  (sSeq (sIf (eCmp .Eq (eIdx (eVar 0) (eC (.int 0))) (eC (.str "end")))
  (sRet (eVar 0))
  sNil)
  (sSeq (sAsg false 1 (eComp [2] (.name 2) (iOne itemsD (eIdx (eVar 0) (eC (.int 2)))) none (eCall G "joined" [.e (eVar 2)])))
  (sSeq (sIf (eCmp2 .Eq .Eq (eIdx (eVar 1) (eC (.int 0))) (eIdx (eVar 1) (eC (.int 1))) (eIdx (eVar 1) (eC (.int 2))))
  (sRet (eIdx (eVar 1) (eC (.int 0))))
  sNil)
  (sRet (eTup [(eC (.str "cell")), (eIdx (eVar 0) (eC (.int 1))), (eB1 .tuple (eVar 1))])))))
def f_joined : Df := ⟨"joined", d_joined, ["one"], ["one", "some", "each"], [], [], m_joined, []⟩
abbrev s_free : Stmt := top 26
def d_free : He.DefD := ⟨("free", none), "free", "free", defArgs s_free, defBody s_free, defScope s_free, [], []⟩
def m_free (G : Tbl) : Ss :=
  (sSeq (sAsg false 3 (eFld "seen" (eIdx (eCall G "run_of" [.e (eVar 0), .e (eVar 1), .e (eVar 2)]) (eC (.int 0)))))
  (sRet (eB1 .tuple (eComp [4] (.name 4) (iOne itemsD (eC (Kc.d (.str "abc")))) (some (eCmp .NotIn (eVar 4) (eVar 3))) (eVar 4)))))
def f_free : Df := ⟨"free", d_free, ["book", "world", "name"], ["book", "world", "name", "seen", "cell"], [], [], m_free, []⟩
abbrev s_law_cell : Stmt := top 28
def d_law_cell : He.DefD := ⟨("_law_cell", none), "_law_cell", "_law_cell", defArgs s_law_cell, defBody s_law_cell, defScope s_law_cell, [], []⟩
def m_law_cell (G : Tbl) : Ss :=
  (sSeq (sIf (eCmp .Lt (eVar 1) (eB1 .len (eVar 0)))
  (sRet (eIdx (eVar 0) (eVar 1)))
  sNil)
  (sRet (eC (.int 0))))
def f_law_cell : Df := ⟨"_law_cell", d_law_cell, ["script", "k"], ["script", "k"], [], [], m_law_cell, []⟩
abbrev s_law_mix : Stmt := top 29
def d_law_mix : He.DefD := ⟨("_law_mix", none), "_law_mix", "_law_mix", defArgs s_law_mix, defBody s_law_mix, defScope s_law_mix, [], []⟩
def m_law_mix (G : Tbl) : Ss :=
  (sSeq (sAsg false 3 (eBin .Mod (eBin .Mult (eVar 0) (eC (.int 48271))) (eVar 1)))
  (sRet (eBin .Mod (eBin .Mod (eBin .Mult (eVar 3) (eBin .Add (eVar 3) (eC (.int 7)))) (eVar 1)) (eVar 2))))
def f_law_mix : Df := ⟨"_law_mix", d_law_mix, ["cell", "prime", "many"], ["cell", "prime", "many", "blend"], [], [], m_law_mix, []⟩
abbrev s_law_rule : Stmt := top 30
def d_law_rule : He.DefD := ⟨("_law_rule", none), "_law_rule", "_law_rule", defArgs s_law_rule, defBody s_law_rule, defScope s_law_rule, [], []⟩
def m_law_rule (G : Tbl) : Ss :=
  (sSeq (sAsg false 2 (eCall G "_law_mix" [.e (eVar 0), .e (eC (.int 9973)), .e (eC (.int 10))]))
  (sSeq (sIf (eOr (eCmp .Lt (eVar 2) (eC (.int 4))) (eCmp .Eq (eVar 1) (eC (.int 1))))
  (sSeq (sIf (eCmp .Eq (eCall G "_law_mix" [.e (eVar 0), .e (eC (.int 9967)), .e (eC (.int 7))]) (eC (.int 0)))
  (sRet (eTup [(eC (.str "worth")), (eCall G "_law_mix" [.e (eVar 0), .e (eC (.int 9949)), .e (eC (.int 3))])]))
  sNil)
  (sRet (eTup [(eC (.str "look")), (eIdx (eC (.str "abcABCDEabc")) (eCall G "_law_mix" [.e (eVar 0), .e (eC (.int 9941)), .e (eC (.int 11))]))])))
  sNil)
  (sSeq (sIf (eCmp .Lt (eVar 2) (eC (.int 7)))
  (sSeq (sAsg false 3 (eIdx (eTup [(eC (.str "plus")), (eC (.str "times")), (eC (.str "same")), (eC (.str "least")), (eC (.str "most"))]) (eCall G "_law_mix" [.e (eVar 0), .e (eC (.int 9931)), .e (eC (.int 5))])))
  (sRet (eTup [(eVar 3), (eCall G "_law_rule" [.e (eBin .Add (eVar 0) (eC (.int 3))), .e (eBin .Sub (eVar 1) (eC (.int 1)))]), (eCall G "_law_rule" [.e (eBin .Add (eVar 0) (eC (.int 5))), .e (eBin .Sub (eVar 1) (eC (.int 1)))])])))
  sNil)
  (sRet (eTup [(eC (.str "if")), (eCall G "_law_rule" [.e (eBin .Add (eVar 0) (eC (.int 7))), .e (eBin .Sub (eVar 1) (eC (.int 1)))]), (eCall G "_law_rule" [.e (eBin .Add (eVar 0) (eC (.int 11))), .e (eBin .Sub (eVar 1) (eC (.int 1)))]), (eCall G "_law_rule" [.e (eBin .Add (eVar 0) (eC (.int 13))), .e (eBin .Sub (eVar 1) (eC (.int 1)))])])))))
def f_law_rule : Df := ⟨"_law_rule", d_law_rule, ["cell", "deep"], ["cell", "deep", "way", "word"], [], [], m_law_rule, []⟩
abbrev s_law_book : Stmt := top 31
def d_law_book : He.DefD := ⟨("_law_book", none), "_law_book", "_law_book", defArgs s_law_book, defBody s_law_book, defScope s_law_book, [], []⟩
def m_law_book (G : Tbl) : Ss :=
  (sSeq (sAsg true 1 (eLst []))
  (sSeq (sFor (.tup [2, 3]) (iOneP enmD (eC (.str "ABCDE")))
  (sIf (eCmp .Gt (eCall G "_law_mix" [.e (eBin .Add (eVar 0) (eBin .Mult (eC (.int 17)) (eVar 2))), .e (eC (.int 9929)), .e (eC (.int 6))]) (eC (.int 0)))
  (sSeq (sAsg false 4 (eCall G "_law_rule" [.e (eBin .Add (eBin .Add (eVar 0) (eBin .Mult (eC (.int 31)) (eVar 2))) (eC (.int 1))), .e (eC (.int 4))]))
  (sSeq (sIf (eCmp .Gt (eCall G "_law_mix" [.e (eVar 0), .e (eC (.int 9923)), .e (eC (.int 3))]) (eC (.int 0)))
  (sAsg false 4 (eCall G "_law_later" [.e (eVar 4), .e (eVar 2)]))
  sNil)
  (sApp (eVar 1) (eTup [(eVar 3), (eVar 4)]))))
  sNil))
  (sRet (eB1 .tuple (eVar 1)))))
def f_law_book : Df := ⟨"_law_book", d_law_book, ["cell"], ["cell", "found", "k", "name", "rule"], ["found"], [], m_law_book, []⟩
abbrev s_law_later : Stmt := top 32
def d_law_later : He.DefD := ⟨("_law_later", none), "_law_later", "_law_later", defArgs s_law_later, defBody s_law_later, defScope s_law_later, [], []⟩
def m_law_later (G : Tbl) : Ss :=
  (sSeq (sIf (eAnd (eCmp .Eq (eIdx (eVar 0) (eC (.int 0))) (eC (.str "look"))) (eCmp .In (eIdx (eVar 0) (eC (.int 1))) (eC (.str "ABCDE"))))
  (sRet (eTup [(eC (.str "look")), (eIdx (eIdx (eTup [(eC (.str "BCDEa")), (eC (.str "CDEab")), (eC (.str "DEabc")), (eC (.str "Eabca")), (eC (.str "abcab"))]) (eVar 1)) (eIndex (eC (.str "ABCDE")) (eIdx (eVar 0) (eC (.int 1)))))]))
  sNil)
  (sRet (eBin .Add (eSlc (eVar 0) none (some (eC (.int 1)))) (eB1 .tuple (eComp [2] (.name 2) (iOne itemsD (eSlc (eVar 0) (some (eC (.int 1))) none)) none (eIf (eTru (eIsi .tuple (eVar 2))) (eCall G "_law_later" [.e (eVar 2), .e (eVar 1)]) (eVar 2)))))))
def f_law_later : Df := ⟨"_law_later", d_law_later, ["rule", "k"], ["rule", "k", "part"], [], [], m_law_later, []⟩
abbrev s_law_worlds : Stmt := top 33
def d_law_worlds : He.DefD := ⟨("_law_worlds", none), "_law_worlds", "_law_worlds", defArgs s_law_worlds, defBody s_law_worlds, defScope s_law_worlds, [], []⟩
def m_law_worlds (G : Tbl) : Ss :=
  (sRet (eComp [0] (.name 0) (iOne rng1 (eC (.int 27))) none (eTup [(eBin .FloorDiv (eVar 0) (eC (.int 9))), (eBin .Mod (eBin .FloorDiv (eVar 0) (eC (.int 3))) (eC (.int 3))), (eBin .Mod (eVar 0) (eC (.int 3)))])))
def f_law_worlds : Df := ⟨"_law_worlds", d_law_worlds, [], ["number"], [], [], m_law_worlds, []⟩
def b_law_asked_1 (G : Tbl) : Ss :=
  (sSeq (sApp (eVar 2) (eIdx (eVar 0) (eC (.int 1))))
  (sAsg false 0 (eIdx (eIdx (eVar 0) (eC (.int 2))) (eIdx (eVar 1) (eIndex (eC (.str "abc")) (eIdx (eVar 0) (eC (.int 1))))))))
abbrev s_law_asked : Stmt := top 34
def d_law_asked : He.DefD := ⟨("_law_asked", none), "_law_asked", "_law_asked", defArgs s_law_asked, defBody s_law_asked, defScope s_law_asked, [], []⟩
def m_law_asked (G : Tbl) : Ss :=
  (sSeq (sAsg true 2 (eLst []))
  (sSeq (sWhile (eCmp .Eq (eIdx (eVar 0) (eC (.int 0))) (eC (.str "cell")))
  (b_law_asked_1 G))
  (sRet (eVar 2))))
def f_law_asked : Df := ⟨"_law_asked", d_law_asked, ["one", "world"], ["one", "world", "found"], ["found"], [], m_law_asked, []⟩
def b_law_3 (G : Tbl) : Ss :=
  (sSeq (sAsg false 10 (eCall G "_law_asked" [.e (eVar 5), .e (eVar 9)]))
  (sSeq (sIf (eOr (eCmp .NotEq (eCall G "sign_by" [.e (eVar 5), .e (eVar 9)]) (eIdx (eVar 6) (eVar 8))) (eOr (eCmp .NotEq (eCall G "sign_by" [.e (eVar 7), .e (eVar 9)]) (eIdx (eVar 6) (eVar 8))) (eCmp .NotEq (eLenSet (eVar 10)) (eB1 .len (eVar 10)))))
  (sRet (eC (.bl false)))
  sNil)
  (sIf (eCmp .NotEq (eSrtI (eBin .Add (eVar 10) (eB1 .list (eCall G "free" [.e (eVar 2), .e (eVar 9), .e (eVar 4)])))) (eLst [(eC (.str "a")), (eC (.str "b")), (eC (.str "c"))]))
  (sRet (eC (.bl false)))
  sNil)))
def b_law_2 (G : Tbl) : Ss :=
  (sSeq (sAsg false 5 (eCall G "tree" [.e (eVar 2), .e (eVar 4)]))
  (sSeq (sAsg false 6 (eCall G "table" [.e (eVar 2), .e (eVar 4)]))
  (sSeq (sAsg false 7 (eCall G "joined" [.e (eVar 5)]))
  (sSeq (sFor (.tup [8, 9]) (iOneP enmD (eCall G "_law_worlds" []))
  (b_law_3 G))
  (sSeq (sIf (eOr (eCmp .Gt (eCall G "deepest" [.e (eVar 7)]) (eCall G "deepest" [.e (eVar 5)])) (eOr (eCmp .Gt (eCall G "deepest" [.e (eVar 5)]) (eC (.int 3))) (eCmp .NotEq (eCall G "joined" [.e (eVar 7)]) (eVar 7))))
  (sRet (eC (.bl false)))
  sNil)
  (sSeq (sIf (eCmp .NotEq (eCmp .Eq (eCall G "deepest" [.e (eVar 7)]) (eC (.int 0))) (eCmp .Eq (eCall G "hangs_on" [.e (eVar 2), .e (eVar 4)]) (eTup [])))
  (sRet (eC (.bl false)))
  sNil)
  (sSeq (sAsg false 9 (eCall G "parting" [.e (eVar 2), .e (eVar 3), .e (eVar 4)]))
  (sSeq (sIf (eOr (eCmp .NotEq (eCmp .Is (eVar 9) (eC .non)) (eCmp .Eq (eCall G "table" [.e (eVar 3), .e (eVar 4)]) (eVar 6))) (eCmp .NotEq (eCall G "parting" [.e (eVar 3), .e (eVar 2), .e (eVar 4)]) (eVar 9)))
  (sRet (eC (.bl false)))
  sNil)
  (sIf (eCmp .IsNot (eVar 9) (eC .non))
  (sSeq (sAsg false 11 (eIndex (eCall G "_law_worlds" []) (eVar 9)))
  (sIf (eOr (eCmp .NotEq (eSlc (eCall G "table" [.e (eVar 3), .e (eVar 4)]) none (some (eVar 11))) (eSlc (eVar 6) none (some (eVar 11)))) (eCmp .Eq (eIdx (eCall G "table" [.e (eVar 3), .e (eVar 4)]) (eVar 11)) (eIdx (eVar 6) (eVar 11))))
  (sRet (eC (.bl false)))
  sNil))
  sNil)))))))))
def b_law_1 (G : Tbl) : Ss :=
  (sSeq (sAsg false 2 (eCall G "_law_book" [.e (eBin .Add (eCall G "_law_cell" [.e (eVar 0), .e (eVar 1)]) (eBin .Mult (eC (.int 3)) (eVar 1)))]))
  (sSeq (sAsg false 3 (eCall G "_law_book" [.e (eBin .Add (eCall G "_law_cell" [.e (eVar 0), .e (eC (.int 6))]) (eBin .Mult (eC (.int 5)) (eVar 1)))]))
  (sFor (.name 4) (iOneP itemsD (eC (.str "ABD")))
  (b_law_2 G))))
abbrev s_law : Stmt := top 35
def d_law : He.DefD := ⟨("law", none), "law", "law", defArgs s_law, defBody s_law, defScope s_law, [], []⟩
def m_law (G : Tbl) : Ss :=
  (sSeq (sFor (.name 1) (iOne rng1 (eC (.int 6)))
  (b_law_1 G))
  (sRet (eC (.bl true))))
def f_law : Df := ⟨"law", d_law, ["script"], ["script", "k", "book", "other", "name", "one", "signs", "less", "j", "world", "asked", "at"], [], [], m_law, ["some"]⟩
def ks : List (Str × Kc) := [("CELLS", (.str "abc")), ("WORTHS", (.tI [0, 1, 2]))]
def ld_0 : LamD := ⟨"Run.ask.<locals>.<lambda>", (lamAt (defBody s_Run_ask) 0).1, (lamAt (defBody s_Run_ask) 0).2.1, (lamAt (defBody s_Run_ask) 0).2.2, ["other"], ["here", "self"]⟩
def e_0 (G : Tbl) : Sm := (eMeth mlD G "look_from" (eVar 2) [.e (eVar 1), .e (eVar 0)])
def lm_0 : Lm := ⟨"lambda0", ld_0, ("Run", some "ask"), e_0⟩
def dfs : Tb := ⟨[f_of_two, f_worth_of, f_Run___init, f_Run_see, f_Run_ask, f_Run_look_from, f_run_of, f_all_worlds, f_sign_of, f_table, f_parting, f_with_cell, f_hangs_on, f_tree_from, f_tree, f_sign_by, f_deepest, f_joined, f_free, f_law_cell, f_law_mix, f_law_rule, f_law_book, f_law_later, f_law_worlds, f_law_asked, f_law], [lm_0]⟩
def pg : Pg := ⟨ks, dfs, ["Run"], [("Run", "Run.__init__", 3)], flD, ["LookError", "NoAsk", "Ring"], [("LookError", ["LookError", "NoAsk", "Ring"])], none⟩
theorem wd_ok : ∀ d q, pg.wd = some (d, q) → WDef d q := fun d q h => by cases h
theorem pg_ok : pg.ok = true := by kernel_rfl
theorem ok_of_two : DfOk pg.M f_of_two := ⟨⟨rfl, rfl, rfl, by decide +kernel, rfl, by decide +kernel, by decide +kernel⟩, fun G => by kernel_rfl, fun _ _ _ _ _ _ us hl => match us, hl with | [_, _, _], _ => rfl, rfl, rfl⟩
theorem ok_worth_of : DfOk pg.M f_worth_of := ⟨⟨rfl, rfl, rfl, by decide +kernel, rfl, by decide +kernel, by decide +kernel⟩, fun G => by kernel_rfl, fun _ _ _ _ _ _ us hl => match us, hl with | [_, _], _ => rfl, rfl, rfl⟩
theorem ok_Run___init : DfOk pg.M f_Run___init := ⟨⟨rfl, rfl, rfl, by decide +kernel, rfl, by decide +kernel, by decide +kernel⟩, fun G => by kernel_rfl, fun _ _ _ _ _ _ us hl => match us, hl with | [_, _, _], _ => rfl, rfl, rfl⟩
theorem ok_Run_see : DfOk pg.M f_Run_see := ⟨⟨rfl, rfl, rfl, by decide +kernel, rfl, by decide +kernel, by decide +kernel⟩, fun G => by kernel_rfl, fun _ _ _ _ _ _ us hl => match us, hl with | [_, _], _ => rfl, rfl, rfl⟩
theorem ok_Run_ask : DfOk pg.M f_Run_ask := ⟨⟨rfl, rfl, rfl, by decide +kernel, rfl, by decide +kernel, by decide +kernel⟩, fun G => by kernel_rfl, fun _ _ _ _ _ _ us hl => match us, hl with | [_, _], _ => rfl, rfl, rfl⟩
theorem ok_Run_look_from : DfOk pg.M f_Run_look_from := ⟨⟨rfl, rfl, rfl, by decide +kernel, rfl, by decide +kernel, by decide +kernel⟩, fun G => by kernel_rfl, fun _ _ _ _ _ _ us hl => match us, hl with | [_, _, _], _ => rfl, rfl, rfl⟩
theorem ok_run_of : DfOk pg.M f_run_of := ⟨⟨rfl, rfl, rfl, by decide +kernel, rfl, by decide +kernel, by decide +kernel⟩, fun G => by kernel_rfl, fun _ _ _ _ _ _ us hl => match us, hl with | [_, _, _], _ => rfl, rfl, rfl⟩
theorem ok_all_worlds : DfOk pg.M f_all_worlds := ⟨⟨rfl, rfl, rfl, by decide +kernel, rfl, by decide +kernel, by decide +kernel⟩, fun G => by kernel_rfl, fun _ _ _ _ _ _ us hl => match us, hl with | [], _ => rfl, rfl, rfl⟩
theorem ok_sign_of : DfOk pg.M f_sign_of := ⟨⟨rfl, rfl, rfl, by decide +kernel, rfl, by decide +kernel, by decide +kernel⟩, fun G => by kernel_rfl, fun _ _ _ _ _ _ us hl => match us, hl with | [_, _, _], _ => rfl, rfl, rfl⟩
theorem ok_table : DfOk pg.M f_table := ⟨⟨rfl, rfl, rfl, by decide +kernel, rfl, by decide +kernel, by decide +kernel⟩, fun G => by kernel_rfl, fun _ _ _ _ _ _ us hl => match us, hl with | [_, _], _ => rfl, rfl, rfl⟩
theorem ok_parting : DfOk pg.M f_parting := ⟨⟨rfl, rfl, rfl, by decide +kernel, rfl, by decide +kernel, by decide +kernel⟩, fun G => by kernel_rfl, fun _ _ _ _ _ _ us hl => match us, hl with | [_, _, _], _ => rfl, rfl, rfl⟩
theorem ok_with_cell : DfOk pg.M f_with_cell := ⟨⟨rfl, rfl, rfl, by decide +kernel, rfl, by decide +kernel, by decide +kernel⟩, fun G => by kernel_rfl, fun _ _ _ _ _ _ us hl => match us, hl with | [_, _, _], _ => rfl, rfl, rfl⟩
theorem ok_hangs_on : DfOk pg.M f_hangs_on := ⟨⟨rfl, rfl, rfl, by decide +kernel, rfl, by decide +kernel, by decide +kernel⟩, fun G => by kernel_rfl, fun _ _ _ _ _ _ us hl => match us, hl with | [_, _], _ => rfl, rfl, rfl⟩
theorem ok_tree_from : DfOk pg.M f_tree_from := ⟨⟨rfl, rfl, rfl, by decide +kernel, rfl, by decide +kernel, by decide +kernel⟩, fun G => by kernel_rfl, fun _ _ _ _ _ _ us hl => match us, hl with | [_, _, _, _], _ => rfl, rfl, rfl⟩
theorem ok_tree : DfOk pg.M f_tree := ⟨⟨rfl, rfl, rfl, by decide +kernel, rfl, by decide +kernel, by decide +kernel⟩, fun G => by kernel_rfl, fun _ _ _ _ _ _ us hl => match us, hl with | [_, _], _ => rfl, rfl, rfl⟩
theorem ok_sign_by : DfOk pg.M f_sign_by := ⟨⟨rfl, rfl, rfl, by decide +kernel, rfl, by decide +kernel, by decide +kernel⟩, fun G => by kernel_rfl, fun _ _ _ _ _ _ us hl => match us, hl with | [_, _], _ => rfl, rfl, rfl⟩
theorem ok_deepest : DfOk pg.M f_deepest := ⟨⟨rfl, rfl, rfl, by decide +kernel, rfl, by decide +kernel, by decide +kernel⟩, fun G => by kernel_rfl, fun _ _ _ _ _ _ us hl => match us, hl with | [_], _ => rfl, rfl, rfl⟩
theorem ok_joined : DfOk pg.M f_joined := ⟨⟨rfl, rfl, rfl, by decide +kernel, rfl, by decide +kernel, by decide +kernel⟩, fun G => by kernel_rfl, fun _ _ _ _ _ _ us hl => match us, hl with | [_], _ => rfl, rfl, rfl⟩
theorem ok_free : DfOk pg.M f_free := ⟨⟨rfl, rfl, rfl, by decide +kernel, rfl, by decide +kernel, by decide +kernel⟩, fun G => by kernel_rfl, fun _ _ _ _ _ _ us hl => match us, hl with | [_, _, _], _ => rfl, rfl, rfl⟩
theorem ok_law_cell : DfOk pg.M f_law_cell := ⟨⟨rfl, rfl, rfl, by decide +kernel, rfl, by decide +kernel, by decide +kernel⟩, fun G => by kernel_rfl, fun _ _ _ _ _ _ us hl => match us, hl with | [_, _], _ => rfl, rfl, rfl⟩
theorem ok_law_mix : DfOk pg.M f_law_mix := ⟨⟨rfl, rfl, rfl, by decide +kernel, rfl, by decide +kernel, by decide +kernel⟩, fun G => by kernel_rfl, fun _ _ _ _ _ _ us hl => match us, hl with | [_, _, _], _ => rfl, rfl, rfl⟩
theorem ok_law_rule : DfOk pg.M f_law_rule := ⟨⟨rfl, rfl, rfl, by decide +kernel, rfl, by decide +kernel, by decide +kernel⟩, fun G => by kernel_rfl, fun _ _ _ _ _ _ us hl => match us, hl with | [_, _], _ => rfl, rfl, rfl⟩
theorem ok_law_book : DfOk pg.M f_law_book := ⟨⟨rfl, rfl, rfl, by decide +kernel, rfl, by decide +kernel, by decide +kernel⟩, fun G => by kernel_rfl, fun _ _ _ _ _ _ us hl => match us, hl with | [_], _ => rfl, rfl, rfl⟩
theorem ok_law_later : DfOk pg.M f_law_later := ⟨⟨rfl, rfl, rfl, by decide +kernel, rfl, by decide +kernel, by decide +kernel⟩, fun G => by kernel_rfl, fun _ _ _ _ _ _ us hl => match us, hl with | [_, _], _ => rfl, rfl, rfl⟩
theorem ok_law_worlds : DfOk pg.M f_law_worlds := ⟨⟨rfl, rfl, rfl, by decide +kernel, rfl, by decide +kernel, by decide +kernel⟩, fun G => by kernel_rfl, fun _ _ _ _ _ _ us hl => match us, hl with | [], _ => rfl, rfl, rfl⟩
theorem ok_law_asked : DfOk pg.M f_law_asked := ⟨⟨rfl, rfl, rfl, by decide +kernel, rfl, by decide +kernel, by decide +kernel⟩, fun G => by kernel_rfl, fun _ _ _ _ _ _ us hl => match us, hl with | [_, _], _ => rfl, rfl, rfl⟩
theorem ok_law : DfOk pg.M f_law := ⟨⟨rfl, rfl, rfl, by decide +kernel, rfl, by decide +kernel, by decide +kernel⟩, fun G => by kernel_rfl, fun _ _ _ _ _ _ us hl => match us, hl with | [_], _ => rfl, rfl, rfl⟩
theorem t_of_two (k : Nat) (ds : List D) (st : Sto) : tbl dfs (k + 1) "of_two" ds st = fnR 3 (m_of_two (tbl dfs k)) ds st := by kernel_rfl
theorem t_worth_of (k : Nat) (ds : List D) (st : Sto) : tbl dfs (k + 1) "worth_of" ds st = fnR 4 (m_worth_of (tbl dfs k)) ds st := by kernel_rfl
theorem t_Run___init (k : Nat) (ds : List D) (st : Sto) : tbl dfs (k + 1) "Run.__init__" ds st = fnR 3 (m_Run___init (tbl dfs k)) ds st := by kernel_rfl
theorem t_Run_see (k : Nat) (ds : List D) (st : Sto) : tbl dfs (k + 1) "Run.see" ds st = fnR 2 (m_Run_see (tbl dfs k)) ds st := by kernel_rfl
theorem t_Run_ask (k : Nat) (ds : List D) (st : Sto) : tbl dfs (k + 1) "Run.ask" ds st = fnR 4 (m_Run_ask (tbl dfs k)) ds st := by kernel_rfl
theorem t_Run_look_from (k : Nat) (ds : List D) (st : Sto) : tbl dfs (k + 1) "Run.look_from" ds st = fnR 3 (m_Run_look_from (tbl dfs k)) ds st := by kernel_rfl
theorem t_run_of (k : Nat) (ds : List D) (st : Sto) : tbl dfs (k + 1) "run_of" ds st = fnR 5 (m_run_of (tbl dfs k)) ds st := by kernel_rfl
theorem t_all_worlds (k : Nat) (ds : List D) (st : Sto) : tbl dfs (k + 1) "all_worlds" ds st = fnR 4 (m_all_worlds (tbl dfs k)) ds st := by kernel_rfl
theorem t_sign_of (k : Nat) (ds : List D) (st : Sto) : tbl dfs (k + 1) "sign_of" ds st = fnR 3 (m_sign_of (tbl dfs k)) ds st := by kernel_rfl
theorem t_table (k : Nat) (ds : List D) (st : Sto) : tbl dfs (k + 1) "table" ds st = fnR 3 (m_table (tbl dfs k)) ds st := by kernel_rfl
theorem t_parting (k : Nat) (ds : List D) (st : Sto) : tbl dfs (k + 1) "parting" ds st = fnR 4 (m_parting (tbl dfs k)) ds st := by kernel_rfl
theorem t_with_cell (k : Nat) (ds : List D) (st : Sto) : tbl dfs (k + 1) "with_cell" ds st = fnR 3 (m_with_cell (tbl dfs k)) ds st := by kernel_rfl
theorem t_hangs_on (k : Nat) (ds : List D) (st : Sto) : tbl dfs (k + 1) "hangs_on" ds st = fnR 7 (m_hangs_on (tbl dfs k)) ds st := by kernel_rfl
theorem t_tree_from (k : Nat) (ds : List D) (st : Sto) : tbl dfs (k + 1) "tree_from" ds st = fnR 11 (m_tree_from (tbl dfs k)) ds st := by kernel_rfl
theorem t_tree (k : Nat) (ds : List D) (st : Sto) : tbl dfs (k + 1) "tree" ds st = fnR 2 (m_tree (tbl dfs k)) ds st := by kernel_rfl
theorem t_sign_by (k : Nat) (ds : List D) (st : Sto) : tbl dfs (k + 1) "sign_by" ds st = fnR 2 (m_sign_by (tbl dfs k)) ds st := by kernel_rfl
theorem t_deepest (k : Nat) (ds : List D) (st : Sto) : tbl dfs (k + 1) "deepest" ds st = fnR 2 (m_deepest (tbl dfs k)) ds st := by kernel_rfl
theorem t_joined (k : Nat) (ds : List D) (st : Sto) : tbl dfs (k + 1) "joined" ds st = fnR 3 (m_joined (tbl dfs k)) ds st := by kernel_rfl
theorem t_free (k : Nat) (ds : List D) (st : Sto) : tbl dfs (k + 1) "free" ds st = fnR 5 (m_free (tbl dfs k)) ds st := by kernel_rfl
theorem t_law_cell (k : Nat) (ds : List D) (st : Sto) : tbl dfs (k + 1) "_law_cell" ds st = fnR 2 (m_law_cell (tbl dfs k)) ds st := by kernel_rfl
theorem t_law_mix (k : Nat) (ds : List D) (st : Sto) : tbl dfs (k + 1) "_law_mix" ds st = fnR 4 (m_law_mix (tbl dfs k)) ds st := by kernel_rfl
theorem t_law_rule (k : Nat) (ds : List D) (st : Sto) : tbl dfs (k + 1) "_law_rule" ds st = fnR 4 (m_law_rule (tbl dfs k)) ds st := by kernel_rfl
theorem t_law_book (k : Nat) (ds : List D) (st : Sto) : tbl dfs (k + 1) "_law_book" ds st = fnR 5 (m_law_book (tbl dfs k)) ds st := by kernel_rfl
theorem t_law_later (k : Nat) (ds : List D) (st : Sto) : tbl dfs (k + 1) "_law_later" ds st = fnR 3 (m_law_later (tbl dfs k)) ds st := by kernel_rfl
theorem t_law_worlds (k : Nat) (ds : List D) (st : Sto) : tbl dfs (k + 1) "_law_worlds" ds st = fnR 1 (m_law_worlds (tbl dfs k)) ds st := by kernel_rfl
theorem t_law_asked (k : Nat) (ds : List D) (st : Sto) : tbl dfs (k + 1) "_law_asked" ds st = fnR 3 (m_law_asked (tbl dfs k)) ds st := by kernel_rfl
theorem t_law (k : Nat) (ds : List D) (st : Sto) : tbl dfs (k + 1) "law" ds st = fnR 12 (m_law (tbl dfs k)) ds st := by kernel_rfl
theorem okl_0 : LmOk pg.M lm_0 := ⟨NdefX.nscope_by (by kernel_rfl), fun G => by kernel_rfl, fun _ _ _ _ us hl => match us, hl with | [_], _ => rfl, rfl⟩
theorem tl_0 (k : Nat) (ds : List D) (st : Sto) : tbl dfs (k + 1) "lambda0" ds st = fnR 3 (sRet (e_0 (tbl dfs k))) ds st := by kernel_rfl
theorem okl_all : ∀ lm ∈ pg.lms, LmOk pg.M lm := by
  intro df h
  change df ∈ dfs.lms at h
  simp only [dfs, List.mem_cons, List.not_mem_nil, or_false] at h
  rcases h with rfl
  · exact okl_0
theorem ok_all : ∀ df ∈ pg.dfs, DfOk pg.M df := by
  intro df h
  change df ∈ dfs.dfs at h
  simp only [dfs, List.mem_cons, List.not_mem_nil, or_false] at h
  rcases h with rfl | rfl | rfl | rfl | rfl | rfl | rfl | rfl | rfl | rfl | rfl | rfl | rfl | rfl | rfl | rfl | rfl | rfl | rfl | rfl | rfl | rfl | rfl | rfl | rfl | rfl | rfl
  · exact ok_of_two
  · exact ok_worth_of
  · exact ok_Run___init
  · exact ok_Run_see
  · exact ok_Run_ask
  · exact ok_Run_look_from
  · exact ok_run_of
  · exact ok_all_worlds
  · exact ok_sign_of
  · exact ok_table
  · exact ok_parting
  · exact ok_with_cell
  · exact ok_hangs_on
  · exact ok_tree_from
  · exact ok_tree
  · exact ok_sign_by
  · exact ok_deepest
  · exact ok_joined
  · exact ok_free
  · exact ok_law_cell
  · exact ok_law_mix
  · exact ok_law_rule
  · exact ok_law_book
  · exact ok_law_later
  · exact ok_law_worlds
  · exact ok_law_asked
  · exact ok_law
end KW
namespace KW
open PySem L2 KL KU

/-! ### texts by their signs, sizes -/
def S (l : List Nat) : Str := ⟨l.toArray⟩
@[simp] theorem S_len (l : List Nat) : (S l).length = l.length := by simp [S, Str.length]
@[simp] theorem S_cps (l : List Nat) : (S l).cps.toList = l := by simp [S]
theorem app_cps' {x y : Str} : (x ++ y).cps.toList = x.cps.toList ++ y.cps.toList := by
  show (x.cps ++ y.cps).toList = _
  simp
theorem S_app (a b : List Nat) : S a ++ S b = S (a ++ b) := str_ext (by rw [app_cps']; simp)
@[simp] theorem S_inj {a b : List Nat} : S a = S b ↔ a = b := ⟨fun h => by have := congrArg (fun x => x.cps.toList) h; simpa using this, fun h => by rw [h]⟩
theorem S_of (x : Str) : S x.cps.toList = x := str_ext (by simp)
theorem len_cps (x : Str) : x.length = x.cps.toList.length := by simp [Str.length]
theorem sz {n : Nat} (h : n ≤ 1000) : n ≤ sizeLine := by rw [sizeLine_eq]; omega
theorem szB {n : Nat} (h : n ≤ 1000000) : n ≤ sizeLine := by rw [sizeLine_eq]; omega
theorem szL {n : Nat} (h : n ≤ 1000) : n < sizeLine := by rw [sizeLine_eq]; omega
theorem in_one {st : Sto} {x ns : Str} {c : Nat} (h : x.cps.toList = [c]) : inD st (.str x) (.str ns) = some (decide (c ∈ ns.cps.toList)) := by
  simp only [inD, h]
theorem at_mem {α : Type} {xs : List α} {i : Int} (h0 : 0 ≤ i) (h1 : i < xs.length) : ∃ x, atI xs i = some x ∧ x ∈ xs := by
  rw [atI_of xs h0]
  have h : i.toNat < xs.length := by omega
  exact ⟨xs[i.toNat], List.getElem?_eq_getElem h, List.getElem_mem h⟩
theorem wl : ("look" : Str) ≠ "worth" := by decide
theorem fw : ("if" : Str) ≠ "worth" := by decide
theorem fl : ("if" : Str) ≠ "look" := by decide
/-! ### rules -/
def isTwo (w : Str) : Bool := decide (w = "plus") || decide (w = "times") || decide (w = "same") || decide (w = "least") || decide (w = "most")
theorem two_cases {w : Str} (h : isTwo w = true) : w = "plus" ∨ w = "times" ∨ w = "same" ∨ w = "least" ∨ w = "most" := by
  unfold isTwo at h
  simpa [or_assoc] using h
theorem two_ne {w : Str} (hw : isTwo w = true) : w ≠ "worth" ∧ w ≠ "look" ∧ w ≠ "if" := by
  rcases two_cases hw with h | h | h | h | h <;> subst h <;> decide +kernel
inductive Ru where
  | w (i : Int) | l (c : Nat) | two (o : Str) (a b : Ru) | iff (t a b : Ru)
def Ru.d : Ru → D
  | .w i => .tup [.str "worth", .int i]
  | .l c => .tup [.str "look", .str (S [c])]
  | .two o a b => .tup [.str o, a.d, b.d]
  | .iff t a b => .tup [.str "if", t.d, a.d, b.d]
def ab8 : List Nat := [97, 98, 99, 65, 66, 67, 68, 69]
theorem ab8_eq : ("abcABCDE" : Str).cps.toList = ab8 := by kernel_rfl
def Ru.ok : Nat → Ru → Prop
  | 0, _ => False
  | _ + 1, .w i => i = 0 ∨ i = 1 ∨ i = 2
  | _ + 1, .l c => c ∈ ab8
  | n + 1, .two o a b => isTwo o = true ∧ a.ok n ∧ b.ok n
  | n + 1, .iff t a b => t.ok n ∧ a.ok n ∧ b.ok n
theorem ok_up : ∀ {n m : Nat} {r : Ru}, n ≤ m → r.ok n → r.ok m
  | 0, _, _, _, h => h.elim
  | n + 1, 0, _, h, _ => by omega
  | n + 1, m + 1, .w _, _, h => h
  | n + 1, m + 1, .l _, _, h => h
  | n + 1, m + 1, .two _ _ _, hm, h => ⟨h.1, ok_up (by omega) h.2.1, ok_up (by omega) h.2.2⟩
  | n + 1, m + 1, .iff _ _ _, hm, h => ⟨ok_up (by omega) h.1, ok_up (by omega) h.2.1, ok_up (by omega) h.2.2⟩
theorem ru_tup (r : Ru) : ∃ ds, r.d = .tup ds := by cases r <;> exact ⟨_, rfl⟩
@[simp] theorem ru_cell (r : Ru) : cellD r.d = .val r.d := by cases r <;> rfl
@[simp] theorem ru_view (r : Ru) (rh : Rho) (st : Sto) : view rh st (.d r.d) = some r.d := by cases r <;> rfl
@[simp] theorem ru_below (n : Nat) : ∀ r : Ru, below n r.d = true
  | .w _ => rfl
  | .l _ => rfl
  | .two o a b => by simp [Ru.d, below, belows, ru_below n a, ru_below n b]
  | .iff t a b => by simp [Ru.d, below, belows, ru_below n t, ru_below n a, ru_below n b]
/-! ### books -/
abbrev Bk := List (Nat × Ru)
def entD (p : Nat × Ru) : D := .tup [.str (S [p.1]), p.2.d]
def bkD (es : Bk) : D := .tup (es.map entD)
structure BkOk (es : Bk) : Prop where
  nm : (es.map (·.1)).Sublist [65, 66, 67, 68, 69]
  ru : ∀ p ∈ es, p.2.ok 4
theorem BkOk.len {es : Bk} (h : BkOk es) : es.length ≤ 5 := by have := h.nm.length_le; simpa using this
theorem BkOk.name {es : Bk} (h : BkOk es) {p : Nat × Ru} (hp : p ∈ es) : p.1 ∈ [65, 66, 67, 68, 69] := h.nm.subset (List.mem_map.mpr ⟨p, hp, rfl⟩)
theorem BkOk.one {es : Bk} (h : BkOk es) {p : Nat × Ru} (hp : p ∈ es) : BkOk [p] := ⟨List.singleton_sublist.mpr (h.name hp), fun q hq => by rw [List.mem_singleton.mp hq]; exact h.ru p hp⟩
theorem BkOk.nil : BkOk [] := ⟨List.nil_sublist _, fun p hp => by cases hp⟩
theorem BkOk.nodup {es : Bk} (h : BkOk es) : (es.map (·.1)).Nodup := List.Nodup.sublist h.nm (by decide)
theorem BkOk.filter {es : Bk} (h : BkOk es) (p : Nat × Ru → Bool) : BkOk (es.filter p) := ⟨(List.filter_sublist.map _).trans h.nm, fun q hq => h.ru q (List.mem_filter.mp hq).1⟩
@[simp] theorem bk_cell (es : Bk) : cellD (bkD es) = .val (bkD es) := rfl
@[simp] theorem bk_view (es : Bk) (rh : Rho) (st : Sto) : view rh st (.d (bkD es)) = some (bkD es) := rfl
@[simp] theorem ent_view (p : Nat × Ru) (rh : Rho) (st : Sto) : view rh st (.d (entD p)) = some (entD p) := rfl
@[simp] theorem bk_items (es : Bk) : itemsD (bkD es) = some (es.map entD) := rfl
@[simp] theorem bk_notLoc (es : Bk) : notLoc (.d (bkD es)) = true := rfl
theorem belows_map {α : Type} (n : Nat) (f : α → D) (h : ∀ a, below n (f a) = true) : ∀ xs : List α, belows n (xs.map f) = true
  | [] => rfl
  | x :: xs => by simp [belows, h x, belows_map n f h xs]
theorem belowF_map {α κ : Type} (n : Nat) (f : α → κ × D) (h : ∀ a, below n (f a).2 = true) : ∀ xs : List α, belowF n (xs.map f) = true
  | [] => rfl
  | x :: xs => by simp [belowF, h x, belowF_map n f h xs]
@[simp] theorem ent_below (n : Nat) (p : Nat × Ru) : below n (entD p) = true := by simp [entD, below, belows]
@[simp] theorem bk_below (n : Nat) (es : Bk) : below n (bkD es) = true := belows_map n _ (ent_below n) es
/-! ### worlds -/
structure Wd where
  a : Int
  b : Int
  c : Int
def Wd.ok (w : Wd) : Prop := (w.a = 0 ∨ w.a = 1 ∨ w.a = 2) ∧ (w.b = 0 ∨ w.b = 1 ∨ w.b = 2) ∧ (w.c = 0 ∨ w.c = 1 ∨ w.c = 2)
def wdD (w : Wd) : D := .tup [.int w.a, .int w.b, .int w.c]
@[simp] theorem wd_cell (w : Wd) : cellD (wdD w) = .val (wdD w) := rfl
@[simp] theorem wd_view (w : Wd) (rh : Rho) (st : Sto) : view rh st (.d (wdD w)) = some (wdD w) := rfl
@[simp] theorem wd_below (n : Nat) (w : Wd) : below n (wdD w) = true := rfl
def Wd.at (w : Wd) (c : Nat) : Int := if c = 97 then w.a else if c = 98 then w.b else w.c
/-! ### the same, data -/
def smD : Nat → D → Bool
  | _, .int _ => true
  | _, .str _ => true
  | _, .non => true
  | _, .bl _ => true
  | n + 1, .tup ds => decide (ds.length ≤ 1000) && ds.all (smD n)
  | _, _ => false
theorem sm_cell : ∀ {n : Nat} {d : D}, smD n d = true → cellD d = .val d := fun {n d} h => by
  cases d with
  | clo t cs => cases n <;> cases h
  | _ => rfl
theorem sm_view : ∀ {n : Nat} {d : D}, smD n d = true → ∀ rh st, view rh st (.d d) = some d := fun {n d} h rh st => by
  cases d with
  | loc k => cases n <;> cases h
  | _ => rfl
theorem sm_up : ∀ {n m : Nat} {d : D}, n ≤ m → smD n d = true → smD m d = true
  | n, m, .int _, _, _ => by cases m <;> rfl
  | n, m, .str _, _, _ => by cases m <;> rfl
  | n, m, .non, _, _ => by cases m <;> rfl
  | n, m, .bl _, _, _ => by cases m <;> rfl
  | 0, m, .tup ds, _, h => by cases h
  | n + 1, 0, .tup ds, h, _ => by omega
  | n + 1, m + 1, .tup ds, hm, h => by
    simp only [smD, Bool.and_eq_true, decide_eq_true_eq, List.all_eq_true] at h ⊢
    exact ⟨h.1, fun d hd => sm_up (by omega) (h.2 d hd)⟩
  | n, _, .lst _, _, h => by cases n <;> cases h
  | n, _, .loc _, _, h => by cases n <;> cases h
  | n, _, .scr _, _, h => by cases n <;> cases h
  | n, _, .clo _ _, _, h => by cases n <;> cases h
  | n, _, .raw _, _, h => by cases n <;> cases h
theorem sm_ru : ∀ {n : Nat} {r : Ru}, r.ok n → smD n r.d = true
  | 0, _, h => h.elim
  | n + 1, .w i, h => by cases n <;> rfl
  | n + 1, .l c, h => by cases n <;> rfl
  | n + 1, .two o a b, h => by
    have e : smD n (.str o) = true := by cases n <;> rfl
    simp [Ru.d, smD, e, sm_ru h.2.1, sm_ru h.2.2]
  | n + 1, .iff t a b, h => by
    have e : smD n (.str "if") = true := by cases n <;> rfl
    simp [Ru.d, smD, e, sm_ru h.1, sm_ru h.2.1, sm_ru h.2.2]
theorem sm_bk {es : Bk} (h : BkOk es) : smD 6 (bkD es) = true := by
  have h5 := h.len
  simp only [bkD, smD, Bool.and_eq_true, decide_eq_true_eq, List.all_eq_true, List.length_map]
  refine ⟨by omega, fun d hd => ?_⟩
  obtain ⟨p, hp, rfl⟩ := List.mem_map.mp hd
  have := sm_ru (h.ru p hp)
  simp [entD, smD, this]
theorem zip_self : ∀ xs : List D, zipTup xs xs = xs.map fun x => .raw [x, x]
  | [] => rfl
  | x :: xs => by simp [zipTup, zip_self xs]
/-! ### stores: all that is named is there -/
def Fit (st : Sto) : Prop := ∀ o ∈ st, belowO st.length o = true
mutual
theorem below_up {n m : Nat} (h : n ≤ m) : ∀ {d : D}, below n d = true → below m d = true
  | .tup ds, q => belows_up h q
  | .lst ds, q => belows_up h q
  | .raw ds, q => belows_up h q
  | .loc k, q => by simp only [below, decide_eq_true_eq] at q ⊢; omega
  | .clo _ _, q => by cases q
  | .non, _ => rfl
  | .bl _, _ => rfl
  | .int _, _ => rfl
  | .str _, _ => rfl
  | .scr _, _ => rfl
theorem belows_up {n m : Nat} (h : n ≤ m) : ∀ {ds : List D}, belows n ds = true → belows m ds = true
  | [], _ => rfl
  | d :: ds, q => by
    simp only [belows, Bool.and_eq_true] at q ⊢
    exact ⟨below_up h q.1, belows_up h q.2⟩
end
theorem belowF_up {κ : Type} {n m : Nat} (h : n ≤ m) : ∀ {ds : List (κ × D)}, belowF n ds = true → belowF m ds = true
  | [], _ => rfl
  | d :: ds, q => by
    simp only [belowF, Bool.and_eq_true] at q ⊢
    exact ⟨below_up h q.1, belowF_up h q.2⟩
theorem belowO_up {n m : Nat} (h : n ≤ m) : ∀ {o : O}, belowO n o = true → belowO m o = true
  | .lst ds, q => belows_up h q
  | .dct _ kvs, q => belowF_up (n := n) (ds := kvs) h q
  | .dcT _ kvs, q => belowF_up (n := n) (ds := kvs) h q
  | .lsk ds, q => belows_up h q
  | .ins _ fs, q => belowF_up (n := n) (ds := fs) h q
theorem Fit.app {st : Sto} (h : Fit st) {os : List O} (ho : ∀ o ∈ os, belowO (st.length + os.length) o = true) : Fit (st ++ os) := fun o hm => by
  rw [List.length_append]
  rcases List.mem_append.mp hm with q | q
  · exact belowO_up (by omega) (h o q)
  · exact ho o q
theorem Fit.nil : Fit [] := fun o h => by cases h
/-- behind a def: what it made is let go -/
theorem cut_app {n : Nat} {d : D} {st os : List O} (hn : st.length = n) (hd : below n d = true) (hf : ∀ o ∈ st, belowO n o = true) : cut n d (st ++ os) = st := by
  unfold cut
  by_cases h : (st ++ os).length ≤ n
  · rw [if_pos h]
    rw [List.length_append] at h
    have : os = [] := List.length_eq_zero_iff.mp (by omega)
    rw [this, List.append_nil]
  · rw [if_neg h]
    have e : (st ++ os).take n = st := by rw [← hn, List.take_left]
    rw [e, hd]
    have : st.all (belowO n) = true := List.all_eq_true.mpr hf
    rw [this]
    rfl
theorem cut_le {n : Nat} {d : D} {st : List O} (hn : st.length ≤ n) : cut n d st = st := by unfold cut; rw [if_pos hn]
theorem cut_ref {n : Nat} {d : D} {st : List O} (hd : below n d = false) : cut n d st = st := by unfold cut; rw [hd]; simp
end KW

namespace KW
open PySem L2 KL KU

/-! ### what the law draws -/
def mixZ (c p m : Int) : Int := (c * 48271 % p) * (c * 48271 % p + 7) % p % m
theorem mixZ_lt (c p m : Int) (h : 0 < m) : 0 ≤ mixZ c p m ∧ mixZ c p m < m := ⟨Int.emod_nonneg _ (by omega), Int.emod_lt_of_pos _ h⟩
theorem r_mix (k : Nat) (c p m : Int) (st : Sto) (hp : 0 < p ∧ p < 100000) (hm : 0 < m) : tbl dfs (k + 1) "_law_mix" [.int c, .int p, .int m] st = .ok (.int (mixZ c p m)) st := by
  rw [t_law_mix]
  have h1 : 0 ≤ c * 48271 % p := Int.emod_nonneg _ (by omega)
  have h2 : c * 48271 % p < p := Int.emod_lt_of_pos _ hp.1
  have m1 := bin_mul_r (i := c) (j := 48271) (by decide)
  have m2 := bin_mul_l (i := c * 48271 % p) (j := c * 48271 % p + 7) (by omega)
  have d1 := fun i => bin_mod (i := i) hp.1
  have d2 := fun i => bin_mod (i := i) hm
  simp [fnR, rho0, m_law_mix, m1, m2, d1, d2, mixZ]
theorem r_cell (k : Nat) (ns : List Int) (j : Int) (st : Sto) (hj : 0 ≤ j) : ∃ c, tbl dfs (k + 1) "_law_cell" [.scr ns, .int j] st = .ok (.int c) st := by
  rw [t_law_cell]
  by_cases h : j < ns.length
  · obtain ⟨c, e, _⟩ := at_mem hj h
    exact ⟨c, by simp [fnR, rho0, m_law_cell, h, e]⟩
  · exact ⟨0, by simp [fnR, rho0, m_law_cell, h]⟩
theorem r_lawrule (st : Sto) : ∀ (n k : Nat) (c : Int) (i : Int), i = n + 1 → ∃ r : Ru, r.ok (n + 1) ∧ tbl dfs (k + n + 2) "_law_rule" [.int c, .int i] st = .ok r.d st
  | n, k, c, i, hi => by
    rw [show k + n + 2 = (k + n + 1) + 1 from rfl, t_law_rule]
    have m1 := r_mix (k + n) c 9973 10 st (by decide) (by decide)
    have m2 := r_mix (k + n) c 9967 7 st (by decide) (by decide)
    have m3 := r_mix (k + n) c 9949 3 st (by decide) (by decide)
    have m4 := r_mix (k + n) c 9941 11 st (by decide) (by decide)
    have m5 := r_mix (k + n) c 9931 5 st (by decide) (by decide)
    have b3 := mixZ_lt c 9949 3 (by decide)
    have b4 := mixZ_lt c 9941 11 (by decide)
    have b5 := mixZ_lt c 9931 5 (by decide)
    have hs : ("abcABCDEabc" : Str).length ≤ sizeLine := by decide
    have l11 : ("abcABCDEabc" : Str).cps.toList.length = 11 := by decide +kernel
    obtain ⟨x4, e4, mem4⟩ := at_mem (xs := ("abcABCDEabc" : Str).cps.toList) b4.1 (by omega)
    have mem4' : x4 ∈ ab8 := by
      have all : ∀ c ∈ ("abcABCDEabc" : Str).cps.toList, c ∈ ab8 := by decide +kernel
      exact all x4 mem4
    obtain ⟨x5, e5, mem5⟩ := at_mem (xs := [D.str "plus", .str "times", .str "same", .str "least", .str "most"]) b5.1 b5.2
    have hix := idx_str (st := st) (i := mixZ c 9941 11) hs
    rw [e4] at hix
    have hix : idxD st (.str "abcABCDEabc") (.int (mixZ c 9941 11)) = some (.str (S [x4])) := hix
    by_cases h1 : mixZ c 9973 10 < 4 ∨ i = 1
    · by_cases h2 : mixZ c 9967 7 = 0
      · refine ⟨.w (mixZ c 9949 3), by show mixZ c 9949 3 = 0 ∨ mixZ c 9949 3 = 1 ∨ mixZ c 9949 3 = 2; omega, ?_⟩
        rcases h1 with h1 | h1 <;> simp [fnR, rho0, m_law_rule, m1, m2, m3, h1, h2, onR_ite, onN_ite, fin_ite, Ru.d]
      · refine ⟨.l x4, mem4', ?_⟩
        rcases h1 with h1 | h1 <;> simp [fnR, rho0, m_law_rule, m1, m2, m4, h1, h2, hix, onR_ite, onN_ite, fin_ite, Ru.d]
    · rw [not_or] at h1
      obtain ⟨h1, h3⟩ := h1
      cases n with
      | zero => omega
      | succ n =>
        obtain ⟨y1, g1, q1⟩ := r_lawrule st n k (c + 3) (i - 1) (by omega)
        obtain ⟨y2, g2, q2⟩ := r_lawrule st n k (c + 5) (i - 1) (by omega)
        obtain ⟨z1, f1, p1⟩ := r_lawrule st n k (c + 7) (i - 1) (by omega)
        obtain ⟨z2, f2, p2⟩ := r_lawrule st n k (c + 11) (i - 1) (by omega)
        obtain ⟨z3, f3, p3⟩ := r_lawrule st n k (c + 13) (i - 1) (by omega)
        rw [show k + n + 2 = k + (n + 1) + 1 by omega] at q1 q2 p1 p2 p3
        by_cases h4 : mixZ c 9973 10 < 7
        · have hw : ∃ w, x5 = .str w ∧ isTwo w = true := by
            simp only [List.mem_cons, List.not_mem_nil, or_false] at mem5
            rcases mem5 with h | h | h | h | h <;> exact ⟨_, h, by decide +kernel⟩
          obtain ⟨w, rfl, hw⟩ := hw
          refine ⟨.two w y1 y2, ⟨hw, g1, g2⟩, ?_⟩
          simp [fnR, rho0, m_law_rule, m1, m5, h1, h3, h4, e5, q1, q2, onR_ite, onN_ite, fin_ite, Ru.d]
        · refine ⟨.iff z1 z2 z3, ⟨f1, f2, f3⟩, ?_⟩
          simp [fnR, rho0, m_law_rule, m1, h1, h3, h4, p1, p2, p3, onR_ite, onN_ite, fin_ite, Ru.d]
def rowS : List Str := ["BCDEa", "CDEab", "DEabc", "Eabca", "abcab"]
theorem six_ok : ∀ c ∈ ("ABCDE" : Str).cps.toList, ∃ i : Nat, i < 5 ∧ sixS "ABCDE" (.str (S [c])) = some (.d (.int i)) := by
  have key : ∀ c ∈ ("ABCDE" : Str).cps.toList, (match Builtin.Str.occurrences "ABCDE" (S [c]) 0 ("ABCDE" : Str).length 1 with
    | i :: _ => decide (i < 5)
    | [] => false) = true := by decide +kernel
  intro c hc
  have := key c hc
  generalize ho : Builtin.Str.occurrences "ABCDE" (S [c]) 0 ("ABCDE" : Str).length 1 = l at this
  cases l with
  | nil => cases this
  | cons i r =>
    refine ⟨i, of_decide_eq_true this, ?_⟩
    show dV (match Builtin.Str.occurrences "ABCDE" (S [c]) 0 ("ABCDE" : Str).length 1 with
      | i :: _ => some (.int (i : Nat))
      | [] => none) = _
    rw [ho]
    rfl
theorem row_ok : ∀ x ∈ rowS, x.cps.toList.length = 5 ∧ x.length ≤ 1000 ∧ ∀ c ∈ x.cps.toList, c ∈ ab8 := by decide +kernel
theorem r_later (st : Sto) : ∀ (n k : Nat) (j : Int) (r : Ru), (0 ≤ j ∧ j < 5) → r.ok (n + 1) → ∃ r' : Ru, r'.ok (n + 1) ∧ tbl dfs (k + n + 1) "_law_later" [r.d, .int j] st = .ok r'.d st
  | n, k, j, r, hj, h => by
    rw [t_law_later]
    have add : ∀ (a : D) (bs : List D), bs.length ≤ 100 → binD .Add (.tup [a]) (.tup bs) = some (.d (.tup (a :: bs))) := fun a bs hb => bin_add_tup (szB (by simp; omega))
    have hsz : ∀ n : Nat, n ≤ 100 → n ≤ sizeLine := fun n hn => by rw [sizeLine_eq]; omega
    cases r with
    | w i =>
      refine ⟨_, h, ?_⟩
      simp [fnR, rho0, m_law_later, wl.symm, cLoop, cTest, cElt, add, hsz, Ru.d]
    | l c =>
      have io := in_one (st := st) (x := S [c]) (ns := "ABCDE") (c := c) (by simp)
      by_cases h5 : c ∈ ("ABCDE" : Str).cps.toList
      · obtain ⟨i, hi, e6⟩ := six_ok c h5
        obtain ⟨x, e1, hx⟩ := at_mem (xs := rowS.map D.str) (i := j) hj.1 (by simpa [rowS] using hj.2)
        obtain ⟨r, hr, rfl⟩ := List.mem_map.mp hx
        obtain ⟨r1, r2, r3⟩ := row_ok r hr
        obtain ⟨c2, e2, hc2⟩ := at_mem (xs := r.cps.toList) (i := (i : Int)) (by omega) (by omega)
        have ix := idx_str (st := st) (i := (i : Int)) (x := r) (sz r2)
        rw [e2] at ix
        have ix : idxD st (.str r) (.int (i : Int)) = some (.str (S [c2])) := ix
        have h5' : c ∈ ("ABCDE" : Str).cps := by simpa using h5
        refine ⟨.l c2, r3 c2 hc2, ?_⟩
        simp only [rowS, List.map_cons, List.map_nil] at e1
        simp [fnR, rho0, m_law_later, io, h5', e1, e6, ix, Ru.d]
      · refine ⟨_, h, ?_⟩
        have h5' : c ∉ ("ABCDE" : Str).cps := by simpa using h5
        simp [fnR, rho0, m_law_later, io, h5', cLoop, cTest, cElt, add, hsz, Ru.d]
    | two w x y =>
      obtain ⟨n1, n2, n3⟩ := two_ne h.1
      cases n with
      | zero => exact h.2.1.elim
      | succ n =>
        obtain ⟨x', g1, q1⟩ := r_later st n k j x hj h.2.1
        obtain ⟨y', g2, q2⟩ := r_later st n k j y hj h.2.2
        obtain ⟨ux, hx⟩ := ru_tup x
        obtain ⟨uy, hy⟩ := ru_tup y
        rw [hx] at q1
        rw [hy] at q2
        refine ⟨.two w x' y', ⟨h.1, g1, g2⟩, ?_⟩
        simp [fnR, rho0, m_law_later, n2, cLoop, cTest, cElt, add, hsz, show k + (n + 1) = k + n + 1 by omega, q1, q2, Ru.d, hx, hy]
    | iff x y z =>
      cases n with
      | zero => exact h.1.elim
      | succ n =>
        obtain ⟨x', g1, q1⟩ := r_later st n k j x hj h.1
        obtain ⟨y', g2, q2⟩ := r_later st n k j y hj h.2.1
        obtain ⟨z', g3, q3⟩ := r_later st n k j z hj h.2.2
        obtain ⟨ux, hx⟩ := ru_tup x
        obtain ⟨uy, hy⟩ := ru_tup y
        obtain ⟨uz, hz⟩ := ru_tup z
        rw [hx] at q1
        rw [hy] at q2
        rw [hz] at q3
        refine ⟨.iff x' y' z', ⟨g1, g2, g3⟩, ?_⟩
        simp [fnR, rho0, m_law_later, fl, cLoop, cTest, cElt, add, hsz, show k + (n + 1) = k + n + 1 by omega, q1, q2, q3, Ru.d, hx, hy, hz]
def bkB (G : Tbl) : Ss := (sIf (eCmp .Gt (eCall G "_law_mix" [.e (eBin .Add (eVar 0) (eBin .Mult (eC (.int 17)) (eVar 2))), .e (eC (.int 9929)), .e (eC (.int 6))]) (eC (.int 0)))
  (sSeq (sAsg false 4 (eCall G "_law_rule" [.e (eBin .Add (eBin .Add (eVar 0) (eBin .Mult (eC (.int 31)) (eVar 2))) (eC (.int 1))), .e (eC (.int 4))]))
  (sSeq (sIf (eCmp .Gt (eCall G "_law_mix" [.e (eVar 0), .e (eC (.int 9923)), .e (eC (.int 3))]) (eC (.int 0)))
  (sAsg false 4 (eCall G "_law_later" [.e (eVar 4), .e (eVar 2)]))
  sNil)
  (sApp (eVar 1) (eTup [(eVar 3), (eVar 4)]))))
  sNil)
theorem bk_step (k : Nat) (c : Int) (i : Int) (x : Nat) (fs : List D) (e4 : Option Cell) (st : Sto) (hi : 0 ≤ i ∧ i < 5) (hl : fs.length ≤ 1000) :
    ∃ e4', bkB (tbl dfs (k + 5)) [some (.val (.int c)), some (.own fs), some (.val (.int i)), some (.val (.str (S [x]))), e4] st = .nx [some (.val (.int c)), some (.own fs), some (.val (.int i)), some (.val (.str (S [x]))), e4'] st ∨
      ∃ r : Ru, r.ok 4 ∧ bkB (tbl dfs (k + 5)) [some (.val (.int c)), some (.own fs), some (.val (.int i)), some (.val (.str (S [x]))), e4] st = .nx [some (.val (.int c)), some (.own (fs ++ [entD (x, r)])), some (.val (.int i)), some (.val (.str (S [x]))), e4'] st := by
  have m1 := r_mix (k + 4) (c + 17 * i) 9929 6 st (by decide) (by decide)
  have m2 := r_mix (k + 4) c 9923 3 st (by decide) (by decide)
  have mu1 := bin_mul_l (i := 17) (j := i) (by decide)
  have mu2 := bin_mul_l (i := 31) (j := i) (by decide)
  rw [show k + 4 + 1 = k + 5 from rfl] at m1 m2
  by_cases h1 : 0 < mixZ (c + 17 * i) 9929 6
  · obtain ⟨r, g1, q1⟩ := r_lawrule st 3 k (c + 31 * i + 1) 4 (by decide)
    obtain ⟨r', g2, q2⟩ := r_later st 3 (k + 1) i r hi g1
    rw [show k + 3 + 2 = k + 5 from rfl] at q1
    rw [show k + 1 + 3 + 1 = k + 5 from rfl] at q2
    have ap : ∀ d, appD d fs = some (fs ++ [d]) := fun d => app_ev (by rw [sizeLine_eq]; omega)
    by_cases h2 : 0 < mixZ c 9923 3
    · refine ⟨some (.val r'.d), .inr ⟨r', g2, ?_⟩⟩
      simp [bkB, mu1, m1, h1, mu2, q1, m2, h2, q2, ap, entD]
    · refine ⟨some (.val r.d), .inr ⟨r, g1, ?_⟩⟩
      simp [bkB, mu1, m1, h1, mu2, q1, m2, h2, ap, entD]
  · refine ⟨e4, .inl ?_⟩
    simp [bkB, mu1, m1, h1]
theorem bk_loop (k : Nat) (c : Int) (st : Sto) : ∀ (ps : List (Int × Nat)) (fs : Bk) (e2 e3 e4 : Option Cell), (∀ p ∈ ps, 0 ≤ p.1 ∧ p.1 < 5) → (∀ p ∈ fs, p.2.ok 4) → fs.length + ps.length ≤ 5 →
    ∃ (gs : Bk) (e2' e3' e4' : Option Cell), (gs.map (·.1)).Sublist (ps.map (·.2)) ∧ (∀ p ∈ fs ++ gs, p.2.ok 4) ∧ sLoop (.tup [2, 3]) (bkB (tbl dfs (k + 5))) (ps.map fun p => .raw [.int p.1, .str (S [p.2])]) [some (.val (.int c)), some (.own (fs.map entD)), e2, e3, e4] st = .nx [some (.val (.int c)), some (.own ((fs ++ gs).map entD)), e2', e3', e4'] st
  | [], fs, e2, e3, e4, _, hf, hl => ⟨[], e2, e3, e4, List.Sublist.refl _, by simpa using hf, by simp⟩
  | p :: ps, fs, e2, e3, e4, hp, hf, hl => by
    simp only [List.length_cons] at hl
    obtain ⟨e4', s⟩ := bk_step k c p.1 p.2 (fs.map entD) e4 st (hp p List.mem_cons_self) (by simp; omega)
    have e0 : sLoop (.tup [2, 3]) (bkB (tbl dfs (k + 5))) ((p :: ps).map fun p => .raw [.int p.1, .str (S [p.2])]) [some (.val (.int c)), some (.own (fs.map entD)), e2, e3, e4] st = (match bkB (tbl dfs (k + 5)) [some (.val (.int c)), some (.own (fs.map entD)), some (.val (.int p.1)), some (.val (.str (S [p.2]))), e4] st with
      | .nx rh2 st2 => sLoop (.tup [2, 3]) (bkB (tbl dfs (k + 5))) (ps.map fun p => .raw [.int p.1, .str (S [p.2])]) rh2 st2
      | .ct rh2 st2 => sLoop (.tup [2, 3]) (bkB (tbl dfs (k + 5))) (ps.map fun p => .raw [.int p.1, .str (S [p.2])]) rh2 st2
      | .bk rh2 st2 => .nx rh2 st2
      | r => r) := rfl
    rw [e0]
    rcases s with s | ⟨r, hr, s⟩
    · rw [s]
      obtain ⟨gs, e2', e3', e4', q1, q2, q3⟩ := bk_loop k c st ps fs (some (.val (.int p.1))) (some (.val (.str (S [p.2])))) e4' (fun q hq => hp q (List.mem_cons_of_mem _ hq)) hf (by omega)
      exact ⟨gs, e2', e3', e4', List.Sublist.cons _ q1, q2, q3⟩
    · rw [s]
      obtain ⟨gs, e2', e3', e4', q1, q2, q3⟩ := bk_loop k c st ps (fs ++ [(p.2, r)]) (some (.val (.int p.1))) (some (.val (.str (S [p.2])))) e4' (fun q hq => hp q (List.mem_cons_of_mem _ hq)) (fun q hq => by
        rcases List.mem_append.mp hq with h | h
        · exact hf q h
        · rw [List.mem_singleton.mp h]; exact hr) (by simp; omega)
      refine ⟨(p.2, r) :: gs, e2', e3', e4', List.Sublist.cons₂ _ q1, by simpa using q2, ?_⟩
      rw [List.map_append] at q3
      simp only [List.map_cons, List.map_nil] at q3
      refine q3.trans ?_
      simp
def ps5 : List (Int × Nat) := [(0, 65), (1, 66), (2, 67), (3, 68), (4, 69)]
theorem enm5 : numFrom 0 (signs "ABCDE") = ps5.map fun p => .raw [.int p.1, .str (S [p.2])] := by kernel_rfl
theorem r_lawbook (k : Nat) (c : Int) (st : Sto) : ∃ es, BkOk es ∧ tbl dfs (k + 6) "_law_book" [.int c] st = .ok (bkD es) st := by
  rw [show k + 6 = k + 5 + 1 from rfl, t_law_book]
  obtain ⟨fs, e2, e3, e4, h1, h2, q⟩ := bk_loop k c st ps5 [] none none none (by decide +kernel) (by simp) (by decide)
  refine ⟨fs, ⟨h1, by simpa using h2⟩, ?_⟩
  have e0 : fnR 5 (m_law_book (tbl dfs (k + 5))) [.int c] st = fin st.length (onN (sLoop (.tup [2, 3]) (bkB (tbl dfs (k + 5))) (numFrom 0 (signs "ABCDE")) [some (.val (.int c)), some (.own []), none, none, none] st) (sRet (eB1 .tuple (eVar 1)))) := rfl
  rw [e0, enm5]
  have q : sLoop (.tup [2, 3]) (bkB (tbl dfs (k + 5))) (ps5.map fun p => .raw [.int p.1, .str (S [p.2])]) [some (.val (.int c)), some (.own []), none, none, none] st = _ := q
  rw [q]
  simp [bkD]
end KW

namespace KW
open PySem L2 KL KU

/-! ### fresh answers, in plain Lean -/
def twoZ (o : Str) (x y : Int) : Int :=
  if o = "plus" then (x + y) % 3 else if o = "times" then x * y % 3 else if o = "same" then (if x = y then 1 else 0) else if o = "least" then (if y < x then y else x) else (if x < y then y else x)
inductive Er where
  | noask | ring (r : List Nat) | fuel
abbrev Own := List (Nat × Int)
structure Fs where
  path : List Nat
  begun : List Nat
  seen : List Nat
  rows : List (Nat × Int × Own)
inductive An where
  | ok (v : Int) (s : Fs) | er (e : Er) (s : Fs)
inductive Go where
  | ok (v : Int) (o : Own) (s : Fs) | er (e : Er) (o : Own) (s : Fs)
def isCell (c : Nat) : Bool := decide (c ∈ [97, 98, 99])
def seeF (c : Nat) (s : Fs) : Fs := if c ∈ s.seen then s else { s with seen := s.seen ++ [c] }
def lookF (A : Nat → Fs → An) (w : Wd) (c : Nat) (o : Own) (s : Fs) : Go := match o.lookup c with
  | some v => .ok v o s
  | none => if isCell c then .ok (w.at c) (o ++ [(c, w.at c)]) (seeF c s) else match A c s with
    | .ok v s' => .ok v (o ++ [(c, v)]) s'
    | .er e s' => .er e o s'
def Go.bind (g : Go) (k : Int → Own → Fs → Go) : Go := match g with
  | .ok v o s => k v o s
  | .er e o s => .er e o s
def goR (A : Nat → Fs → An) (w : Wd) : Ru → Own → Fs → Go
  | .w i, o, s => .ok i o s
  | .l c, o, s => lookF A w c o s
  | .two q a b, o, s => (goR A w a o s).bind fun x o s => (goR A w b o s).bind fun y o s => .ok (twoZ q x y) o s
  | .iff t a b, o, s => (goR A w t o s).bind fun x o s => if x = 0 then goR A w b o s else goR A w a o s
def begF (x : Nat) (s : Fs) : Fs := { s with path := s.path ++ [x], begun := s.begun ++ [x] }
def endF (x : Nat) (v : Int) (o : Own) (s : Fs) : Fs := { s with path := s.path.dropLast, rows := s.rows ++ [(x, v, o)] }
def ringF (x : Nat) (s : Fs) : List Nat := s.path.dropWhile (· != x)
def askF (es : Bk) (w : Wd) : Nat → Nat → Fs → An
  | 0, _, s => .er .fuel s
  | n + 1, x, s => match es.lookup x with
    | none => .er .noask s
    | some r => if x ∈ s.path then .er (.ring (ringF x s)) s else match s.rows.lookup x with
      | some v => .ok v.1 s
      | none => match goR (askF es w n) w r [] (begF x s) with
        | .ok v o s' => .ok v (endF x v o s')
        | .er e _ s' => .er e s'
def fs0 : Fs := ⟨[], [], [], []⟩
/-! ### what stays true -/
theorem nd_len {α : Type} [BEq α] [LawfulBEq α] : ∀ {l m : List α}, l.Nodup → (∀ x ∈ l, x ∈ m) → l.length ≤ m.length
  | [], _, _, _ => Nat.zero_le _
  | a :: l, m, h, hs => by
    have h' := List.nodup_cons.mp h
    have ha : a ∈ m := hs a List.mem_cons_self
    have ih := nd_len (m := m.erase a) h'.2 fun x hx => (List.mem_erase_of_ne (fun z => h'.1 (by rw [← z]; exact hx))).mpr (hs x (List.mem_cons_of_mem _ hx))
    rw [List.length_erase_of_mem ha] at ih
    have : 0 < m.length := List.length_pos_of_mem ha
    simp only [List.length_cons]
    omega
theorem nd_snoc {α : Type} {l : List α} {a : α} (h : l.Nodup) (ha : a ∉ l) : (l ++ [a]).Nodup := by
  rw [List.nodup_append]
  refine ⟨h, by simp, fun x hx y hy z => ?_⟩
  rw [List.mem_singleton.mp hy] at z
  exact ha (z ▸ hx)
def V3 (v : Int) : Prop := v = 0 ∨ v = 1 ∨ v = 2
theorem V3.two {o : Str} {x y : Int} (hx : V3 x) (hy : V3 y) : V3 (twoZ o x y) := by
  unfold twoZ
  unfold V3 at *
  split
  · omega
  · split
    · rcases hx with h | h | h <;> rcases hy with h' | h' | h' <;> subst h <;> subst h' <;> decide
    · split
      · split <;> omega
      · split <;> split <;> omega
theorem V3.cell {w : Wd} (h : w.ok) (c : Nat) : V3 (w.at c) := by
  unfold Wd.at
  split
  · exact h.1
  · split
    · exact h.2.1
    · exact h.2.2
structure OI (o : Own) : Prop where
  nd : (o.map (·.1)).Nodup
  sub : ∀ c ∈ o.map (·.1), c ∈ ab8
  v3 : ∀ p ∈ o, V3 p.2
theorem OI.nil : OI [] := ⟨by simp, by simp, by simp⟩
theorem OI.len {o : Own} (h : OI o) : o.length ≤ 8 := by
  have := nd_len h.nd h.sub
  simpa [ab8] using this
theorem lookup_none {β : Type} {o : List (Nat × β)} {c : Nat} (h : o.lookup c = none) : c ∉ o.map (·.1) := by
  intro hm
  obtain ⟨p, hp, rfl⟩ := List.mem_map.mp hm
  rw [List.lookup_eq_none_iff] at h
  have := h p hp
  simp at this
theorem lookup_some {β : Type} {o : List (Nat × β)} {c : Nat} {v : β} (h : o.lookup c = some v) : (c, v) ∈ o := mem_of_look h
theorem lookup_mem {β : Type} {o : List (Nat × β)} {c : Nat} (h : c ∈ o.map (·.1)) : ∃ v, o.lookup c = some v := by
  cases q : o.lookup c with
  | none => exact absurd h (lookup_none q)
  | some v => exact ⟨v, rfl⟩
theorem OI.snoc {o : Own} (h : OI o) {c : Nat} {v : Int} (hn : o.lookup c = none) (hc : c ∈ ab8) (hv : V3 v) : OI (o ++ [(c, v)]) := by
  refine ⟨?_, fun x hx => ?_, fun p hp => ?_⟩
  · rw [List.map_append]
    exact nd_snoc h.nd (lookup_none hn)
  · rw [List.map_append] at hx
    rcases List.mem_append.mp hx with q | q
    · exact h.sub x q
    · simp at q; rw [q]; exact hc
  · rcases List.mem_append.mp hp with q | q
    · exact h.v3 p q
    · rw [List.mem_singleton.mp q]; exact hv
structure FI (es : Bk) (s : Fs) : Prop where
  nd : (s.path ++ s.rows.map (·.1)).Nodup
  sub : ∀ x ∈ s.path ++ s.rows.map (·.1), x ∈ es.map (·.1)
  bg : s.begun.length = s.path.length + s.rows.length
  snd : s.seen.Nodup
  sns : ∀ c ∈ s.seen, c ∈ [97, 98, 99]
  v3 : ∀ r ∈ s.rows, V3 r.2.1 ∧ OI r.2.2
theorem FI.zero (es : Bk) : FI es fs0 := ⟨by simp [fs0], by simp [fs0], rfl, by simp [fs0], by simp [fs0], by simp [fs0]⟩
theorem FI.len {es : Bk} {s : Fs} (h : FI es s) : s.path.length + s.rows.length ≤ es.length := by
  have := nd_len h.nd h.sub
  simpa using this
theorem FI.seen {es : Bk} {s : Fs} (h : FI es s) : s.seen.length ≤ 3 := by
  have := nd_len h.snd h.sns
  simpa using this
theorem FI.see {es : Bk} {s : Fs} (h : FI es s) {c : Nat} (hc : c ∈ [97, 98, 99]) : FI es (seeF c s) := by
  unfold seeF
  split
  · exact h
  · rename_i q
    refine ⟨h.nd, h.sub, h.bg, nd_snoc h.snd q, fun x hx => ?_, h.v3⟩
    rcases List.mem_append.mp hx with z | z
    · exact h.sns x z
    · rw [List.mem_singleton.mp z]; exact hc
theorem FI.beg {es : Bk} {s : Fs} (h : FI es s) {x : Nat} {r : Ru} (hx : es.lookup x = some r) (hp : x ∉ s.path) (hr : s.rows.lookup x = none) : FI es (begF x s) := by
  have hr' := lookup_none hr
  refine ⟨?_, fun y hy => ?_, ?_, h.snd, h.sns, h.v3⟩
  · show (s.path ++ [x] ++ s.rows.map (·.1)).Nodup
    have nd := h.nd
    rw [List.nodup_append] at nd
    rw [List.append_assoc, List.nodup_append]
    refine ⟨nd.1, ?_, fun a ha b hb z => ?_⟩
    · rw [List.singleton_append, List.nodup_cons]
      exact ⟨hr', nd.2.1⟩
    · rcases List.mem_append.mp hb with q | q
      · rw [List.mem_singleton.mp q] at z; exact hp (z ▸ ha)
      · exact nd.2.2 a ha b q z
  · have hy : y ∈ s.path ++ [x] ++ s.rows.map (·.1) := hy
    rw [List.append_assoc] at hy
    rcases List.mem_append.mp hy with q | q
    · exact h.sub y (List.mem_append_left _ q)
    · rcases List.mem_append.mp q with q | q
      · rw [List.mem_singleton.mp q]
        exact List.mem_map.mpr ⟨(x, r), lookup_some hx, rfl⟩
      · exact h.sub y (List.mem_append_right _ q)
  · show (s.begun ++ [x]).length = (s.path ++ [x]).length + s.rows.length
    have := h.bg
    simp only [List.length_append, List.length_cons, List.length_nil]
    omega
theorem FI.fin {es : Bk} {s : Fs} {x : Nat} {p : List Nat} (h : FI es s) (hp : s.path = p ++ [x]) {v : Int} {o : Own} (hv : V3 v) (ho : OI o) : FI es (endF x v o s) := by
  have e : (endF x v o s).path = p := by show s.path.dropLast = p; rw [hp]; simp
  have perm : (p ++ (s.rows ++ [(x, v, o)]).map (·.1)).Perm (s.path ++ s.rows.map (·.1)) := by
    rw [hp, List.map_append, List.append_assoc]
    exact List.Perm.append_left p List.perm_append_comm
  refine ⟨?_, fun y hy => ?_, ?_, h.snd, h.sns, fun r hr => ?_⟩
  · rw [e]
    exact perm.nodup_iff.mpr h.nd
  · rw [e] at hy
    exact h.sub y (perm.mem_iff.mp hy)
  · rw [e]
    show s.begun.length = p.length + (s.rows ++ [(x, v, o)]).length
    have := h.bg
    rw [hp] at this
    simp only [List.length_append, List.length_cons, List.length_nil] at this ⊢
    omega
  · rcases List.mem_append.mp hr with q | q
    · exact h.v3 r q
    · rw [List.mem_singleton.mp q]; exact ⟨hv, ho⟩
/-- what a call of ask leaves -/
structure St2 (es : Bk) (s s' : Fs) : Prop where
  fi : FI es s'
  rows : ∃ m, s'.rows = s.rows ++ m
  begun : ∃ m, s'.begun = s.begun ++ m
  seen : ∃ m, s'.seen = s.seen ++ m
theorem St2.refl {es : Bk} {s : Fs} (h : FI es s) : St2 es s s := ⟨h, ⟨[], by simp⟩, ⟨[], by simp⟩, ⟨[], by simp⟩⟩
theorem St2.trans {es : Bk} {s t u : Fs} (a : St2 es s t) (b : St2 es t u) : St2 es s u := by
  refine ⟨b.fi, ?_, ?_, ?_⟩
  · obtain ⟨m, e⟩ := a.rows; obtain ⟨n, f⟩ := b.rows; exact ⟨m ++ n, by rw [f, e, List.append_assoc]⟩
  · obtain ⟨m, e⟩ := a.begun; obtain ⟨n, f⟩ := b.begun; exact ⟨m ++ n, by rw [f, e, List.append_assoc]⟩
  · obtain ⟨m, e⟩ := a.seen; obtain ⟨n, f⟩ := b.seen; exact ⟨m ++ n, by rw [f, e, List.append_assoc]⟩
theorem St2.see {es : Bk} {s : Fs} (h : FI es s) {c : Nat} (hc : c ∈ [97, 98, 99]) : St2 es s (seeF c s) := by
  refine ⟨h.see hc, ?_, ?_, ?_⟩ <;> unfold seeF <;> split
  · exact ⟨[], by simp⟩
  · exact ⟨[], by simp⟩
  · exact ⟨[], by simp⟩
  · exact ⟨[], by simp⟩
  · exact ⟨[], by simp⟩
  · exact ⟨[c], rfl⟩
def AnOk (es : Bk) (s : Fs) : An → Prop
  | .ok v s' => St2 es s s' ∧ s'.path = s.path ∧ V3 v
  | .er e s' => St2 es s s' ∧ ∃ m, s'.path = s.path ++ m
def GoOk (es : Bk) (o : Own) (s : Fs) : Go → Prop
  | .ok v o' s' => St2 es s s' ∧ s'.path = s.path ∧ OI o' ∧ (∃ m, o' = o ++ m) ∧ V3 v
  | .er e o' s' => St2 es s s' ∧ (∃ m, s'.path = s.path ++ m) ∧ OI o' ∧ ∃ m, o' = o ++ m
theorem GoOk.bind {es : Bk} {o : Own} {s : Fs} {g : Go} {k : Int → Own → Fs → Go} (h : GoOk es o s g) (hk : ∀ v o' s', V3 v → FI es s' → OI o' → GoOk es o' s' (k v o' s')) : GoOk es o s (g.bind k) := by
  cases g with
  | er e o' s' => exact h
  | ok v o' s' =>
    obtain ⟨h1, h2, h3, ⟨m, h4⟩, h5⟩ := h
    have q := hk v o' s' h5 h1.fi h3
    show GoOk es o s (k v o' s')
    cases hr : k v o' s' with
    | ok v2 o2 s2 =>
      rw [hr] at q
      obtain ⟨q1, q2, q3, ⟨m2, q4⟩, q5⟩ := q
      exact ⟨h1.trans q1, by rw [q2, h2], q3, ⟨m ++ m2, by rw [q4, h4, List.append_assoc]⟩, q5⟩
    | er e o2 s2 =>
      rw [hr] at q
      obtain ⟨q1, ⟨p, q2⟩, q3, m2, q4⟩ := q
      exact ⟨h1.trans q1, ⟨p, by rw [q2, h2]⟩, q3, m ++ m2, by rw [q4, h4, List.append_assoc]⟩
theorem cell8 {c : Nat} (h : isCell c = true) : c ∈ [97, 98, 99] := of_decide_eq_true h
theorem lookF_ok {es : Bk} {A : Nat → Fs → An} (hA : ∀ x s, FI es s → AnOk es s (A x s)) {w : Wd} (hw : w.ok) (c : Nat) (hc : c ∈ ab8) (o : Own) (s : Fs) (hs : FI es s) (ho : OI o) : GoOk es o s (lookF A w c o s) := by
  unfold lookF
  cases q : o.lookup c with
  | some v => exact ⟨St2.refl hs, rfl, ho, ⟨[], by simp⟩, ho.v3 _ (lookup_some q)⟩
  | none =>
    simp only
    by_cases h : isCell c = true
    · rw [if_pos h]
      exact ⟨St2.see hs (cell8 h), by unfold seeF; split <;> rfl, ho.snoc q hc (V3.cell hw c), ⟨_, rfl⟩, V3.cell hw c⟩
    · rw [if_neg h]
      have a := hA c s hs
      cases z : A c s with
      | ok v s' => rw [z] at a; exact ⟨a.1, a.2.1, ho.snoc q hc a.2.2, ⟨_, rfl⟩, a.2.2⟩
      | er e s' => rw [z] at a; exact ⟨a.1, a.2, ho, [], by simp⟩
theorem goR_ok {es : Bk} {A : Nat → Fs → An} (hA : ∀ x s, FI es s → AnOk es s (A x s)) {w : Wd} (hw : w.ok) : ∀ (r : Ru) (n : Nat), r.ok n → ∀ (o : Own) (s : Fs), FI es s → OI o → GoOk es o s (goR A w r o s)
  | _, 0, h, _, _, _, _ => h.elim
  | .w i, _ + 1, h, o, s, hs, ho => ⟨St2.refl hs, rfl, ho, ⟨[], by simp⟩, h⟩
  | .l c, _ + 1, h, o, s, hs, ho => lookF_ok hA hw c h o s hs ho
  | .two q a b, n + 1, h, o, s, hs, ho => (goR_ok hA hw a n h.2.1 o s hs ho).bind fun x o s hx hs ho => (goR_ok hA hw b n h.2.2 o s hs ho).bind fun y o s hy hs ho => ⟨St2.refl hs, rfl, ho, ⟨[], by simp⟩, hx.two hy⟩
  | .iff t a b, n + 1, h, o, s, hs, ho => (goR_ok hA hw t n h.1 o s hs ho).bind fun x o s hx hs ho => by
    split
    · exact goR_ok hA hw b n h.2.2 o s hs ho
    · exact goR_ok hA hw a n h.2.1 o s hs ho
theorem St2.beg {es : Bk} {s : Fs} (h : FI es s) {x : Nat} {r : Ru} (hx : es.lookup x = some r) (hp : x ∉ s.path) (hr : s.rows.lookup x = none) : St2 es s (begF x s) := ⟨h.beg hx hp hr, ⟨[], by simp [begF]⟩, ⟨[x], rfl⟩, ⟨[], by simp [begF]⟩⟩
theorem St2.fin {es : Bk} {s : Fs} {x : Nat} {p : List Nat} (h : FI es s) (hp : s.path = p ++ [x]) {v : Int} {o : Own} (hv : V3 v) (ho : OI o) : St2 es s (endF x v o s) := ⟨h.fin hp hv ho, ⟨_, rfl⟩, ⟨[], by simp [endF]⟩, ⟨[], by simp [endF]⟩⟩
theorem ru_of {es : Bk} (he : BkOk es) {x : Nat} {r : Ru} (h : es.lookup x = some r) : r.ok 4 := he.ru _ (lookup_some h)
theorem askF_ok {es : Bk} (he : BkOk es) {w : Wd} (hw : w.ok) : ∀ (n x : Nat) (s : Fs), FI es s → AnOk es s (askF es w n x s)
  | 0, x, s, hs => ⟨St2.refl hs, [], by simp⟩
  | n + 1, x, s, hs => by
    unfold askF
    cases q : es.lookup x with
    | none => exact ⟨St2.refl hs, [], by simp⟩
    | some r =>
      simp only
      by_cases hp : x ∈ s.path
      · rw [if_pos hp]; exact ⟨St2.refl hs, [], by simp⟩
      · rw [if_neg hp]
        cases hr : s.rows.lookup x with
        | some v => exact ⟨St2.refl hs, rfl, (hs.v3 _ (lookup_some hr)).1⟩
        | none =>
          simp only
          have b := St2.beg hs q hp hr
          have g := goR_ok (askF_ok he hw n) hw r 4 (ru_of he q) [] (begF x s) b.fi OI.nil
          cases z : goR (askF es w n) w r [] (begF x s) with
          | ok v o s' =>
            rw [z] at g
            obtain ⟨g1, g2, g3, g4, g5⟩ := g
            exact ⟨(b.trans g1).trans (St2.fin g1.fi g2 g5 g3), by show s'.path.dropLast = _; rw [g2]; simp [begF], g5⟩
          | er e o s' =>
            rw [z] at g
            obtain ⟨g1, ⟨m, g2⟩, g3, g4⟩ := g
            exact ⟨b.trans g1, x :: m, by rw [g2]; simp [begF]⟩
/-- inside: the ask that is gone through is no row yet -/
theorem go_fresh {es : Bk} {s' : Fs} {x : Nat} {p : List Nat} (h : FI es s') (hp : s'.path = p ++ [x]) : s'.rows.lookup x = none := by
  cases q : s'.rows.lookup x with
  | none => rfl
  | some v =>
    have nd := h.nd
    rw [hp, List.nodup_append] at nd
    exact absurd rfl (nd.2.2 x (by simp) x (List.mem_map.mpr ⟨_, lookup_some q, rfl⟩))
/-! ### enough fuel -/
def An.isFuel : An → Prop
  | .er .fuel _ => True
  | _ => False
def Go.isFuel : Go → Prop
  | .er .fuel _ _ => True
  | _ => False
theorem Go.fuel_bind {g : Go} {k : Int → Own → Fs → Go} (h : ¬ g.isFuel) (hk : ∀ v o s, g = .ok v o s → ¬ (k v o s).isFuel) : ¬ (g.bind k).isFuel := by
  cases g with
  | ok v o s => exact hk v o s rfl
  | er e o s => exact h
theorem goR_fuel {es : Bk} {A : Nat → Fs → An} {m : Nat} (hA : ∀ x s, FI es s → AnOk es s (A x s)) (hF : ∀ x s, FI es s → m ≤ s.path.length → ¬ (A x s).isFuel) {w : Wd} (hw : w.ok) : ∀ (r : Ru) (n : Nat), r.ok n → ∀ (o : Own) (s : Fs), FI es s → OI o → m ≤ s.path.length → ¬ (goR A w r o s).isFuel
  | _, 0, h, _, _, _, _, _ => h.elim
  | .w i, _ + 1, _, o, s, hs, ho, hm => fun h => h
  | .l c, _ + 1, h, o, s, hs, ho, hm => by
    unfold goR lookF
    cases q : o.lookup c with
    | some v => exact fun h => h
    | none =>
      simp only
      by_cases h : isCell c = true
      · rw [if_pos h]; exact fun h => h
      · rw [if_neg h]
        have f := hF c s hs hm
        cases z : A c s with
        | ok v s' => exact fun h => h
        | er e s' => rw [z] at f; cases e <;> exact f
  | .two q a b, n + 1, h, o, s, hs, ho, hm => by
    refine Go.fuel_bind (goR_fuel hA hF hw a n h.2.1 o s hs ho hm) fun v o' s' e => ?_
    have g := goR_ok hA hw a n h.2.1 o s hs ho
    rw [e] at g
    refine Go.fuel_bind (goR_fuel hA hF hw b n h.2.2 o' s' g.1.fi g.2.2.1 (by rw [g.2.1]; exact hm)) fun _ _ _ _ h => h
  | .iff t a b, n + 1, h, o, s, hs, ho, hm => by
    refine Go.fuel_bind (goR_fuel hA hF hw t n h.1 o s hs ho hm) fun v o' s' e => ?_
    have g := goR_ok hA hw t n h.1 o s hs ho
    rw [e] at g
    split
    · exact goR_fuel hA hF hw b n h.2.2 o' s' g.1.fi g.2.2.1 (by rw [g.2.1]; exact hm)
    · exact goR_fuel hA hF hw a n h.2.1 o' s' g.1.fi g.2.2.1 (by rw [g.2.1]; exact hm)
theorem askF_fuel {es : Bk} (he : BkOk es) {w : Wd} (hw : w.ok) : ∀ (n x : Nat) (s : Fs), FI es s → es.length < s.path.length + n → ¬ (askF es w n x s).isFuel
  | 0, x, s, hs, hl => by have := hs.len; omega
  | n + 1, x, s, hs, hl => by
    unfold askF
    cases q : es.lookup x with
    | none => exact fun h => h
    | some r =>
      simp only
      by_cases hp : x ∈ s.path
      · rw [if_pos hp]; exact fun h => h
      · rw [if_neg hp]
        cases hr : s.rows.lookup x with
        | some v => exact fun h => h
        | none =>
          simp only
          have b := St2.beg hs q hp hr
          have g := goR_fuel (m := s.path.length + 1) (askF_ok he hw n) (fun x s h hm => askF_fuel he hw n x s h (by omega)) hw r 4 (ru_of he q) [] (begF x s) b.fi OI.nil (by simp [begF])
          cases z : goR (askF es w n) w r [] (begF x s) with
          | ok v o s' => exact fun h => h
          | er e o s' => rw [z] at g; cases e <;> exact g
end KW

namespace KW
open PySem L2 KL KU

/-! ### rules for simp -/
section
variable {st : Sto} {rh : Rho}
@[simp] theorem in_loc (d : D) (n : Nat) : inD st d (.loc n) = (dget st n d).map (·.isSome) := by cases d <;> rfl
@[simp] theorem idx_loc (d : D) (n : Nat) : idxD st (.loc n) d = (dget st n d).bind id := by cases d <;> rfl
theorem dget_of {n : Nat} {b : Bool} {kvs : List (Str × D)} {x : Str} (h : st[n]? = some (.dct b kvs)) : dget st n (.str x) = some (vget kvs x) := by unfold dget; rw [h]
theorem put_of {n : Nat} {kvs : List (Str × D)} {x : Str} {d : D} (h : st[n]? = some (.dct false kvs)) (hl : kvs.length < sizeLine) : KL.putAt n (.str x) d st = some (st.set n (.dct false (putS kvs x d))) := by unfold KL.putAt; rw [h]; simp only [if_pos hl]
@[simp] theorem sPut_ev (fo fk fe : Sm) : sPut fo fk fe rh st = onR (fe rh st) rh fun t st1 => (match held t st1 with
  | some (d, st2) => onR (fo rh st2) rh fun u st3 => onR (fk rh st3) rh fun w st4 => (match u, w with
    | .d (.loc n), .d k => (match KL.putAt n k d st4 with
      | some st5 => .nx rh st5
      | none => .no)
    | _, _ => .no)
  | none => .no) := rfl
@[simp] theorem sPut2_ev (fo1 fk1 fo2 fk2 fe : Sm) : sPut2 fo1 fk1 fo2 fk2 fe rh st = onR (fe rh st) rh fun t st1 => (match toDv t with
  | some (.tup [d1, d2]) => sSeq (sPutD fo1 fk1 d1) (sPutD fo2 fk2 d2) rh st1
  | _ => .no) := rfl
@[simp] theorem sPutD_ev (fo fk : Sm) (d : D) : sPutD fo fk d rh st = onR (fo rh st) rh fun u st3 => onR (fk rh st3) rh fun w st4 => (match u, w with
    | .d (.loc n), .d k => (match KL.putAt n k d st4 with
      | some st5 => .nx rh st5
      | none => .no)
    | _, _ => .no) := rfl
@[simp] theorem eDictNew_ev : eDictNew rh st = .ok (.d (.loc st.length)) (st ++ [.dct false []]) := rfl
@[simp] theorem eDict_ev (fa : Sm) : eDict fa rh st = (fa rh st).bind fun t st1 => match (view rh st1 t).bind (dictD st1) with
  | some kvs => .ok (.d (.loc st1.length)) (st1 ++ [.dct false kvs])
  | none => (match (view rh st1 t).bind dictT with
    | some kvs => .ok (.d (.loc st1.length)) (st1 ++ [.dcT false kvs])
    | none => .no) := rfl
@[simp] theorem eHelds_nil : eHelds [] rh st = .ok [] st := rfl
@[simp] theorem eHelds_cons (f : Sm) (fs : List Sm) : eHelds (f :: fs) rh st = (f rh st).bind fun t st1 => match held t st1 with
    | none => .no
    | some (d, st2) => (eHelds fs rh st2).bind fun ds st3 => .ok (d :: ds) st3 := rfl
@[simp] theorem eDisp_ev (ks : List Str) (fs : List Sm) : eDisp ks fs rh st = (eHelds fs rh st).bind fun ds st1 => .ok (.d (.loc st1.length)) (st1 ++ [.dct false (mergeS [] (ks.zip ds))]) := rfl
@[simp] theorem ePop0_ev (fo : Sm) : ePop0 fo rh st = (fo rh st).bind fun t st1 => match t with
  | .d (.loc n) => (match st1[n]? with
    | some (.lst ds) => (match ds[ds.length - 1]? with
      | some d => .ok (.d d) (st1.set n (.lst ds.dropLast))
      | none => .no)
    | _ => .no)
  | _ => .no := rfl
end
/-! ### names, looks, rows as data -/
def nmD (c : Nat) : D := .str (S [c])
def lk1 (p : Nat × Int) : D := .tup [.str (S [p.1]), .int p.2]
def lkD (o : Own) : D := .tup (o.map lk1)
def ownD (o : Own) : List (Str × D) := o.map fun p => (S [p.1], .int p.2)
def rowD (r : Nat × Int × Own) : D := .tup [.str (S [r.1]), .int r.2.1, lkD r.2.2]
def ansD (rs : List (Nat × Int × Own)) : List (Str × D) := rs.map fun r => (S [r.1], .int r.2.1)
def bokD (es : Bk) : List (Str × D) := es.map fun p => (S [p.1], p.2.d)
@[simp] theorem nm_below (n c : Nat) : below n (nmD c) = true := rfl
@[simp] theorem lk1_below (n : Nat) (p : Nat × Int) : below n (lk1 p) = true := rfl
@[simp] theorem lkD_below (n : Nat) (o : Own) : below n (lkD o) = true := belows_map n _ (lk1_below n) o
@[simp] theorem rowD_below (n : Nat) (r : Nat × Int × Own) : below n (rowD r) = true := by simp [rowD, below, belows]
@[simp] theorem names_below (n : Nat) (l : List Nat) : belows n (l.map nmD) = true := belows_map n _ (nm_below n) l
@[simp] theorem rows_below (n : Nat) (l : List (Nat × Int × Own)) : belows n (l.map rowD) = true := belows_map n _ (rowD_below n) l
@[simp] theorem own_below (n : Nat) (o : Own) : belowF n (ownD o) = true := belowF_map n _ (fun _ => rfl) o
@[simp] theorem ans_below (n : Nat) (o : List (Nat × Int × Own)) : belowF n (ansD o) = true := belowF_map n _ (fun _ => rfl) o
@[simp] theorem bok_below (n : Nat) (es : Bk) : belowF n (bokD es) = true := belowF_map n _ (fun p => ru_below n p.2) es
theorem bq {a b : Nat} : decide (S [a] = S [b]) = (b == a) := by
  by_cases h : a = b
  · subst h; simp
  · have h' : ¬ b = a := fun z => h z.symm
    simp [h, h']
theorem vget_map {β : Type} (f : Nat × β → D) (x : Nat) : ∀ l : List (Nat × β), vget (l.map fun p => (S [p.1], f p)) (S [x]) = (l.lookup x).bind fun v => some (f (x, v))
  | [] => rfl
  | (a, b) :: l => by
    have ih := vget_map f x l
    unfold vget at ih ⊢
    rw [List.map_cons, List.find?_cons, List.lookup_cons]
    by_cases h : a = x
    · subst h
      simp
    · have h' : (x == a) = false := by simpa using Ne.symm h
      have h'' : decide (S [a] = S [x]) = false := by simpa using h
      simp only [h', h'']
      exact ih
theorem vget_own (o : Own) (c : Nat) : vget (ownD o) (S [c]) = (o.lookup c).bind fun v => some (.int v) := vget_map (fun p : Nat × Int => .int p.2) c o
theorem vget_ans (o : List (Nat × Int × Own)) (c : Nat) : vget (ansD o) (S [c]) = (o.lookup c).bind fun v => some (.int v.1) := vget_map (fun p : Nat × Int × Own => .int p.2.1) c o
theorem vget_bok (es : Bk) (c : Nat) : vget (bokD es) (S [c]) = (es.lookup c).bind fun v => some v.d := vget_map (fun p : Nat × Ru => p.2.d) c es
theorem eqF_nm (a b : Nat) : eqF (nmD a) (nmD b) = decide (a = b) := by
  show (S [a] == S [b]) = _
  by_cases h : a = b
  · subst h; simp
  · simp [h]
theorem any_nm (x : Nat) (l : List Nat) : ((l.map nmD).any fun y => eqF y (nmD x)) = decide (x ∈ l) := by
  induction l with
  | nil => rfl
  | cons a l ih =>
    rw [List.map_cons, List.any_cons, ih, eqF_nm]
    by_cases h : a = x
    · subst h; simp
    · have h' : ¬ x = a := fun z => h z.symm
      simp [h, h']
theorem flat_nm (l : List Nat) : (l.map nmD).all flatD = true := by
  rw [List.all_eq_true]
  intro d hd
  obtain ⟨c, _, rfl⟩ := List.mem_map.mp hd
  rfl
theorem in_lst {st : Sto} (x : Nat) (l : List Nat) : inD st (.str (S [x])) (.lst (l.map nmD)) = some (decide (x ∈ l)) := by
  have e : inD st (.str (S [x])) (.lst (l.map nmD)) = if flatD (nmD x) && (l.map nmD).all flatD then some ((l.map nmD).any fun y => eqF y (nmD x)) else inG (nmD x) (l.map nmD) := rfl
  rw [e, flat_nm, any_nm]
  rfl
theorem in_tup {st : Sto} (x : Nat) (l : List Nat) : inD st (.str (S [x])) (.tup (l.map nmD)) = some (decide (x ∈ l)) := by
  have e : inD st (.str (S [x])) (.tup (l.map nmD)) = if flatD (nmD x) && (l.map nmD).all flatD then some ((l.map nmD).any fun y => eqF y (nmD x)) else none := rfl
  rw [e, flat_nm, any_nm]
  rfl
theorem ix_nm (x : Nat) : ∀ l : List Nat, x ∈ l → ∃ i : Nat, ixD (nmD x) (l.map nmD) = some i ∧ i < l.length ∧ l.drop i = l.dropWhile (· != x)
  | [], h => by cases h
  | a :: l, h => by
    rw [List.map_cons]
    unfold ixD
    rw [eqF_nm]
    by_cases q : a = x
    · subst q
      exact ⟨0, by simp, by simp, by simp⟩
    · obtain ⟨i, h1, h2, h3⟩ := ix_nm x l (by
        rcases List.mem_cons.mp h with z | z
        · exact absurd z.symm q
        · exact z)
      refine ⟨i + 1, by simp [q, h1], by simp; omega, ?_⟩
      have q' : (a != x) = true := by simpa using q
      rw [List.drop_succ_cons, h3, List.dropWhile_cons, if_pos q']
theorem lix_nm {x : Nat} {l : List Nat} (h : x ∈ l) : ∃ i : Nat, lixD (l.map nmD) (.str (S [x])) = some (.d (.int i)) ∧ l.drop i = l.dropWhile (· != x) := by
  obtain ⟨i, h1, h2, h3⟩ := ix_nm x l h
  refine ⟨i, ?_, h3⟩
  have e : lixD (l.map nmD) (nmD x) = if flatD (nmD x) && (l.map nmD).all flatD then (ixD (nmD x) (l.map nmD)).map fun j => .d (.int (j : Nat)) else (ixG (l.map nmD) (nmD x)).map fun j => .d (.int (j : Nat)) := rfl
  show lixD (l.map nmD) (nmD x) = _
  rw [e, flat_nm, h1]
  rfl
theorem putS_new {kvs : List (Str × D)} {k : Str} {d : D} (h : vget kvs k = none) : putS kvs k d = kvs ++ [(k, d)] := by
  unfold putS
  have : (kvs.any fun kv => decide (kv.1 = k)) = false := by
    unfold vget at h
    rw [Option.map_eq_none_iff, List.find?_eq_none] at h
    rw [List.any_eq_false]
    exact fun p hp => h p hp
  rw [this]
  rfl
theorem put_own {o : Own} {c : Nat} {v : Int} (h : o.lookup c = none) : putS (ownD o) (S [c]) (.int v) = ownD (o ++ [(c, v)]) := by
  rw [putS_new (by rw [vget_own, h]; rfl)]
  simp [ownD]
theorem put_ans {o : List (Nat × Int × Own)} {c : Nat} {v : Int} (w : Own) (h : o.lookup c = none) : putS (ansD o) (S [c]) (.int v) = ansD (o ++ [(c, v, w)]) := by
  rw [putS_new (by rw [vget_ans, h]; rfl)]
  simp [ansD]
theorem lookup_of_mem {β : Type} : ∀ {o : List (Nat × β)}, (o.map (·.1)).Nodup → ∀ {p : Nat × β}, p ∈ o → o.lookup p.1 = some p.2
  | [], _, _, h => by cases h
  | (a, b) :: o, nd, p, h => by
    rw [List.map_cons, List.nodup_cons] at nd
    rw [List.lookup_cons]
    rcases List.mem_cons.mp h with z | z
    · rw [z]; simp
    · have : p.1 ≠ a := fun e => nd.1 (by rw [← e]; exact List.mem_map.mpr ⟨p, z, rfl⟩)
      have e : (p.1 == a) = false := by simpa using this
      rw [e]
      exact lookup_of_mem nd.2 z
theorem len_own (o : Own) : (ownD o).length = o.length := by simp [ownD]
theorem len_ans (o : List (Nat × Int × Own)) : (ansD o).length = o.length := by simp [ansD]
/-- the looks of a rule, told in a row -/
def lkF (o : Own) : D → D
  | .str x => .tup [.str x, ((vget (ownD o) x).getD .non)]
  | _ => .non
theorem lk_own {st : Sto} {n : Nat} {o : Own} (h : st[n]? = some (.dct false (ownD o))) (ho : OI o) {rh : Rho} {i j : Nat} {f2 : Sm} (hi : rh[i]? = some (some (.val (.loc n)))) (hij : i ≠ j) (hj : j < rh.length) :
    eLk (eVar i) (eComp [j] (.name j) (iLk (eVar i)) none (eTup [(eVar j), (eIdx (eVar i) (eVar j))])) f2 rh st = .ok (.fr (o.map lk1)) st := by
  have hn : n < st.length := (List.getElem?_eq_some_iff.mp h).1
  have hl : (st.set n (.dct true (ownD o)))[n]? = some (.dct true (ownD o)) := by simp [hn]
  have ev : ∀ s : Sto, eVar i rh s = .ok (.d (.loc n)) s := fun s => by simp [hi]
  have hi' : ∀ v, ((rh.set j none).set j v)[i]? = some (some (.val (.loc n))) := fun v => by
    rw [List.getElem?_set_ne (Ne.symm hij), List.getElem?_set_ne (Ne.symm hij)]; exact hi
  have comp : cLoop (.name j) none (eTup [(eVar j), (eIdx (eVar i) (eVar j))]) (wipeR rh [j]) ((ownD o).map fun p => .str p.1) (st.set n (.dct true (ownD o))) = .ok (((ownD o).map fun p => .str p.1).map (lkF o)) (st.set n (.dct true (ownD o))) := by
    refine cLoop_map _ _ fun d hd => ?_
    obtain ⟨p, hp, rfl⟩ := List.mem_map.mp hd
    refine ⟨_, rfl, ?_⟩
    obtain ⟨q, hq, rfl⟩ := List.mem_map.mp hp
    have hj' : ((rh.set j none).set j (some (Cell.val (.str (S [q.1])))))[j]? = some (some (.val (.str (S [q.1])))) := by simp [hj]
    have lo := lookup_of_mem ho.nd hq
    have vg := vget_own o q.1
    rw [lo] at vg
    have v1 : view ((rh.set j none).set j (some (.val (.str (S [q.1]))))) (st.set n (.dct true (ownD o))) (.d (.loc n)) = some (.loc n) := by rw [view_loc, hl]
    simp only [cElt, eTup_ev, eArgs_cons, eArgs_nil, eVar_ev, wipe_cons, wipe_nil, hj', R.bind_ok, toDv_d, eIdx_ev, eOp2_ev, hi', v1, view_str, idx_loc, dget_of hl, vg, Option.bind_some, id, dV_some', lkF, Option.getD_some, oR_some]
  have len : ((ownD o).map fun p => D.str p.1).length ≤ sizeLine := by
    rw [List.length_map, len_own]
    have := ho.len
    exact sz (by omega)
  have e1 : eComp [j] (.name j) (iLk (eVar i)) none (eTup [(eVar j), (eIdx (eVar i) (eVar j))]) rh (st.set n (.dct true (ownD o))) = .ok (.fr (((ownD o).map fun p => .str p.1).map (lkF o))) (st.set n (.dct true (ownD o))) := by
    refine comp_ok ?_ len comp
    show (eVar i rh (st.set n (.dct true (ownD o)))).bind _ = _
    rw [ev, R.bind_ok]
    simp only [hl]
    rfl
  have e2 : ((ownD o).map fun p => D.str p.1).map (lkF o) = o.map lk1 := by
    rw [List.map_map]
    unfold ownD
    rw [List.map_map]
    refine List.map_congr_left fun q hq => ?_
    have lo := lookup_of_mem ho.nd hq
    have vg := vget_own o q.1
    rw [lo] at vg
    show lkF o (.str (S [q.1])) = _
    simp only [lkF]
    have vg' : vget (ownD o) (S [q.1]) = some (.int q.2) := vg
    rw [vg']
    rfl
  rw [e2] at e1
  unfold eLk
  rw [ev]
  simp only [h, isT, Bool.false_eq_true, if_false, lockO, e1, hl, Option.bind_some, unlockO]
  rw [List.set_set]
  congr 1
  have : st[n] = .dct false (ownD o) := by rw [List.getElem?_eq_some_iff] at h; exact h.2
  rw [← this]
  simp
/-! ### cells -/
theorem abc_eq : ("abc" : Str).cps.toList = [97, 98, 99] := by kernel_rfl
theorem in_abc {st : Sto} (c : Nat) : inD st (.str (S [c])) (.str "abc") = some (isCell c) := by
  rw [in_one (c := c) (by simp), abc_eq]
  rfl
theorem six_abc : ∀ c ∈ [97, 98, 99], sixS "abc" (.str (S [c])) = some (.d (.int ((c - 97 : Nat) : Int))) := by
  have key : ∀ c ∈ [97, 98, 99], Builtin.Str.occurrences "abc" (S [c]) 0 ("abc" : Str).length 1 = [c - 97] := by decide +kernel
  intro c hc
  have := key c hc
  show dV (match Builtin.Str.occurrences "abc" (S [c]) 0 ("abc" : Str).length 1 with
      | i :: _ => some (.int (i : Nat))
      | [] => none) = _
  rw [this]
  rfl
theorem wd_idx {st : Sto} (w : Wd) : ∀ c ∈ [97, 98, 99], idxD st (wdD w) (.int ((c - 97 : Nat) : Int)) = some (.int (w.at c)) := by
  intro c hc
  simp only [List.mem_cons, List.not_mem_nil, or_false] at hc
  rcases hc with h | h | h <;> subst h <;> rfl
/-! ### of two -/
theorem mulZ {x y : Int} (hx : V3 x) : binD .Mult (.int x) (.int y) = some (.d (.int (x * y))) := bin_mul_l (by unfold V3 at hx; omega)
theorem mod3 (x : Int) : binD .Mod (.int x) (.int 3) = some (.d (.int (x % 3))) := bin_mod (by decide)
theorem r_two (k : Nat) (o : Str) (x y : Int) (st : Sto) (ho : isTwo o = true) (hx : V3 x) : tbl dfs (k + 1) "of_two" [.str o, .int x, .int y] st = .ok (.int (twoZ o x y)) st := by
  rw [t_of_two]
  have m := mulZ (y := y) hx
  have a1 : ("times" : Str) ≠ "plus" := by decide
  have a2 : ("same" : Str) ≠ "plus" := by decide
  have a3 : ("same" : Str) ≠ "times" := by decide
  have a4 : ("least" : Str) ≠ "plus" := by decide
  have a5 : ("least" : Str) ≠ "times" := by decide
  have a6 : ("least" : Str) ≠ "same" := by decide
  have a7 : ("most" : Str) ≠ "plus" := by decide
  have a8 : ("most" : Str) ≠ "times" := by decide
  have a9 : ("most" : Str) ≠ "same" := by decide
  have a10 : ("most" : Str) ≠ "least" := by decide
  rcases two_cases ho with h | h | h | h | h <;> subst h
  · simp [fnR, rho0, m_of_two, twoZ, mod3]
  · simp [fnR, rho0, m_of_two, twoZ, mod3, m, a1]
  · simp [fnR, rho0, m_of_two, twoZ, a2, a3]
  · simp [fnR, rho0, m_of_two, twoZ, a4, a5, a6, eMin2, mnD]
  · simp [fnR, rho0, m_of_two, twoZ, a7, a8, a9, a10, eMax2, mxD]
end KW

namespace KW
open PySem L2 KL KU

/-! ### the run in the store -/
structure Rn where
  path : List D
  begun : List D
  seen : List D
  ans : List (Str × D)
  rows : List D
  ring : D
def rnF (n : Nat) (w : Wd) (rg : D) : List (Str × D) := [("book", .loc (n + 1)), ("world", wdD w), ("path", .loc (n + 2)), ("begun", .loc (n + 3)), ("seen", .loc (n + 4)), ("answers", .loc (n + 5)), ("rows", .loc (n + 6)), ("ring", rg)]
def runO (n : Nat) (es : Bk) (w : Wd) (r : Rn) : List O := [.ins "Run" (rnF n w r.ring), .dct false (bokD es), .lst r.path, .lst r.begun, .lst r.seen, .dct false r.ans, .lst r.rows]
def rst (A : Sto) (es : Bk) (w : Wd) (r : Rn) (B : Sto) : Sto := A ++ (runO A.length es w r ++ B)
def toRn (s : Fs) (rg : D) : Rn := ⟨s.path.map nmD, s.begun.map nmD, s.seen.map nmD, ansD s.rows, s.rows.map rowD, rg⟩
@[simp] theorem toRn_path (s : Fs) (rg : D) : (toRn s rg).path = s.path.map nmD := rfl
@[simp] theorem toRn_begun (s : Fs) (rg : D) : (toRn s rg).begun = s.begun.map nmD := rfl
@[simp] theorem toRn_seen (s : Fs) (rg : D) : (toRn s rg).seen = s.seen.map nmD := rfl
@[simp] theorem toRn_ans (s : Fs) (rg : D) : (toRn s rg).ans = ansD s.rows := rfl
@[simp] theorem toRn_rows (s : Fs) (rg : D) : (toRn s rg).rows = s.rows.map rowD := rfl
@[simp] theorem toRn_ring (s : Fs) (rg : D) : (toRn s rg).ring = rg := rfl
section
variable {A B : Sto} {es : Bk} {w : Wd} {r : Rn} {o o' : O}
theorem rst_at (i : Nat) (hi : i < 7) : (rst A es w r B)[A.length + i]? = (runO A.length es w r)[i]? := by
  unfold rst
  rw [List.getElem?_append_right (by omega), Nat.add_sub_cancel_left, List.getElem?_append_left (by simpa [runO] using hi)]
@[simp high] theorem rst_0 : (rst A es w r B)[A.length]? = some (.ins "Run" (rnF A.length w r.ring)) := rst_at 0 (by omega)
@[simp high] theorem rst_1 : (rst A es w r B)[A.length + 1]? = some (.dct false (bokD es)) := rst_at 1 (by omega)
@[simp high] theorem rst_2 : (rst A es w r B)[A.length + 2]? = some (.lst r.path) := rst_at 2 (by omega)
@[simp high] theorem rst_3 : (rst A es w r B)[A.length + 3]? = some (.lst r.begun) := rst_at 3 (by omega)
@[simp high] theorem rst_4 : (rst A es w r B)[A.length + 4]? = some (.lst r.seen) := rst_at 4 (by omega)
@[simp high] theorem rst_5 : (rst A es w r B)[A.length + 5]? = some (.dct false r.ans) := rst_at 5 (by omega)
@[simp high] theorem rst_6 : (rst A es w r B)[A.length + 6]? = some (.lst r.rows) := rst_at 6 (by omega)
theorem rst_set (i : Nat) (hi : i < 7) (o : O) : (rst A es w r B).set (A.length + i) o = A ++ ((runO A.length es w r).set i o ++ B) := by
  unfold rst
  rw [List.set_append_right _ _ (by omega), Nat.add_sub_cancel_left, List.set_append_left _ _ (by simpa [runO] using hi)]
@[simp] theorem rst_s0 (rg : D) : (rst A es w r B).set A.length (.ins "Run" (rnF A.length w rg)) = rst A es w { r with ring := rg } B := rst_set 0 (by omega) _
@[simp] theorem rst_s2 (l : List D) : (rst A es w r B).set (A.length + 2) (.lst l) = rst A es w { r with path := l } B := rst_set 2 (by omega) _
@[simp] theorem rst_s3 (l : List D) : (rst A es w r B).set (A.length + 3) (.lst l) = rst A es w { r with begun := l } B := rst_set 3 (by omega) _
@[simp] theorem rst_s4 (l : List D) : (rst A es w r B).set (A.length + 4) (.lst l) = rst A es w { r with seen := l } B := rst_set 4 (by omega) _
@[simp] theorem rst_s5 (l : List (Str × D)) : (rst A es w r B).set (A.length + 5) (.dct false l) = rst A es w { r with ans := l } B := rst_set 5 (by omega) _
@[simp] theorem rst_s6 (l : List D) : (rst A es w r B).set (A.length + 6) (.lst l) = rst A es w { r with rows := l } B := rst_set 6 (by omega) _
@[simp] theorem rst_len : (rst A es w r B).length = A.length + 7 + B.length := by simp [rst, runO]; omega
@[simp] theorem rst_app (os : List O) : rst A es w r B ++ os = rst A es w r (B ++ os) := by simp [rst]
theorem rst_last (C : Sto) : (rst A es w r (B ++ o :: C))[A.length + 7 + B.length]? = some o := by
  unfold rst
  have e : A ++ (runO A.length es w r ++ (B ++ o :: C)) = (A ++ runO A.length es w r ++ B) ++ o :: C := by simp
  rw [e, List.getElem?_append_right (by simp [runO]; omega)]
  have : A.length + 7 + B.length - (A ++ runO A.length es w r ++ B).length = 0 := by simp [runO]; omega
  rw [this]
  rfl
@[simp high] theorem rst_l1 : (rst A es w r (B ++ [o]))[A.length + 7 + B.length]? = some o := rst_last []
@[simp] theorem rst_d1 (x : Str) : dget (rst A es w r B) (A.length + 1) (.str x) = some (vget (bokD es) x) := dget_of rst_1
@[simp] theorem rst_d5 (x : Str) : dget (rst A es w r B) (A.length + 5) (.str x) = some (vget r.ans x) := dget_of rst_5
@[simp] theorem rst_dl (x : Str) (b : Bool) (kvs : List (Str × D)) : dget (rst A es w r (B ++ [.dct b kvs])) (A.length + 7 + B.length) (.str x) = some (vget kvs x) := dget_of rst_l1
@[simp] theorem rst_sl : (rst A es w r (B ++ [o])).set (A.length + 7 + B.length) o' = rst A es w r (B ++ [o']) := by
  unfold rst
  have e : ∀ o : O, A ++ (runO A.length es w r ++ (B ++ [o])) = (A ++ runO A.length es w r ++ B) ++ [o] := fun o => by simp
  rw [e, e, List.set_append_right _ _ (by simp [runO]; omega)]
  have : A.length + 7 + B.length - (A ++ runO A.length es w r ++ B).length = 0 := by simp [runO]; omega
  rw [this]
  rfl
end
theorem rst_p5 {A B : Sto} {es : Bk} {w : Wd} {r : Rn} {x : Str} {d : D} (h : r.ans.length < sizeLine) : KL.putAt (A.length + 5) (.str x) d (rst A es w r B) = some (rst A es w { r with ans := putS r.ans x d } B) := by rw [put_of rst_5 h, rst_s5]
theorem rst_pl {A B : Sto} {es : Bk} {w : Wd} {r : Rn} {x : Str} {d : D} {kvs : List (Str × D)} (h : kvs.length < sizeLine) : KL.putAt (A.length + 7 + B.length) (.str x) d (rst A es w r (B ++ [.dct false kvs])) = some (rst A es w r (B ++ [.dct false (putS kvs x d)])) := by rw [put_of rst_l1 h, rst_sl]
/-- what a store about a run must be -/
def Fit2 (A B : Sto) : Prop := ∀ o ∈ A ++ B, belowO (A.length + 7 + B.length) o = true
theorem Fit2.snoc {A B : Sto} (h : Fit2 A B) {o : O} (ho : belowO (A.length + 7 + (B.length + 1)) o = true) : Fit2 A (B ++ [o]) := fun u hu => by
  rw [List.length_append]
  rw [← List.append_assoc] at hu
  rcases List.mem_append.mp hu with q | q
  · exact belowO_up (by simp) (h u q)
  · rw [List.mem_singleton.mp q]; exact ho
theorem run_below {n m : Nat} {es : Bk} {w : Wd} {s : Fs} {rg : D} (hm : n + 7 ≤ m) (hr : below m rg = true) : ∀ o ∈ runO n es w (toRn s rg), belowO m o = true := by
  intro o ho
  simp only [runO, List.mem_cons, List.not_mem_nil, or_false] at ho
  rcases ho with h | h | h | h | h | h | h <;> subst h <;> simp [belowO, rnF, belowF, below, toRn, hr] <;> omega
theorem rst_fit {A B : Sto} {es : Bk} {w : Wd} {s : Fs} {rg : D} (h : Fit2 A B) (hr : ∀ m, below m rg = true) : ∀ o ∈ rst A es w (toRn s rg) B, belowO (A.length + 7 + B.length) o = true := by
  intro o ho
  unfold rst at ho
  rcases List.mem_append.mp ho with q | q
  · exact h o (List.mem_append_left _ q)
  · rcases List.mem_append.mp q with q | q
    · exact run_below (by omega) (hr _) o q
    · exact h o (List.mem_append_right _ q)
theorem rst_cut {A B : Sto} {es : Bk} {w : Wd} {s : Fs} {rg : D} {d : D} {os : List O} (h : Fit2 A B) (hr : ∀ m, below m rg = true) (hd : below (A.length + 7 + B.length) d = true) : cut (A.length + 7 + B.length) d (rst A es w (toRn s rg) (B ++ os)) = rst A es w (toRn s rg) B := by
  have e : rst A es w (toRn s rg) (B ++ os) = rst A es w (toRn s rg) B ++ os := by simp
  rw [e]
  exact cut_app (by simp) hd (rst_fit h hr)
@[simp] theorem rst_cut0 {A B : Sto} {es : Bk} {w : Wd} {r : Rn} {d : D} : cut (A.length + 7 + B.length) d (rst A es w r B) = rst A es w r B := cut_le (by simp)
@[simp] theorem rst_cut1 {A B : Sto} {es : Bk} {w : Wd} {r : Rn} {d : D} {o : O} : cut (A.length + 7 + (B.length + 1)) d (rst A es w r (B ++ [o])) = rst A es w r (B ++ [o]) := cut_le (by simp)
def ringD (r : List Nat) : D := .tup (r.map nmD)
@[simp] theorem ring_below (m : Nat) (r : List Nat) : below m (ringD r) = true := belows_map m _ (nm_below m) r
/-! what the program's run does, as the plain one does -/
def exN : Er → Str
  | .noask => "NoAsk"
  | .ring _ => "Ring"
  | .fuel => "LookError"
def exG : Er → D
  | .ring r => ringD r
  | _ => .non
@[simp] theorem exG_below (m : Nat) (e : Er) : below m (exG e) = true := by
  cases e with
  | ring r => exact ring_below m r
  | _ => rfl
def anR (A : Sto) (es : Bk) (w : Wd) (B : Sto) : An → R D → Prop
  | .ok v s, q => q = .ok (.int v) (rst A es w (toRn s .non) B)
  | .er e s, q => e = .fuel ∨ q = .ex (exN e) (rst A es w (toRn s (exG e)) B)
def goQ (A : Sto) (es : Bk) (w : Wd) (B : Sto) : Go → R D → Prop
  | .ok v o s, q => q = .ok (.int v) (rst A es w (toRn s .non) (B ++ [.dct false (ownD o)]))
  | .er e o s, q => e = .fuel ∨ q = .ex (exN e) (rst A es w (toRn s (exG e)) (B ++ [.dct false (ownD o)]))
theorem rn1 {n : Nat} {w : Wd} {rg : D} : (rnF n w rg).lookup ("book" : Str) = some (.loc (n + 1)) := rfl
theorem rn2 {n : Nat} {w : Wd} {rg : D} : (rnF n w rg).lookup ("world" : Str) = some (wdD w) := rfl
theorem rn3 {n : Nat} {w : Wd} {rg : D} : (rnF n w rg).lookup ("path" : Str) = some (.loc (n + 2)) := rfl
theorem rn4 {n : Nat} {w : Wd} {rg : D} : (rnF n w rg).lookup ("begun" : Str) = some (.loc (n + 3)) := rfl
theorem rn5 {n : Nat} {w : Wd} {rg : D} : (rnF n w rg).lookup ("seen" : Str) = some (.loc (n + 4)) := rfl
theorem rn6 {n : Nat} {w : Wd} {rg : D} : (rnF n w rg).lookup ("answers" : Str) = some (.loc (n + 5)) := rfl
theorem rn7 {n : Nat} {w : Wd} {rg : D} : (rnF n w rg).lookup ("rows" : Str) = some (.loc (n + 6)) := rfl
theorem rn8 {n : Nat} {w : Wd} {rg : D} : (rnF n w rg).lookup ("ring" : Str) = some rg := rfl
theorem ml_ask : mlD.lookup (("Run" : Str), ("ask" : Str)) = some "Run.ask" := by kernel_rfl
theorem ml_see : mlD.lookup (("Run" : Str), ("see" : Str)) = some "Run.see" := by kernel_rfl
theorem ml_lf : mlD.lookup (("Run" : Str), ("look_from" : Str)) = some "Run.look_from" := by kernel_rfl
theorem isL_loc {rh : Rho} {st : Sto} {n : Nat} {ds : List D} (h : st[n]? = some (.lst ds)) : isL rh st (.d (.loc n)) = true := by unfold isL; rw [view_loc, h]
theorem isL_no {rh : Rho} {st : Sto} {n : Nat} {b : Bool} {ds : List (Str × D)} (h : st[n]? = some (.dct b ds)) : isL rh st (.d (.loc n)) = false := by unfold isL; rw [view_loc, h]
theorem updL_loc {rh : Rho} {st : Sto} {n : Nat} {ds : List D} {f : List D → Option (List D)} (h : st[n]? = some (.lst ds)) : updL (.d (.loc n)) f st rh = (match f ds with
  | some ds' => .nx rh (st.set n (.lst ds'))
  | none => .no) := by
  show (match st[n]? with
    | some (.lst ds) => (match f ds with
      | some ds' => RS.nx rh (st.set n (.lst ds'))
      | none => .no)
    | _ => .no) = _
  rw [h]
end KW

namespace KW
open PySem L2 KL KU

section
variable {es : Bk} {w : Wd} {A : Sto}
def AskAt (es : Bk) (w : Wd) (A : Sto) (n : Nat) : Prop := ∀ (k x : Nat) (s : Fs) (B : Sto), FI es s → Fit2 A B → anR A es w B (askF es w n x s) (tbl dfs (k + 8 * n) "Run.ask" [.loc A.length, .str (S [x])] (rst A es w (toRn s .non) B))
theorem w_see_cell (k c : Nat) (s : Fs) (B : Sto) (hs : FI es s) (hc : isCell c = true) : tbl dfs (k + 1) "Run.see" [.loc A.length, .str (S [c])] (rst A es w (toRn s .non) B) = .ok (.int (w.at c)) (rst A es w (toRn (seeF c s) .non) B) := by
  rw [t_Run_see]
  have i1 := fun st => in_abc (st := st) c
  have i2 := fun st => in_lst (st := st) c s.seen
  have six := six_abc c (cell8 hc)
  have wi := fun st => wd_idx (st := st) w c (cell8 hc)
  have hl := hs.seen
  by_cases hn : c ∈ s.seen
  · have e : seeF c s = s := by simp [seeF, hn]
    rw [e]
    simp [fnR, rho0, m_Run_see, Kc.d, i1, hc, rn2, rn5, view_loc, i2, hn, six, wi]
  · have e : toRn (seeF c s) .non = { toRn s .non with seen := s.seen.map nmD ++ [.str (S [c])] } := by simp [seeF, hn, toRn, nmD]
    have ap : appD (.str (S [c])) (s.seen.map nmD) = some (s.seen.map nmD ++ [.str (S [c])]) := app_ev (szL (by simp; omega))
    have il := fun rh => isL_loc (rh := rh) (rst_4 (A := A) (B := B) (es := es) (w := w) (r := toRn s .non))
    have ul := fun rh f => updL_loc (rh := rh) (f := f) (rst_4 (A := A) (B := B) (es := es) (w := w) (r := toRn s .non))
    rw [e]
    simp [fnR, rho0, m_Run_see, Kc.d, i1, hc, rn2, rn5, view_loc, i2, hn, il, ul, ap, six, wi]
theorem w_see_ask (k n c : Nat) (s : Fs) (B : Sto) (hA : AskAt es w A n) (hs : FI es s) (hf : Fit2 A B) (hc : isCell c = false) : anR A es w B (askF es w n c s) (tbl dfs (k + 8 * n + 1) "Run.see" [.loc A.length, .str (S [c])] (rst A es w (toRn s .non) B)) := by
  rw [t_Run_see]
  have i1 := in_abc (st := rst A es w (toRn s .non) B) c
  have a := hA k c s B hs hf
  have e : fnR 2 (m_Run_see (tbl dfs (k + 8 * n))) [.loc A.length, .str (S [c])] (rst A es w (toRn s .non) B) = fin (A.length + 7 + B.length) (onR ((tbl dfs (k + 8 * n) "Run.ask" [.loc A.length, .str (S [c])] (rst A es w (toRn s .non) B)).bind fun d st3 => .ok (.d d) st3) [some (.val (.loc A.length)), some (.val (.str (S [c])))] fun t st1 => ret t st1 [some (.val (.loc A.length)), some (.val (.str (S [c])))]) := by
    simp [fnR, rho0, m_Run_see, Kc.d, i1, hc, ml_ask]
  rw [e]
  cases q : askF es w n c s with
  | ok v s' =>
    rw [q] at a
    have a : _ = R.ok (D.int v) _ := a
    rw [a]
    show _ = _
    simp
  | er er s' =>
    rw [q] at a
    rcases a with a | a
    · exact .inl a
    · refine .inr ?_
      rw [a]
      simp
theorem w_lf (k n c : Nat) (o : Own) (s : Fs) (B : Sto) (hA : AskAt es w A n) (hs : FI es s) (ho : OI o) (hf : Fit2 A B) : goQ A es w B (lookF (askF es w n) w c o s) (tbl dfs (k + 8 * n + 2) "Run.look_from" [.loc A.length, .loc (A.length + 7 + B.length), .str (S [c])] (rst A es w (toRn s .non) (B ++ [.dct false (ownD o)]))) := by
  rw [show k + 8 * n + 2 = (k + 8 * n + 1) + 1 from rfl, t_Run_look_from]
  have vg := vget_own o c
  have hl := ho.len
  unfold lookF
  cases q : o.lookup c with
  | some v =>
    rw [q] at vg
    show _ = _
    simp [fnR, rho0, m_Run_look_from, view_loc, vg]
  | none =>
    rw [q] at vg
    have vg : vget (ownD o) (S [c]) = none := vg
    have po := fun v => put_own (v := v) q
    have sl : (ownD o).length < sizeLine := by rw [len_own]; exact szL (by omega)
    have vg2 : ∀ v, vget (ownD (o ++ [(c, v)])) (S [c]) = some (.int v) := fun v => by
      rw [vget_own]
      have : (o ++ [(c, v)]).lookup c = some v := by rw [List.lookup_append, q]; simp
      rw [this]
      rfl
    simp only
    by_cases hc : isCell c = true
    · rw [if_pos hc]
      have a := w_see_cell (A := A) (w := w) (k + 8 * n) c s (B ++ [.dct false (ownD o)]) hs hc
      show _ = _
      simp [fnR, rho0, m_Run_look_from, view_loc, vg, ml_see, a, rst_pl sl, po, vg2]
    · rw [if_neg hc]
      have hf' : Fit2 A (B ++ [.dct false (ownD o)]) := hf.snoc (by simp [belowO])
      have a := w_see_ask k n c s (B ++ [.dct false (ownD o)]) hA hs hf' (by simpa using hc)
      cases z : askF es w n c s with
      | ok v s' =>
        rw [z] at a
        have a : _ = R.ok (D.int v) _ := a
        show _ = _
        simp [fnR, rho0, m_Run_look_from, view_loc, vg, ml_see, a, rst_pl sl, po, vg2]
      | er er s' =>
        rw [z] at a
        rcases a with a | a
        · exact .inl a
        · refine .inr ?_
          simp [fnR, rho0, m_Run_look_from, view_loc, vg, ml_see, a]
theorem w_lam (k n c : Nat) (o : Own) (s : Fs) (B : Sto) (hA : AskAt es w A n) (hs : FI es s) (ho : OI o) (hf : Fit2 A B) : goQ A es w B (lookF (askF es w n) w c o s) (tbl dfs (k + 8 * n + 3) "lambda0" [.str (S [c]), .loc (A.length + 7 + B.length), .loc A.length] (rst A es w (toRn s .non) (B ++ [.dct false (ownD o)]))) := by
  have a := w_lf k n c o s B hA hs ho hf
  rw [show k + 8 * n + 3 = (k + 8 * n + 2) + 1 from rfl, tl_0]
  cases z : lookF (askF es w n) w c o s with
  | ok v o' s' =>
    rw [z] at a
    have a : _ = R.ok (D.int v) _ := a
    show _ = _
    simp [fnR, rho0, e_0, ml_lf, a]
  | er er o' s' =>
    rw [z] at a
    rcases a with a | a
    · exact .inl a
    · refine .inr ?_
      simp [fnR, rho0, e_0, ml_lf, a]
theorem capAt_1 {a : Option Cell} {rest : Rho} {t : Nat} {cs : List D} : capAt (a :: some (.clo t cs) :: rest) 1 = some (t, cs) := rfl
theorem ls0 : lsD[0]? = some ("lambda0" : Str) := rfl
theorem w_worth (n : Nat) (hA : AskAt es w A n) (hw : w.ok) (he : BkOk es) : ∀ (r : Ru) (m : Nat), r.ok m → ∀ (k : Nat) (o : Own) (s : Fs) (B : Sto), FI es s → OI o → Fit2 A B →
    goQ A es w B (goR (askF es w n) w r o s) (tbl dfs (k + 8 * n + 3 + m) "worth_of" [r.d, .clo 0 [.loc (A.length + 7 + B.length), .loc A.length]] (rst A es w (toRn s .non) (B ++ [.dct false (ownD o)])))
  | _, 0, h, _, _, _, _, _, _, _ => h.elim
  | .w i, m + 1, h, k, o, s, B, hs, ho, hf => by
    rw [show k + 8 * n + 3 + (m + 1) = (k + 8 * n + 3 + m) + 1 by omega, t_worth_of]
    show _ = _
    simp [fnR, rho0, m_worth_of, Ru.d, cellD]
  | .l c, m + 1, h, k, o, s, B, hs, ho, hf => by
    have a := w_lam (k + m) n c o s B hA hs ho hf
    rw [show k + m + 8 * n + 3 = k + 8 * n + 3 + m by omega] at a
    rw [show k + 8 * n + 3 + (m + 1) = (k + 8 * n + 3 + m) + 1 by omega, t_worth_of]
    unfold goR
    cases z : lookF (askF es w n) w c o s with
    | ok v o' s' =>
      rw [z] at a
      have a : _ = R.ok (D.int v) _ := a
      show _ = _
      simp [fnR, rho0, m_worth_of, Ru.d, cellD, wl, capAt_1, ls0, a]
    | er er o' s' =>
      rw [z] at a
      rcases a with a | a
      · exact .inl a
      · refine .inr ?_
        simp [fnR, rho0, m_worth_of, Ru.d, cellD, wl, capAt_1, ls0, a]
  | .two q x y, m + 1, h, k, o, s, B, hs, ho, hf => by
    have a := w_worth n hA hw he x m h.2.1 k o s B hs ho hf
    have gx := goR_ok (askF_ok he hw n) hw x m h.2.1 o s hs ho
    obtain ⟨n1, n2, n3⟩ := two_ne h.1
    rw [show k + 8 * n + 3 + (m + 1) = (k + 8 * n + 3 + m) + 1 by omega, t_worth_of]
    unfold goR
    cases z : goR (askF es w n) w x o s with
    | er er o' s' =>
      rw [z] at a
      rcases a with a | a
      · exact .inl a
      · refine .inr ?_
        simp [fnR, rho0, m_worth_of, Ru.d, cellD, n1, n2, n3, cloAt, a]
    | ok v o' s' =>
      rw [z] at a gx
      have a : _ = R.ok (D.int v) _ := a
      obtain ⟨g1, g2, g3, g4, g5⟩ := gx
      have b := w_worth n hA hw he y m h.2.2 k o' s' B g1.fi g3 hf
      show goQ A es w B ((goR (askF es w n) w y o' s').bind _) _
      cases z2 : goR (askF es w n) w y o' s' with
      | er er o' s' =>
        rw [z2] at b
        rcases b with b | b
        · exact .inl b
        · refine .inr ?_
          simp [fnR, rho0, m_worth_of, Ru.d, cellD, n1, n2, n3, cloAt, a, b]
      | ok v2 o2 s2 =>
        rw [z2] at b
        have b : _ = R.ok (D.int v2) _ := b
        have t := r_two (k + 8 * n + 2 + m) q v v2 (rst A es w (toRn s2 .non) (B ++ [.dct false (ownD o2)])) h.1 g5
        rw [show k + 8 * n + 2 + m + 1 = k + 8 * n + 3 + m by omega] at t
        show _ = _
        simp [fnR, rho0, m_worth_of, Ru.d, cellD, n1, n2, n3, cloAt, a, b, t]
  | .iff x y y2, m + 1, h, k, o, s, B, hs, ho, hf => by
    have a := w_worth n hA hw he x m h.1 k o s B hs ho hf
    have gx := goR_ok (askF_ok he hw n) hw x m h.1 o s hs ho
    rw [show k + 8 * n + 3 + (m + 1) = (k + 8 * n + 3 + m) + 1 by omega, t_worth_of]
    unfold goR
    cases z : goR (askF es w n) w x o s with
    | er er o' s' =>
      rw [z] at a
      rcases a with a | a
      · exact .inl a
      · refine .inr ?_
        simp [fnR, rho0, m_worth_of, Ru.d, cellD, fw, fl, cloAt, a]
    | ok v o' s' =>
      rw [z] at a gx
      have a : _ = R.ok (D.int v) _ := a
      obtain ⟨g1, g2, g3, g4, g5⟩ := gx
      show goQ A es w B (if v = 0 then goR (askF es w n) w y2 o' s' else goR (askF es w n) w y o' s') _
      by_cases hv : v = 0
      · rw [if_pos hv]
        have b := w_worth n hA hw he y2 m h.2.2 k o' s' B g1.fi g3 hf
        cases z2 : goR (askF es w n) w y2 o' s' with
        | er er o' s' =>
          rw [z2] at b
          rcases b with b | b
          · exact .inl b
          · refine .inr ?_
            simp [fnR, rho0, m_worth_of, Ru.d, cellD, fw, fl, cloAt, a, b, hv]
        | ok v2 o2 s2 =>
          rw [z2] at b
          have b : _ = R.ok (D.int v2) _ := b
          show _ = _
          simp [fnR, rho0, m_worth_of, Ru.d, cellD, fw, fl, cloAt, a, b, hv]
      · rw [if_neg hv]
        have b := w_worth n hA hw he y m h.2.1 k o' s' B g1.fi g3 hf
        cases z2 : goR (askF es w n) w y o' s' with
        | er er o' s' =>
          rw [z2] at b
          rcases b with b | b
          · exact .inl b
          · refine .inr ?_
            simp [fnR, rho0, m_worth_of, Ru.d, cellD, fw, fl, cloAt, a, b, hv]
        | ok v2 o2 s2 =>
          rw [z2] at b
          have b : _ = R.ok (D.int v2) _ := b
          show _ = _
          simp [fnR, rho0, m_worth_of, Ru.d, cellD, fw, fl, cloAt, a, b, hv]
end
end KW

namespace KW
open PySem L2 KL KU

section
variable {es : Bk} {w : Wd} {A : Sto}
theorem rst_ring {B : Sto} {r : Rn} (fl : List (Str × Str)) (d : D) : setFld fl "ring" A.length d (rst A es w r B) = some (rst A es w { r with ring := d } B) := by
  unfold setFld
  rw [rst_0]
  have e1 : (((rnF A.length w r.ring).lookup ("ring" : Str)).isSome || fl.contains (("Run" : Str), ("ring" : Str))) = true := by rw [rn8]; rfl
  have e2 : decide ((rnF A.length w r.ring).length < 1000) = true := rfl
  have e3 : putD "ring" d (rnF A.length w r.ring) = rnF A.length w d := rfl
  simp only [e1, e2, Bool.and_self, if_true, e3, rst_s0]
theorem go_ans {s' : Fs} {x : Nat} {v : Int} {o : Own} (h : s'.rows.lookup x = none) : vget (ansD (s'.rows ++ [(x, v, o)])) (S [x]) = some (.int v) := by
  rw [vget_ans]
  have : (s'.rows ++ [(x, v, o)]).lookup x = some (v, o) := by rw [List.lookup_append, h]; simp
  rw [this]
  rfl
theorem r_ask (hw : w.ok) (he : BkOk es) : ∀ n, AskAt es w A n
  | 0 => fun k x s B hs hf => .inl rfl
  | n + 1 => fun k x s B hs hf => by
    have hA := r_ask hw he n
    rw [show k + 8 * (n + 1) = (k + 8 * n + 7) + 1 by omega, t_Run_ask]
    unfold askF
    have vb := vget_bok es x
    have h5 := he.len
    have hl := hs.len
    have hb := hs.bg
    cases q : es.lookup x with
    | none =>
      rw [q] at vb
      refine .inr ?_
      simp [fnR, rho0, m_Run_ask, rn1, view_loc, vb, exN, exG]
    | some r =>
      rw [q] at vb
      simp only
      have il := fun st => in_lst (st := st) x s.path
      by_cases hp : x ∈ s.path
      · rw [if_pos hp]
        obtain ⟨i, li, di⟩ := lix_nm hp
        have il2 := fun rh => isL_loc (rh := rh) (rst_2 (A := A) (B := B) (es := es) (w := w) (r := toRn s .non))
        have cf := cut_from (s.path.map nmD) i
        have rr := rst_ring (A := A) (B := B) (es := es) (w := w) (r := toRn s .non) flD (ringD (ringF x s))
        have e : D.tup ((s.path.map nmD).drop i) = ringD (ringF x s) := by
          rw [← List.map_drop, di]
          rfl
        rw [← e] at rr
        refine .inr ?_
        show _ = R.ex "Ring" (rst A es w (toRn s (ringD (ringF x s))) B)
        rw [← e, show toRn s (D.tup ((s.path.map nmD).drop i)) = ⟨s.path.map nmD, s.begun.map nmD, s.seen.map nmD, ansD s.rows, s.rows.map rowD, D.tup ((s.path.map nmD).drop i)⟩ from rfl]
        simp [fnR, rho0, m_Run_ask, rn1, rn3, view_loc, vb, il, hp, il2, li, cf, rr]
      · rw [if_neg hp]
        have va := vget_ans s.rows x
        cases hr : s.rows.lookup x with
        | some v =>
          rw [hr] at va
          show _ = _
          simp [fnR, rho0, m_Run_ask, rn1, rn3, rn6, view_loc, vb, il, hp, va]
        | none =>
          rw [hr] at va
          have b := St2.beg hs q hp hr
          have g := goR_ok (askF_ok he hw n) hw r 4 (ru_of he q) [] (begF x s) b.fi OI.nil
          have a := w_worth n hA hw he r 4 (ru_of he q) k [] (begF x s) B b.fi OI.nil hf
          have eb : toRn (begF x s) .non = ⟨s.path.map nmD ++ [.str (S [x])], s.begun.map nmD ++ [.str (S [x])], s.seen.map nmD, ansD s.rows, s.rows.map rowD, .non⟩ := by simp [toRn, begF, nmD]
          rw [eb, show k + 8 * n + 3 + 4 = k + 8 * n + 7 by omega, show ownD [] = [] from rfl] at a
          have ap1 : appD (.str (S [x])) (s.path.map nmD) = some (s.path.map nmD ++ [.str (S [x])]) := app_ev (szL (by simp; omega))
          have ap2 : appD (.str (S [x])) (s.begun.map nmD) = some (s.begun.map nmD ++ [.str (S [x])]) := app_ev (szL (by simp; omega))
          have il2 := fun rh r B => isL_loc (rh := rh) (rst_2 (A := A) (B := B) (es := es) (w := w) (r := r))
          have ul2 := fun rh r B f => updL_loc (rh := rh) (f := f) (rst_2 (A := A) (B := B) (es := es) (w := w) (r := r))
          have il3 := fun rh r B => isL_loc (rh := rh) (rst_3 (A := A) (B := B) (es := es) (w := w) (r := r))
          have ul3 := fun rh r B f => updL_loc (rh := rh) (f := f) (rst_3 (A := A) (B := B) (es := es) (w := w) (r := r))
          simp only
          cases z : goR (askF es w n) w r [] (begF x s) with
          | er er o s' =>
            rw [z] at a
            rcases a with a | a
            · exact .inl a
            · refine .inr ?_
              have ct := rst_cut (es := es) (w := w) (s := s') (rg := exG er) (d := .non) (os := [.dct false (ownD o)]) hf (fun m => exG_below m er) rfl
              simp [fnR, rho0, m_Run_ask, rn1, rn3, rn4, rn6, view_loc, vb, il, hp, va, il2, ul2, il3, ul3, ap1, ap2, capsAt, a, ct]
          | ok v o s' =>
            rw [z] at a g
            have a : _ = R.ok (D.int v) _ := a
            obtain ⟨g1, g2, g3, g4, g5⟩ := g
            have hp' : s'.path = s.path ++ [x] := g2
            have fr := go_fresh g1.fi hp'
            have hl' := g1.fi.len
            have pa := put_ans (v := v) o fr
            have sa : (ansD s'.rows).length < sizeLine := by rw [len_ans]; exact szL (by omega)
            have p5 := rst_p5 (A := A) (B := B ++ [.dct false (ownD o)]) (es := es) (w := w) (r := toRn s' .non) (x := S [x]) (d := .int v) sa
            have p5 : KL.putAt (A.length + 5) (.str (S [x])) (.int v) (rst A es w (toRn s' .non) (B ++ [.dct false (ownD o)])) = some (rst A es w { toRn s' .non with ans := ansD (s'.rows ++ [(x, v, o)]) } (B ++ [.dct false (ownD o)])) := by rw [p5, ← pa]; rfl
            have L := fun r f2 => lk_own (st := rst A es w r (B ++ [.dct false (ownD o)])) (n := A.length + 7 + B.length) rst_l1 g3 (rh := [some (.val (.loc A.length)), some (.val (.str (S [x]))), some (.val (.loc (A.length + 7 + B.length))), none]) (i := 2) (j := 3) (f2 := f2) rfl (by decide) (by simp)
            have ga := go_ans (v := v) (o := o) fr
            have ap6 : appD (.tup [.str (S [x]), .int v, .tup (o.map lk1)]) (s'.rows.map rowD) = some (s'.rows.map rowD ++ [.tup [.str (S [x]), .int v, .tup (o.map lk1)]]) := app_ev (szL (by simp; omega))
            have il6 := fun rh r B => isL_loc (rh := rh) (rst_6 (A := A) (B := B) (es := es) (w := w) (r := r))
            have ul6 := fun rh r B f => updL_loc (rh := rh) (f := f) (rst_6 (A := A) (B := B) (es := es) (w := w) (r := r))
            have pm : s'.path.map nmD = s.path.map nmD ++ [nmD x] := by rw [hp']; simp
            have pl : (s.path.map nmD ++ [nmD x])[s.path.length]? = some (nmD x) := by rw [List.getElem?_append_right (by simp)]; simp
            have ee : toRn (endF x v o s') .non = ⟨s.path.map nmD, s'.begun.map nmD, s'.seen.map nmD, ansD (s'.rows ++ [(x, v, o)]), s'.rows.map rowD ++ [.tup [.str (S [x]), .int v, .tup (o.map lk1)]], .non⟩ := by simp [toRn, endF, hp', rowD, lkD]
            have ct := rst_cut (es := es) (w := w) (s := endF x v o s') (rg := .non) (d := .int v) (os := [.dct false (ownD o)]) hf (fun _ => rfl) rfl
            show _ = R.ok (D.int v) (rst A es w (toRn (endF x v o s') .non) B)
            rw [ee] at ct ⊢
            simp [fnR, rho0, m_Run_ask, rn1, rn3, rn4, rn6, rn7, view_loc, vb, il, hp, va, il2, ul2, il3, ul3, ap1, ap2, capsAt, a, p5, L, ga, il6, ul6, ap6, pm, pl, ct]
end
end KW

namespace KW
open PySem L2 KL KU

/-! ### stores that grow -/
section
variable {st : Sto} {l : List O}
theorem app_get (i : Nat) : (st ++ l)[st.length + i]? = l[i]? := by rw [List.getElem?_append_right (by omega), Nat.add_sub_cancel_left]
theorem app_get0 : (st ++ l)[st.length]? = l[0]? := app_get 0
theorem app_set (i : Nat) (o : O) : (st ++ l).set (st.length + i) o = st ++ l.set i o := by rw [List.set_append_right _ _ (by omega), Nat.add_sub_cancel_left]
theorem app_set0 (o : O) : (st ++ l).set st.length o = st ++ l.set 0 o := app_set 0 o
theorem setFld_app {fl : List (Str × Str)} {f C : Str} {d : D} {fs : List (Str × D)} (h : fl.contains (C, f) = true) (hl : fs.length < 1000) : setFld fl f st.length d (st ++ (.ins C fs :: l)) = some (st ++ (.ins C (putD f d fs) :: l)) := by
  unfold setFld
  rw [app_get0]
  simp only [List.getElem?_cons_zero, h, Bool.or_true, Bool.true_and, decide_eq_true_eq, hl, if_true, app_set0, List.set_cons_zero]
end
theorem cut_keep {n i : Nat} {d : D} {st : Sto} {o : O} (h : st[i]? = some o) (hi : i < n) (hb : belowO n o = false) : cut n d st = st := by
  unfold cut
  split
  · rfl
  · rw [if_neg]
    intro z
    rw [Bool.and_eq_true, List.all_eq_true] at z
    have := z.2 o (List.mem_of_getElem? (i := i) (by rw [List.getElem?_take_of_lt hi]; exact h))
    rw [hb] at this
    cases this
theorem Fit.two {st : Sto} (h : Fit st) : Fit2 st [] := fun o ho => by
  rw [List.append_nil] at ho
  exact belowO_up (by simp) (h o ho)
/-! ### books as dicts -/
theorem prs_bk : ∀ es : Bk, prsD (es.map entD) = some (bokD es)
  | [] => rfl
  | p :: es => by
    show (prsD (es.map entD)).map _ = _
    rw [prs_bk es]
    rfl
theorem merge_nd : ∀ (more kvs : List (Str × D)), ((kvs ++ more).map (·.1)).Nodup → mergeS kvs more = kvs ++ more
  | [], kvs, _ => by simp [mergeS]
  | (k, d) :: more, kvs, h => by
    have e : mergeS kvs ((k, d) :: more) = mergeS (putS kvs k d) more := rfl
    have hn : vget kvs k = none := by
      unfold vget
      rw [Option.map_eq_none_iff, List.find?_eq_none]
      intro p hp
      rw [List.map_append, List.nodup_append] at h
      have := h.2.2 p.1 (List.mem_map.mpr ⟨p, hp, rfl⟩) k (by simp)
      simpa using this
    rw [e, putS_new hn, merge_nd more (kvs ++ [(k, d)]) (by simpa using h)]
    simp
theorem bok_nd {es : Bk} (h : BkOk es) : ((bokD es).map (·.1)).Nodup := by
  have : (bokD es).map (·.1) = (es.map (·.1)).map fun c => S [c] := by simp [bokD]
  rw [this]
  refine List.Pairwise.map _ (fun a b hab => ?_) h.nodup
  intro z
  exact hab (by simpa using z)
theorem dict_bk {es : Bk} (h : BkOk es) (st : Sto) : dictD st (bkD es) = some (bokD es) := by
  show (prsD (es.map entD)).map (mergeS []) = _
  rw [prs_bk, Option.map_some, merge_nd _ _ (by simpa using bok_nd h)]
  rfl
/-! ### signs -/
def sgV (v : Int) : Str := S [48 + v.toNat]
theorem str_v3 {v : Int} (h : V3 v) : strD (.int v) = some (.str (sgV v)) := by
  rcases h with h | h | h <;> subst h <;> kernel_rfl
def sgn : An → Str
  | .ok v _ => sgV v
  | .er (.ring _) _ => "o"
  | .er _ _ => "?"
def An.s : An → Fs
  | .ok _ s => s
  | .er _ s => s
def An.g : An → D
  | .ok _ _ => .non
  | .er e _ => exG e
@[simp] theorem An.g_below (m : Nat) (a : An) : below m a.g = true := by cases a <;> simp [An.g, below]
/-! ### a run made -/
theorem pd0 {a0 : D} : putD "book" a0 [] = ([("book", a0)] : List (Str × D)) := rfl
theorem pd1 {a0 b0 : D} : putD "world" b0 [("book", a0)] = ([("book", a0), ("world", b0)] : List (Str × D)) := rfl
theorem pd2 {a0 b0 c0 : D} : putD "path" c0 [("book", a0), ("world", b0)] = ([("book", a0), ("world", b0), ("path", c0)] : List (Str × D)) := rfl
theorem pd3 {a0 b0 c0 d0 : D} : putD "begun" d0 [("book", a0), ("world", b0), ("path", c0)] = ([("book", a0), ("world", b0), ("path", c0), ("begun", d0)] : List (Str × D)) := rfl
theorem pd4 {a0 b0 c0 d0 e0 : D} : putD "seen" e0 [("book", a0), ("world", b0), ("path", c0), ("begun", d0)] = ([("book", a0), ("world", b0), ("path", c0), ("begun", d0), ("seen", e0)] : List (Str × D)) := rfl
theorem pd5 {a0 b0 c0 d0 e0 f0 : D} : putD "answers" f0 [("book", a0), ("world", b0), ("path", c0), ("begun", d0), ("seen", e0)] = ([("book", a0), ("world", b0), ("path", c0), ("begun", d0), ("seen", e0), ("answers", f0)] : List (Str × D)) := rfl
theorem pd6 {a0 b0 c0 d0 e0 f0 g0 : D} : putD "rows" g0 [("book", a0), ("world", b0), ("path", c0), ("begun", d0), ("seen", e0), ("answers", f0)] = ([("book", a0), ("world", b0), ("path", c0), ("begun", d0), ("seen", e0), ("answers", f0), ("rows", g0)] : List (Str × D)) := rfl
theorem pd7 {a0 b0 c0 d0 e0 f0 g0 h0 : D} : putD "ring" h0 [("book", a0), ("world", b0), ("path", c0), ("begun", d0), ("seen", e0), ("answers", f0), ("rows", g0)] = ([("book", a0), ("world", b0), ("path", c0), ("begun", d0), ("seen", e0), ("answers", f0), ("rows", g0), ("ring", h0)] : List (Str × D)) := rfl
theorem r_init (k : Nat) {es : Bk} (he : BkOk es) (w : Wd) (st : Sto) : tbl dfs (k + 1) "Run.__init__" [.loc st.length, bkD es, wdD w] (st ++ [.ins "Run" []]) = .ok .non (rst st es w (toRn fs0 .non) []) := by
  rw [t_Run___init]
  have db := fun s => dict_bk he s
  have f1 := fun fs l d h => setFld_app (st := st) (l := l) (fl := flD) (C := "Run") (f := "book") (d := d) (fs := fs) (by decide +kernel) h
  have f2 := fun fs l d h => setFld_app (st := st) (l := l) (fl := flD) (C := "Run") (f := "world") (d := d) (fs := fs) (by decide +kernel) h
  have f3 := fun fs l d h => setFld_app (st := st) (l := l) (fl := flD) (C := "Run") (f := "path") (d := d) (fs := fs) (by decide +kernel) h
  have f4 := fun fs l d h => setFld_app (st := st) (l := l) (fl := flD) (C := "Run") (f := "begun") (d := d) (fs := fs) (by decide +kernel) h
  have f5 := fun fs l d h => setFld_app (st := st) (l := l) (fl := flD) (C := "Run") (f := "seen") (d := d) (fs := fs) (by decide +kernel) h
  have f6 := fun fs l d h => setFld_app (st := st) (l := l) (fl := flD) (C := "Run") (f := "answers") (d := d) (fs := fs) (by decide +kernel) h
  have f7 := fun fs l d h => setFld_app (st := st) (l := l) (fl := flD) (C := "Run") (f := "rows") (d := d) (fs := fs) (by decide +kernel) h
  have f8 := fun fs l d h => setFld_app (st := st) (l := l) (fl := flD) (C := "Run") (f := "ring") (d := d) (fs := fs) (by decide +kernel) h
  have fin0 : cut (st.length + 1) .non (rst st es w (toRn fs0 .non) []) = rst st es w (toRn fs0 .non) [] := cut_keep rst_0 (by omega) (by simp [belowO, rnF, belowF, below])
  have hr : st ++ [.ins "Run" (rnF st.length w .non), .dct false (bokD es), .lst [], .lst [], .lst [], .dct false [], .lst []] = rst st es w (toRn fs0 .non) [] := by simp [rst, runO, toRn, fs0, ansD]
  simp only [fnR, rho0, m_Run___init, List.map_cons, List.map_nil, cellD_loc, bk_cell, wd_cell, List.length_cons, List.length_nil, List.length_append, sSeq_ev, sFldS_ev, eDict_ev, eVar_ev, List.append_nil, List.cons_append, List.nil_append, Nat.sub_self, List.replicate_zero, List.getElem?_cons_zero, List.getElem?_cons_succ, R.bind_ok, bk_view, Option.bind_some, db, onR_ok, held_d]
  simp [f1, f2, f3, f4, f5, f6, f7, f8, pd0, pd1, pd2, pd3, pd4, pd5, pd6, pd7]
  simp only [rnF] at hr
  rw [hr]
  exact fin0
def ask0 (es : Bk) (w : Wd) (x : Nat) : An := askF es w 6 x fs0
theorem ask0_fuel {es : Bk} (he : BkOk es) {w : Wd} (hw : w.ok) (x : Nat) : ¬ (ask0 es w x).isFuel := askF_fuel he hw 6 x fs0 (FI.zero es) (by have := he.len; simp [fs0]; omega)
theorem ask0_ok {es : Bk} (he : BkOk es) {w : Wd} (hw : w.ok) (x : Nat) : AnOk es fs0 (ask0 es w x) := askF_ok he hw 6 x fs0 (FI.zero es)
theorem ne_ring (r : List Nat) : ringD r ≠ .non := by intro h; cases h
theorem is_ring (r : List Nat) : isD (ringD r) .non = some false := rfl
@[simp] theorem ring_view (r : List Nat) (rh : Rho) (st : Sto) : view rh st (.d (ringD r)) = some (ringD r) := rfl
theorem xn1 : ("NoAsk" : Str) ≠ "LookError" := by decide
theorem xn2 : ("Ring" : Str) ≠ "LookError" := by decide
theorem xn3 : ("Ring" : Str) ≠ "NoAsk" := by decide
theorem xn4 : ("Ring" : Str) ≠ "NoKept" := by decide
theorem xn5 : ("Ring" : Str) ≠ "NoText" := by decide
theorem r_run_of (k : Nat) {es : Bk} (he : BkOk es) {w : Wd} (hw : w.ok) (x : Nat) (st : Sto) (hf : Fit st) : tbl dfs (k + 49) "run_of" [bkD es, wdD w, .str (S [x])] st = .ok (.tup [.loc st.length, .str (sgn (ask0 es w x))]) (rst st es w (toRn (ask0 es w x).s (ask0 es w x).g) []) := by
  rw [show k + 49 = (k + 48) + 1 from rfl, t_run_of]
  have i := r_init (k + 47) he w st
  rw [show k + 47 + 1 = k + 48 from rfl] at i
  have a := r_ask (A := st) hw he 6 k x fs0 [] (FI.zero es) hf.two
  have nf := ask0_fuel he hw x
  have ok := ask0_ok he hw x
  change anR st es w [] (ask0 es w x) _ at a
  rw [show k + 8 * 6 = k + 48 from rfl] at a
  have cr : ∀ (y : Str) (s' : Sto), cut st.length (.tup [.loc st.length, .str y]) s' = s' := fun y s' => cut_ref (by simp [below, belows])
  cases q : ask0 es w x with
  | ok v s =>
    rw [q] at a ok
    have a : _ = R.ok (D.int v) _ := a
    have sv := str_v3 ok.2.2
    simp [fnR, rho0, m_run_of, i, ml_ask, a, sv, sgn, An.s, An.g, cr]
  | er e s =>
    rw [q] at a nf
    cases e with
    | fuel => exact absurd trivial nf
    | noask =>
      rcases a with a | a
      · cases a
      · simp [fnR, rho0, m_run_of, i, ml_ask, a, sgn, An.s, An.g, cr, exN, exG, xn1, rn8, noEx, view_loc]
    | ring r =>
      rcases a with a | a
      · cases a
      · simp [fnR, rho0, m_run_of, i, ml_ask, a, sgn, An.s, An.g, cr, exN, exG, xn2, xn3, xn4, xn5, rn8, noEx, view_loc, is_ring]
end KW

namespace KW
open PySem L2 KL KU

/-! ### loops -/
theorem cLoop_fm {α : Type} {tg : Tg} {fc fe : Sm} {rhw : Rho} {st : Sto} (g : α → D) (p : α → Bool) (f : α → D) : ∀ xs : List α, (∀ a ∈ xs, ∃ rh', tgSet tg (g a) rhw = some rh' ∧ fc rh' st = .ok (.d (.bl (p a))) st ∧ (p a = true → cElt fe rh' st = .ok (f a) st)) → cLoop tg (some fc) fe rhw (xs.map g) st = .ok ((xs.filter p).map f) st
  | [], _ => rfl
  | d :: ds, h => by
    obtain ⟨rh', h1, h2, h3⟩ := h d List.mem_cons_self
    rw [List.map_cons]
    unfold cLoop
    rw [h1]
    have ih := cLoop_fm g p f ds fun d hd => h d (List.mem_cons_of_mem _ hd)
    simp only [oR_some, R.bind_ok, cTest, h2, ih]
    cases hp : p d with
    | false => simp [List.filter_cons, hp]
    | true => simp [List.filter_cons, hp, h3 hp, ih]
theorem cLoop_mm {α : Type} {tg : Tg} {fe : Sm} {rhw : Rho} {st : Sto} (g : α → D) (f : α → D) : ∀ xs : List α, (∀ a ∈ xs, ∃ rh', tgSet tg (g a) rhw = some rh' ∧ cElt fe rh' st = .ok (f a) st) → cLoop tg none fe rhw (xs.map g) st = .ok (xs.map f) st
  | [], _ => rfl
  | d :: ds, h => by
    obtain ⟨rh', h1, h2⟩ := h d List.mem_cons_self
    rw [List.map_cons]
    unfold cLoop
    rw [h1]
    have ih := cLoop_mm g f ds fun d hd => h d (List.mem_cons_of_mem _ hd)
    simp only [oR_some, R.bind_ok, cTest, h2, ih, List.map_cons]
/-- the store grows on the way -/
theorem cLoop_grow {α : Type} {tg : Tg} {fe : Sm} {rhw : Rho} (g : α → D) (f : α → D) (I : Sto → Prop) : ∀ (xs : List α) (st : Sto), I st → (∀ a ∈ xs, ∃ rh', tgSet tg (g a) rhw = some rh' ∧ ∀ st, I st → ∃ st', I st' ∧ cElt fe rh' st = .ok (f a) st') → ∃ st', I st' ∧ cLoop tg none fe rhw (xs.map g) st = .ok (xs.map f) st'
  | [], st, hi, _ => ⟨st, hi, rfl⟩
  | d :: ds, st, hi, h => by
    obtain ⟨rh', h1, h2⟩ := h d List.mem_cons_self
    obtain ⟨st1, i1, e1⟩ := h2 st hi
    obtain ⟨st2, i2, ih⟩ := cLoop_grow g f I ds st1 i1 fun d hd => h d (List.mem_cons_of_mem _ hd)
    refine ⟨st2, i2, ?_⟩
    rw [List.map_cons]
    unfold cLoop
    rw [h1]
    simp only [oR_some, R.bind_ok, cTest, e1, ih, List.map_cons]
theorem sLoop_inv {α : Type} {tg : Tg} {body : Ss} (g : α → D) (I : Rho → Sto → Prop) : ∀ (xs : List α) (rh : Rho) (st : Sto), I rh st → (∀ a ∈ xs, ∀ rh st, I rh st → ∃ rh1 rh2 st2, tgSet tg (g a) rh = some rh1 ∧ body rh1 st = .nx rh2 st2 ∧ I rh2 st2) → ∃ rh' st', sLoop tg body (xs.map g) rh st = .nx rh' st' ∧ I rh' st'
  | [], rh, st, hi, _ => ⟨rh, st, rfl, hi⟩
  | a :: xs, rh, st, hi, h => by
    obtain ⟨rh1, rh2, st2, h1, h2, h3⟩ := h a List.mem_cons_self rh st hi
    obtain ⟨rh', st', e, q⟩ := sLoop_inv g I xs rh2 st2 h3 fun b hb => h b (List.mem_cons_of_mem _ hb)
    refine ⟨rh', st', ?_, q⟩
    rw [List.map_cons, sLoop_cons, h1]
    simp only [h2]
    exact e
theorem num_zip {α : Type} (g : α → D) : ∀ (xs : List α) (n : Nat), numFrom n (xs.map g) = (xs.zipIdx n).map fun q => .raw [.int (q.2 : Nat), g q.1]
  | [], _ => rfl
  | x :: xs, n => by
    rw [List.map_cons, List.zipIdx_cons, List.map_cons, ← num_zip g xs (n + 1)]
    rfl
theorem zip_filter {α β : Type} (P : α → Bool) (F : α → β) : ∀ (xs : List α) (n : Nat), ((xs.zipIdx n).filter fun q => P q.1).map (fun q => F q.1) = (xs.filter P).map F
  | [], _ => rfl
  | x :: xs, n => by
    rw [List.zipIdx_cons]
    by_cases h : P x = true
    · rw [List.filter_cons_of_pos (by exact h), List.filter_cons_of_pos h, List.map_cons, List.map_cons, zip_filter P F xs (n + 1)]
    · rw [List.filter_cons_of_neg (by exact h), List.filter_cons_of_neg h, zip_filter P F xs (n + 1)]
def intsTo (n : Nat) : List Int := (List.range n).map fun (i : Nat) => (i : Int)
theorem rng_ev {n : Nat} (h : n ≤ 1000) (G : Sto) (rh : Rho) : iOne rng1 (eC (.int (n : Nat))) rh G = .ok ((List.range n).map fun i => .int (i : Nat)) G := iOne_ok rfl rfl rfl (rng1_ev (by omega))
/-! ### fit stores -/
theorem fit_rst {st : Sto} {es : Bk} {w : Wd} {s : Fs} {rg : D} (h : Fit st) (hr : ∀ m, below m rg = true) : Fit (rst st es w (toRn s rg) []) := fun o ho => by
  have := rst_fit (es := es) (w := w) (s := s) h.two hr o ho
  simpa using this
theorem cut_rst {st : Sto} {es : Bk} {w : Wd} {r : Rn} {d : D} (h : Fit st) (hd : below st.length d = true) : cut st.length d (rst st es w r []) = st := cut_app rfl hd h
def Wd.put (w : Wd) (c : Nat) (v : Int) : Wd := if c = 97 then { w with a := v } else if c = 98 then { w with b := v } else { w with c := v }
theorem Wd.put_ok {w : Wd} (h : w.ok) {v : Int} (hv : V3 v) (c : Nat) : (w.put c v).ok := by
  unfold Wd.put
  split
  · exact ⟨hv, h.2⟩
  · split
    · exact ⟨h.1, hv, h.2.2⟩
    · exact ⟨h.1, h.2.1, hv⟩
theorem names_sm {n : Nat} {l : List Nat} (h : l.length ≤ 1000) : smD (n + 1) (.tup (l.map nmD)) = true := by
  simp only [smD, Bool.and_eq_true, decide_eq_true_eq, List.all_eq_true, List.length_map]
  refine ⟨h, fun d hd => ?_⟩
  obtain ⟨c, _, rfl⟩ := List.mem_map.mp hd
  cases n <;> rfl
end KW

namespace KW
open PySem L2 KL KU
abbrev V (d : D) : Option Cell := some (.val d)
def names5 : List Nat := [65, 66, 67, 68, 69]
theorem items_names : itemsD (.str "ABCDE") = some (names5.map nmD) := by kernel_rfl
theorem int_sg {v : Int} (h : V3 v) : intD (.str (sgV v)) = some (.int v) := by rcases h with h | h | h <;> subst h <;> kernel_rfl
theorem in_qo {st : Sto} {v : Int} (h : V3 v) : inD st (.str (sgV v)) (.tup [.str "?", .str "o"]) = some false := by rcases h with h | h | h <;> subst h <;> kernel_rfl
theorem in_q {st : Sto} : inD st (.str "?") (.tup [.str "?", .str "o"]) = some true := by kernel_rfl
theorem in_o {st : Sto} : inD st (.str "o") (.tup [.str "?", .str "o"]) = some true := by kernel_rfl
theorem ne_so {v : Int} (h : V3 v) : sgV v ≠ "o" := by rcases h with h | h | h <;> subst h <;> decide +kernel
theorem ne_qo : ("?" : Str) ≠ "o" := by decide
theorem lk_sm {n : Nat} {o : Own} (h : OI o) : smD (n + 2) (lkD o) = true := by
  have := h.len
  simp only [lkD, smD, Bool.and_eq_true, decide_eq_true_eq, List.all_eq_true, List.length_map]
  refine ⟨by omega, fun d hd => ?_⟩
  obtain ⟨p, _, rfl⟩ := List.mem_map.mp hd
  cases n <;> simp [lk1, smD]
theorem ask0_fi {es : Bk} (he : BkOk es) {w : Wd} (hw : w.ok) (x : Nat) : FI es (ask0 es w x).s := by
  have ok := ask0_ok he hw x
  cases q : ask0 es w x with
  | ok v s => rw [q] at ok; exact ok.1.fi
  | er e s => rw [q] at ok; exact ok.1.fi
@[simp] theorem lkD_view (o : Own) (rh : Rho) (st : Sto) : view rh st (.d (lkD o)) = some (lkD o) := rfl
@[simp] theorem lkD_cell (o : Own) : cellD (lkD o) = .val (lkD o) := rfl
/-! rings are short -/
theorem goR_ring {es : Bk} {A : Nat → Fs → An} (hA : ∀ x s, FI es s → AnOk es s (A x s)) (hR : ∀ x s r s', FI es s → A x s = .er (.ring r) s' → r.length ≤ es.length) {w : Wd} (hw : w.ok) : ∀ (r : Ru) (n : Nat), r.ok n → ∀ (o : Own) (s : Fs) (l : List Nat) (o' : Own) (s' : Fs), FI es s → OI o → goR A w r o s = .er (.ring l) o' s' → l.length ≤ es.length
  | _, 0, h, _, _, _, _, _, _, _, _ => h.elim
  | .w i, _ + 1, _, o, s, l, o', s', hs, ho, h => by cases h
  | .l c, _ + 1, _, o, s, l, o', s', hs, ho, h => by
    unfold goR lookF at h
    cases q : o.lookup c with
    | some v => rw [q] at h; cases h
    | none =>
      rw [q] at h
      simp only at h
      by_cases hc : isCell c = true
      · rw [if_pos hc] at h; cases h
      · rw [if_neg hc] at h
        cases z : A c s with
        | ok v s2 => rw [z] at h; cases h
        | er e s2 =>
          rw [z] at h
          cases h
          exact hR c s l s' hs z
  | .two q a b, n + 1, hk, o, s, l, o', s', hs, ho, h => by
    unfold goR at h
    have g := goR_ok hA hw a n hk.2.1 o s hs ho
    cases z : goR A w a o s with
    | er e o2 s2 =>
      rw [z] at h
      cases h
      exact goR_ring hA hR hw a n hk.2.1 o s l o' s' hs ho z
    | ok v o2 s2 =>
      rw [z] at h g
      change (goR A w b o2 s2).bind _ = _ at h
      cases z2 : goR A w b o2 s2 with
      | er e o3 s3 =>
        rw [z2] at h
        cases h
        exact goR_ring hA hR hw b n hk.2.2 o2 s2 l o' s' g.1.fi g.2.2.1 z2
      | ok v3 o3 s3 => rw [z2] at h; cases h
  | .iff t a b, n + 1, hk, o, s, l, o', s', hs, ho, h => by
    unfold goR at h
    have g := goR_ok hA hw t n hk.1 o s hs ho
    cases z : goR A w t o s with
    | er e o2 s2 =>
      rw [z] at h
      cases h
      exact goR_ring hA hR hw t n hk.1 o s l o' s' hs ho z
    | ok v o2 s2 =>
      rw [z] at h g
      change (if v = 0 then goR A w b o2 s2 else goR A w a o2 s2) = _ at h
      split at h
      · exact goR_ring hA hR hw b n hk.2.2 o2 s2 l o' s' g.1.fi g.2.2.1 h
      · exact goR_ring hA hR hw a n hk.2.1 o2 s2 l o' s' g.1.fi g.2.2.1 h
theorem askF_ring {es : Bk} (he : BkOk es) {w : Wd} (hw : w.ok) : ∀ (n x : Nat) (s : Fs) (r : List Nat) (s' : Fs), FI es s → askF es w n x s = .er (.ring r) s' → r.length ≤ es.length
  | 0, _, _, _, _, _, h => by cases h
  | n + 1, x, s, r, s', hs, h => by
    unfold askF at h
    cases q : es.lookup x with
    | none => rw [q] at h; cases h
    | some ru =>
      rw [q] at h
      simp only at h
      by_cases hp : x ∈ s.path
      · rw [if_pos hp] at h
        cases h
        have l := hs.len
        have : (ringF x s).length ≤ s.path.length := (List.dropWhile_sublist _).length_le
        omega
      · rw [if_neg hp] at h
        cases hr : s.rows.lookup x with
        | some v => rw [hr] at h; cases h
        | none =>
          rw [hr] at h
          simp only at h
          have b := St2.beg hs q hp hr
          cases z : goR (askF es w n) w ru [] (begF x s) with
          | ok v o s2 => rw [z] at h; cases h
          | er e o s2 =>
            rw [z] at h
            cases h
            exact goR_ring (askF_ok he hw n) (fun x s r s' hs h => askF_ring he hw n x s r s' hs h) hw ru 4 (ru_of he q) [] (begF x s) r o s' b.fi OI.nil z
end KW

namespace KW
open PySem L2 KL KU
theorem r_with_cell (k : Nat) (w : Wd) (v : Int) (st : Sto) : ∀ c ∈ [97, 98, 99], tbl dfs (k + 1) "with_cell" [wdD w, .int ((c - 97 : Nat) : Int), .int v] st = .ok (wdD (w.put c v)) st := by
  intro c hc
  rw [t_with_cell]
  have add : ∀ (as bs : List D), as.length + bs.length ≤ 100 → binD .Add (.tup as) (.tup bs) = some (.d (.tup (as ++ bs))) := fun as bs hb => bin_add_tup (szB (by omega))
  simp only [List.mem_cons, List.not_mem_nil, or_false] at hc
  have c0 : ∀ ds : List D, cutD ds none (some 0) = ds.take 0 := fun ds => cut_to ds 0
  have c2 : ∀ ds : List D, cutD ds none (some 2) = ds.take 2 := fun ds => cut_to ds 2
  have d2 : ∀ ds : List D, cutD ds (some 2) none = ds.drop 2 := fun ds => cut_from ds 2
  have d3 : ∀ ds : List D, cutD ds (some 3) none = ds.drop 3 := fun ds => cut_from ds 3
  rcases hc with h | h | h <;> subst h
  · simp [fnR, rho0, m_with_cell, wdD, add, c0, Wd.put]
  · simp [fnR, rho0, m_with_cell, wdD, add, d2, Wd.put]
  · simp [fnR, rho0, m_with_cell, wdD, add, c2, d3, Wd.put]
end KW

namespace KW
open PySem L2 KL KU
theorem r_sign_of (k : Nat) {es : Bk} (he : BkOk es) {w : Wd} (hw : w.ok) (x : Nat) (st : Sto) (hf : Fit st) : tbl dfs (k + 50) "sign_of" [bkD es, wdD w, .str (S [x])] st = .ok (.str (sgn (ask0 es w x))) st := by
  rw [show k + 50 = (k + 49) + 1 from rfl, t_sign_of]
  have a := r_run_of k he hw x st hf
  have ct := cut_rst (es := es) (w := w) (r := toRn (ask0 es w x).s (ask0 es w x).g) (d := .str (sgn (ask0 es w x))) hf rfl
  simp [fnR, rho0, m_sign_of, a, ct]
end KW

namespace KW
open PySem L2 KL KU
def cells3 : List Nat := [97, 98, 99]
theorem items_abc : itemsD (.str "abc") = some (cells3.map nmD) := by kernel_rfl
def freeL (seen : List Nat) : List Nat := cells3.filter fun c => !decide (c ∈ seen)
theorem r_free (k : Nat) {es : Bk} (he : BkOk es) {w : Wd} (hw : w.ok) (x : Nat) (st : Sto) (hf : Fit st) : tbl dfs (k + 50) "free" [bkD es, wdD w, .str (S [x])] st = .ok (.tup ((freeL (ask0 es w x).s.seen).map nmD)) st := by
  rw [show k + 50 = (k + 49) + 1 from rfl, t_free]
  have a := r_run_of k he hw x st hf
  have ct := cut_rst (es := es) (w := w) (r := toRn (ask0 es w x).s (ask0 es w x).g) (d := .tup ((freeL (ask0 es w x).s.seen).map nmD)) hf (belows_map _ _ (nm_below _) _)
  have comp : ∀ rhw : Rho, rhw = [some (.val (bkD es)), some (.val (wdD w)), some (.val (.str (S [x]))), some (.val (.loc (st.length + 4))), none] → cLoop (.name 4) (some (eCmp .NotIn (eVar 4) (eVar 3))) (eVar 4) rhw (cells3.map nmD) (rst st es w (toRn (ask0 es w x).s (ask0 es w x).g) []) = .ok ((cells3.filter fun c => !decide (c ∈ (ask0 es w x).s.seen)).map nmD) (rst st es w (toRn (ask0 es w x).s (ask0 es w x).g) []) := by
    intro rhw e
    subst e
    refine cLoop_fm nmD _ nmD _ fun c hc => ⟨_, rfl, ?_, fun _ => ?_⟩
    · have i2 := fun st => in_lst (st := st) c (ask0 es w x).s.seen
      simp [nmD, view_loc, i2]
    · simp [cElt, nmD]
  have E := comp_ok (fi := iOne itemsD (eC (Kc.d (.str "abc")))) (rh := [some (.val (bkD es)), some (.val (wdD w)), some (.val (.str (S [x]))), some (.val (.loc (st.length + 4))), none]) (vs := [4]) (iOne_ok (d := .str "abc") rfl rfl rfl items_abc) (by simp [cells3]; exact sz (by decide)) (comp _ rfl)
  change eComp _ _ _ _ _ _ _ = R.ok (.fr ((freeL (ask0 es w x).s.seen).map nmD)) _ at E
  simp [-eComp_ev, fnR, rho0, m_free, a, view_loc, rn5, E, ct]
end KW

namespace KW
open PySem L2 KL KU
/-! ### all worlds -/
def wl27 : List Wd := (List.range 27).map fun n : Nat => ⟨(n : Int) / 9, (n : Int) / 3 % 3, (n : Int) % 3⟩
theorem wl_ok : ∀ w ∈ wl27, w.ok := by
  unfold Wd.ok
  decide +kernel
theorem wl_len : wl27.length = 27 := by simp [wl27]
theorem r_worlds (k : Nat) (st : Sto) : tbl dfs (k + 1) "_law_worlds" [] st = .ok (.lst (wl27.map wdD)) st := by
  rw [t_law_worlds]
  have comp : cLoop (.name 0) none (eTup [(eBin .FloorDiv (eVar 0) (eC (.int 9))), (eBin .Mod (eBin .FloorDiv (eVar 0) (eC (.int 3))) (eC (.int 3))), (eBin .Mod (eVar 0) (eC (.int 3)))]) [none] ((List.range 27).map fun i : Nat => .int (i : Nat)) st = .ok ((List.range 27).map fun n : Nat => wdD ⟨(n : Int) / 9, (n : Int) / 3 % 3, (n : Int) % 3⟩) st := by
    refine cLoop_mm (fun i : Nat => .int (i : Nat)) _ _ fun i _ => ⟨_, rfl, ?_⟩
    have d9 := bin_div (i := (i : Int)) (j := 9) (by decide)
    have d3 := bin_div (i := (i : Int)) (j := 3) (by decide)
    have m3 := fun z => bin_mod (i := z) (j := 3) (by decide)
    simp [cElt, d9, d3, m3, wdD]
  have E := comp_ok (fi := iOne rng1 (eC (.int 27))) (rh := [none]) (vs := [0]) (rng_ev (n := 27) (by decide) st [none]) (by simp; exact sz (by decide)) comp
  have e2 : wl27.map wdD = (List.range 27).map fun n : Nat => wdD ⟨(n : Int) / 9, (n : Int) / 3 % 3, (n : Int) % 3⟩ := by
    unfold wl27
    rw [List.map_map]
    rfl
  rw [e2]
  simp only [fnR, rho0, m_law_worlds, sRet_ev]
  have E : eComp [0] (.name 0) (iOne rng1 (eC (.int 27))) none (eTup [(eBin .FloorDiv (eVar 0) (eC (.int 9))), (eBin .Mod (eBin .FloorDiv (eVar 0) (eC (.int 3))) (eC (.int 3))), (eBin .Mod (eVar 0) (eC (.int 3)))]) [none] st = _ := E
  simp only [List.map_nil, List.nil_append, List.length_nil, Nat.sub_zero, List.replicate] at *
  rw [E]
  simp
end KW

namespace KW
open PySem L2 KL KU
theorem all_run (k : Nat) (st : Sto) : m_all_worlds (tbl dfs k) [none, none, none, none] st = .rt (.lst (wl27.map wdD)) st := by kernel_rfl
theorem r_all_worlds (k : Nat) (st : Sto) : tbl dfs (k + 1) "all_worlds" [] st = .ok (.lst (wl27.map wdD)) st := by
  rw [t_all_worlds]
  have e0 : fnR 4 (m_all_worlds (tbl dfs k)) [] st = fin st.length (m_all_worlds (tbl dfs k) [none, none, none, none] st) := rfl
  rw [e0, all_run]
  simp
end KW

namespace KW
open PySem L2 KL KU
theorem sgn_len (a : An) : (sgn a).length = 1 := by
  cases a with
  | ok v s => simp [sgn, sgV]
  | er e s => cases e <;> rfl
def sg27 (es : Bk) (x : Nat) : List Str := wl27.map fun w => sgn (ask0 es w x)
def tabS (es : Bk) (x : Nat) : Str := Txt.join "" (sg27 es x)
theorem strs_map : ∀ ys : List Str, strsD (ys.map .str) = some ys
  | [] => rfl
  | y :: ys => by
    show (strsD (ys.map .str)).map _ = _
    rw [strs_map ys]
    rfl
theorem sum_ones : ∀ ys : List Str, (∀ y ∈ ys, y.length = 1) → (ys.map (·.length)).sum = ys.length
  | [], _ => rfl
  | y :: ys, h => by
    rw [List.map_cons, List.sum_cons, h y List.mem_cons_self, sum_ones ys fun z hz => h z (List.mem_cons_of_mem _ hz), List.length_cons]
    omega
theorem sg27_len (es : Bk) (x : Nat) : (sg27 es x).length = 27 := by simp [sg27, wl27]
theorem join27 (es : Bk) (x : Nat) : joinD "" (.lst ((sg27 es x).map .str)) = some (.d (.str (tabS es x))) := by
  unfold joinD
  simp only [strs_map]
  have h1 := sum_ones (sg27 es x) (fun y hy => by
    obtain ⟨w, _, rfl⟩ := List.mem_map.mp hy
    exact sgn_len _)
  have h2 := sg27_len es x
  have h3 : ("" : Str).length = 0 := rfl
  simp only [Option.bind_some]
  rw [if_pos (by rw [h1, h2, h3]; decide)]
  rfl
theorem r_table (k : Nat) {es : Bk} (he : BkOk es) (x : Nat) (st : Sto) (hf : Fit st) : tbl dfs (k + 51) "table" [bkD es, .str (S [x])] st = .ok (.str (tabS es x)) st := by
  rw [show k + 51 = (k + 50) + 1 from rfl, t_table]
  have wl := r_all_worlds (k + 49) st
  rw [show k + 49 + 1 = k + 50 from rfl] at wl
  have comp : cLoop (.name 2) none (eCall (tbl dfs (k + 50)) "sign_of" [.e (eVar 0), .e (eVar 2), .e (eVar 1)]) [V (bkD es), V (.str (S [x])), none] (wl27.map wdD) st = .ok (wl27.map fun w => .str (sgn (ask0 es w x))) st := by
    refine cLoop_mm wdD _ _ fun w hw => ⟨_, rfl, ?_⟩
    have q := r_sign_of k he (wl_ok w hw) x st hf
    simp [cElt, q]
  have e1 : (wl27.map fun w => D.str (sgn (ask0 es w x))) = (sg27 es x).map .str := by
    unfold sg27
    rw [List.map_map]
    rfl
  rw [e1] at comp
  have E := comp_ok (st := st) (fi := iOne itemsD (eCall (tbl dfs (k + 50)) "all_worlds" [])) (rh := [V (bkD es), V (.str (S [x])), none]) (vs := [2]) (iOne_ok (t := .d (.lst (wl27.map wdD))) (d := .lst (wl27.map wdD)) (st1 := st) (by simp [wl]) rfl rfl rfl) (by rw [List.length_map, wl_len]; exact sz (by decide)) comp
  have j := join27 es x
  simp [-eComp_ev, fnR, rho0, m_table, E, j]
end KW

namespace KW
open PySem L2 KL KU
/-! ### the least world in which two books are unlike -/
def unl (es es' : Bk) (x : Nat) (w : Wd) : Bool := !decide (sgn (ask0 es w x) = sgn (ask0 es' w x))
def optW : Option Wd → D
  | some w => wdD w
  | none => .non
theorem part_loop (k : Nat) {es es' : Bk} (he : BkOk es) (he' : BkOk es') (x : Nat) (st : Sto) (hf : Fit st) : ∀ (ws : List Wd) (v3 : Option Cell), (∀ w ∈ ws, w.ok) → (match ws.find? (unl es es' x) with
    | some w => sLoop (.name 3) (b_parting_1 (tbl dfs (k + 50))) (ws.map wdD) [V (bkD es), V (bkD es'), V (.str (S [x])), v3] st = .rt (wdD w) st
    | none => ∃ v3', sLoop (.name 3) (b_parting_1 (tbl dfs (k + 50))) (ws.map wdD) [V (bkD es), V (bkD es'), V (.str (S [x])), v3] st = .nx [V (bkD es), V (bkD es'), V (.str (S [x])), v3'] st)
  | [], v3, _ => ⟨v3, rfl⟩
  | w :: ws, v3, h => by
    have hw := h w List.mem_cons_self
    have q1 := r_sign_of k he hw x st hf
    have q2 := r_sign_of k he' hw x st hf
    have ih := part_loop k he he' x st hf ws (V (wdD w)) fun u hu => h u (List.mem_cons_of_mem _ hu)
    have b : b_parting_1 (tbl dfs (k + 50)) [V (bkD es), V (bkD es'), V (.str (S [x])), V (wdD w)] st = if unl es es' x w then .rt (wdD w) st else .nx [V (bkD es), V (bkD es'), V (.str (S [x])), V (wdD w)] st := by
      unfold unl
      by_cases e : sgn (ask0 es w x) = sgn (ask0 es' w x)
      · simp [b_parting_1, q1, q2, e]
      · simp [b_parting_1, q1, q2, e]
    rw [List.map_cons, sLoop_cons]
    simp only [tg_name_ev, List.set_cons_succ, List.set_cons_zero, b]
    by_cases e : unl es es' x w = true
    · rw [List.find?_cons_of_pos e]
      simp only [e, if_true]
    · rw [List.find?_cons_of_neg e]
      simp only [e, Bool.false_eq_true, if_false]
      exact ih
theorem r_parting (k : Nat) {es es' : Bk} (he : BkOk es) (he' : BkOk es') (x : Nat) (st : Sto) (hf : Fit st) : tbl dfs (k + 51) "parting" [bkD es, bkD es', .str (S [x])] st = .ok (optW (wl27.find? (unl es es' x))) st := by
  rw [show k + 51 = (k + 50) + 1 from rfl, t_parting]
  have wl := r_all_worlds (k + 49) st
  rw [show k + 49 + 1 = k + 50 from rfl] at wl
  have L := part_loop k he he' x st hf wl27 none wl_ok
  have e0 : fnR 4 (m_parting (tbl dfs (k + 50))) [bkD es, bkD es', .str (S [x])] st = fin st.length (m_parting (tbl dfs (k + 50)) [V (bkD es), V (bkD es'), V (.str (S [x])), none] st) := rfl
  have i1 : iOneP itemsD (eCall (tbl dfs (k + 50)) "all_worlds" []) [V (bkD es), V (bkD es'), V (.str (S [x])), none] st = .ok (wl27.map wdD) st := by
    simp [wl]
  rw [e0]
  simp only [m_parting, sSeq_ev, sFor_ev, i1]
  cases q : wl27.find? (unl es es' x) with
  | some w =>
    rw [q] at L
    rw [L]
    simp [optW]
  | none =>
    rw [q] at L
    obtain ⟨v3, L⟩ := L
    rw [L]
    simp [optW]
end KW

namespace KW
open PySem L2 KL KU
/-! ### signs by their codes -/
def sgc : An → Nat
  | .ok v _ => 48 + v.toNat
  | .er (.ring _) _ => 111
  | .er _ _ => 63
theorem so_c : ("o" : Str) = S [111] := by kernel_rfl
theorem sq_c : ("?" : Str) = S [63] := by kernel_rfl
theorem sgn_c (a : An) : sgn a = S [sgc a] := by
  cases a with
  | ok v s => rfl
  | er e s => cases e <;> first | exact so_c | exact sq_c
def cs27 (es : Bk) (x : Nat) : List Nat := wl27.map fun w => sgc (ask0 es w x)
theorem cs27_len (es : Bk) (x : Nat) : (cs27 es x).length = 27 := by simp [cs27, wl27]
theorem sg27_c (es : Bk) (x : Nat) : sg27 es x = (cs27 es x).map fun c => S [c] := by
  unfold sg27 cs27
  rw [List.map_map]
  refine List.map_congr_left fun w _ => ?_
  exact sgn_c _
theorem join_one : ∀ l : List Nat, Str.join (S []) (l.map fun c => S [c]) = S l
  | [] => rfl
  | [x] => rfl
  | x :: y :: r => by
    have ih := join_one (y :: r)
    simp only [List.map_cons] at ih
    simp only [List.map_cons, Str.join, ih, S_app, List.append_nil]
    rfl
theorem tabS_eq (es : Bk) (x : Nat) : tabS es x = S (cs27 es x) := by
  unfold tabS
  rw [sg27_c, show ("" : Str) = S [] from by kernel_rfl, show Txt.join (S []) ((cs27 es x).map fun c => S [c]) = Str.join (S []) ((cs27 es x).map fun c => S [c]) from TL.join_eq _ _, join_one]
end KW

namespace KW
open PySem L2 KL KU
/-! ### a dict with all worlds as its keys -/
def kW (w : Wd) : List Int := [w.a, w.b, w.c]
def kv27 (f : Wd → D) : List (List Int × D) := wl27.map fun w => (kW w, f w)
theorem prsT_map (f : Wd → D) : ∀ ws : List Wd, prsT (ws.map fun w => .tup [wdD w, f w]) = some (ws.map fun w => (kW w, f w))
  | [] => rfl
  | w :: ws => by
    rw [List.map_cons]
    unfold prsT
    show (keyI [.int w.a, .int w.b, .int w.c]).bind _ = _
    rw [show keyI [.int w.a, .int w.b, .int w.c] = some (kW w) from rfl, Option.bind_some, prsT_map f ws]
    rfl
theorem nd27 : (wl27.map kW).Nodup := by decide +kernel
theorem dictT27 (f : Wd → D) : dictT (.lst (wl27.map fun w => .tup [wdD w, f w])) = some (kv27 f) := by
  have e : (kv27 f).map (·.1) = wl27.map kW := by
    unfold kv27
    rw [List.map_map]
    rfl
  have nd : ((kv27 f).map (·.1)).Nodup := by rw [e]; exact nd27
  have p := prsT_map f wl27
  change prsT _ = some (kv27 f) at p
  unfold dictT
  simp only [p, Option.bind_some, if_pos nd]
theorem dictD27 (f : Wd → D) (st : Sto) : dictD st (.lst (wl27.map fun w => .tup [wdD w, f w])) = none := by kernel_rfl
theorem vget27 (f : Wd → D) {w : Wd} (hw : w.ok) : vget (kv27 f) (kW w) = some (f w) := by
  obtain ⟨a, b, c⟩ := w
  obtain ⟨h1, h2, h3⟩ := hw
  simp only at h1 h2 h3
  rcases h1 with h | h | h <;> subst h <;> rcases h2 with h | h | h <;> subst h <;> rcases h3 with h | h | h <;> subst h <;> kernel_rfl
end KW

namespace KW
open PySem L2 KL KU
def sgD (es : Bk) (x : Nat) (w : Wd) : D := .str (sgn (ask0 es w x))
def hangF (es : Bk) (x c : Nat) : Bool := wl27.any fun w => !decide (sgn (ask0 es w x) = sgn (ask0 es (w.put c 0) x))
theorem dz_ix {st : Sto} {n : Nat} {f : Wd → D} (h : st[n]? = some (.dcT false (kv27 f))) {w : Wd} (hw : w.ok) : idxD st (.loc n) (wdD w) = some (f w) := by
  have e : idxD st (.loc n) (wdD w) = (dget st n (wdD w)).bind id := rfl
  have d : dget st n (wdD w) = some (some (f w)) := by
    unfold dget
    rw [h]
    show (keyI [.int w.a, .int w.b, .int w.c]).map (vget (kv27 f)) = _
    rw [show keyI [.int w.a, .int w.b, .int w.c] = some (kW w) from rfl, Option.map_some, vget27 f hw]
  rw [e, d]
  rfl
theorem dz_comp (k : Nat) {es : Bk} (x : Nat) {c : Nat} (hc : c ∈ [97, 98, 99]) (n : Nat) (st : Sto) (hn : st[n]? = some (.dcT false (kv27 (sgD es x)))) (f2 : Sm) (rh : Rho) (h2 : rh[2]? = some (V (.loc n))) (h5 : rh[5]? = some (V (.int ((c - 97 : Nat) : Int)))) (hl : rh.length = 7) :
    eLk (eVar 2) (eComp [3] (.name 3) (iLk (eVar 2)) none (eCmp .NotEq (eIdx (eVar 2) (eVar 3)) (eIdx (eVar 2) (eCall (tbl dfs (k + 1)) "with_cell" [.e (eVar 3), .e (eVar 5), .e (eC (.int 0))])))) f2 rh st = .ok (.fr (wl27.map fun w => .bl (!decide (sgn (ask0 es w x) = sgn (ask0 es (w.put c 0) x))))) st := by
  have comp : cLoop (.name 3) none (eCmp .NotEq (eIdx (eVar 2) (eVar 3)) (eIdx (eVar 2) (eCall (tbl dfs (k + 1)) "with_cell" [.e (eVar 3), .e (eVar 5), .e (eC (.int 0))]))) (wipeR rh [3]) (wl27.map wdD) st = .ok (wl27.map fun w => .bl (!decide (sgn (ask0 es w x) = sgn (ask0 es (w.put c 0) x)))) st := by
    refine cLoop_mm wdD _ _ fun w hw => ⟨(wipeR rh [3]).set 3 (V (wdD w)), rfl, ?_⟩
    have hw := wl_ok w hw
    have a2 : ((wipeR rh [3]).set 3 (V (wdD w)))[2]? = some (V (.loc n)) := by simp [wipeR, h2, List.getElem?_set]
    have a5 : ((wipeR rh [3]).set 3 (V (wdD w)))[5]? = some (V (.int ((c - 97 : Nat) : Int))) := by simp [wipeR, h5, List.getElem?_set]
    have a3 : ((wipeR rh [3]).set 3 (V (wdD w)))[3]? = some (V (wdD w)) := by simp [wipeR, hl]
    have g := r_with_cell k w 0 st c hc
    have i1 := dz_ix hn hw
    have i2 := dz_ix hn (Wd.put_ok hw (v := 0) (.inl rfl) c)
    have vl : ∀ rh, view rh st (.d (.loc n)) = some (.loc n) := fun rh => by rw [view_loc, hn]
    simp only [cElt, eCmp_ev, eOp2_ev, eIdx_ev, eVar_ev, a2, a3, a5, R.bind_ok, vl, wd_view, i1, dV_some', eCall_ev, eArgsC_e, eArgsC_nil, eC_ev, toDv_d, g, i2, sgD, view_str, ne_str, bV_some, oR_some]
  have e1 : iLk (eVar 2) rh st = .ok (wl27.map wdD) st := by
    unfold iLk
    simp only [eVar_ev, h2, R.bind_ok, hn]
    show oR (keysO (.dcT false (kv27 (sgD es x)))) st = _
    have : keysO (.dcT false (kv27 (sgD es x))) = some (wl27.map wdD) := by
      show some ((kv27 (sgD es x)).map fun p => tI p.1) = _
      unfold kv27
      rw [List.map_map]
      rfl
    rw [this]
    rfl
  unfold eLk
  simp only [eVar_ev, h2, hn, isT, if_true]
  exact comp_ok e1 (by rw [List.length_map, wl_len]; exact sz (by decide)) comp
end KW

namespace KW
open PySem L2 KL KU
theorem any_map {α : Type} (f : α → Bool) (xs : List α) : anyD (.lst (xs.map fun x => .bl (f x))) = some (.bl (xs.any f)) := by
  have := any_bls (xs.map f)
  rw [List.map_map, List.any_map] at this
  exact this
def cl3 : List Nat := [97, 98, 99]
theorem enm_cl : enmD (.str "abc") = some (cl3.map fun c => .raw [.int ((c - 97 : Nat) : Int), nmD c]) := by kernel_rfl
theorem hang_step (k : Nat) {es : Bk} (x : Nat) {c : Nat} (hc : c ∈ [97, 98, 99]) (n : Nat) (st : Sto) (hn : st[n]? = some (.dcT false (kv27 (sgD es x)))) (v0 v1 v3 : Option Cell) (fs : List D) (hl : fs.length ≤ 100) :
    b_hangs_on_1 (tbl dfs (k + 1)) [v0, v1, V (.loc n), v3, some (.own fs), V (.int ((c - 97 : Nat) : Int)), V (nmD c)] st = .nx [v0, v1, V (.loc n), v3, some (.own (if hangF es x c then fs ++ [nmD c] else fs)), V (.int ((c - 97 : Nat) : Int)), V (nmD c)] st := by
  have E := dz_comp k x hc n st hn (eComp [3] (.name 3) (iOne itemsD (eVar 2)) none (eCmp .NotEq (eIdx (eVar 2) (eVar 3)) (eIdx (eVar 2) (eCall (tbl dfs (k + 1)) "with_cell" [.e (eVar 3), .e (eVar 5), .e (eC (.int 0))])))) [v0, v1, V (.loc n), v3, some (.own fs), V (.int ((c - 97 : Nat) : Int)), V (nmD c)] rfl rfl rfl
  have am := any_map (fun w : Wd => !decide (sgn (ask0 es w x) = sgn (ask0 es (w.put c 0) x))) wl27
  change _ = some (D.bl (hangF es x c)) at am
  have ap : appD (nmD c) fs = some (fs ++ [nmD c]) := app_ev (szL (by omega))
  have an : ∀ st d, Bi.f .any st d = dV (anyD d) := fun _ _ => rfl
  simp only [b_hangs_on_1, sIf_ev, eTru_ev, eOp1_ev, eB1_ev, E, R.bind_ok, view_fr, an, am, dV_some', view_bl, tru_bl, bV_some, onR_ok, onT_bl]
  cases hangF es x c
  · simp
  · simp [ap]
end KW

namespace KW
open PySem L2 KL KU
def hangL (es : Bk) (x : Nat) : List Nat := cl3.filter (hangF es x)
theorem hang_loop (k : Nat) {es : Bk} (x : Nat) (n : Nat) (st : Sto) (hn : st[n]? = some (.dcT false (kv27 (sgD es x)))) (v0 v1 v3 : Option Cell) : ∀ (cs : List Nat) (fs : List Nat) (v5 v6 : Option Cell), (∀ c ∈ cs, c ∈ [97, 98, 99]) → fs.length + cs.length ≤ 100 →
    ∃ v5' v6', sLoop (.tup [5, 6]) (b_hangs_on_1 (tbl dfs (k + 1))) (cs.map fun c => .raw [.int ((c - 97 : Nat) : Int), nmD c]) [v0, v1, V (.loc n), v3, some (.own (fs.map nmD)), v5, v6] st = .nx [v0, v1, V (.loc n), v3, some (.own ((fs ++ cs.filter (hangF es x)).map nmD)), v5', v6'] st
  | [], fs, v5, v6, _, _ => ⟨v5, v6, by simp⟩
  | c :: cs, fs, v5, v6, h, hl => by
    simp only [List.length_cons] at hl
    have s := hang_step k x (h c List.mem_cons_self) n st hn v0 v1 v3 (fs.map nmD) (by simp; omega)
    obtain ⟨v5', v6', ih⟩ := hang_loop k x n st hn v0 v1 v3 cs (if hangF es x c then fs ++ [c] else fs) (V (.int ((c - 97 : Nat) : Int))) (V (nmD c)) (fun d hd => h d (List.mem_cons_of_mem _ hd)) (by split <;> (try simp only [List.length_append, List.length_cons, List.length_nil]) <;> omega)
    refine ⟨v5', v6', ?_⟩
    rw [List.map_cons, sLoop_cons]
    have e : (if hangF es x c then fs.map nmD ++ [nmD c] else fs.map nmD) = (if hangF es x c then fs ++ [c] else fs).map nmD := by split <;> simp
    rw [e] at s
    simp only [tg_raw_ev, setAll_cons, setAll_nil, List.set_cons_succ, List.set_cons_zero, s]
    rw [ih]
    cases q : hangF es x c <;> simp [q, List.filter_cons]
end KW

namespace KW
open PySem L2 KL KU
theorem r_hangs_on (k : Nat) {es : Bk} (he : BkOk es) (x : Nat) (st : Sto) (hf : Fit st) : tbl dfs (k + 51) "hangs_on" [bkD es, .str (S [x])] st = .ok (.tup ((hangL es x).map nmD)) st := by
  rw [show k + 51 = (k + 50) + 1 from rfl, t_hangs_on]
  have wl := r_all_worlds (k + 49) st
  rw [show k + 49 + 1 = k + 50 from rfl] at wl
  have comp : cLoop (.name 3) none (eTup [(eVar 3), (eCall (tbl dfs (k + 50)) "sign_of" [.e (eVar 0), .e (eVar 3), .e (eVar 1)])]) [V (bkD es), V (.str (S [x])), none, none, none, none, none] (wl27.map wdD) st = .ok (wl27.map fun w => .tup [wdD w, sgD es x w]) st := by
    refine cLoop_mm wdD _ _ fun w hw => ⟨_, rfl, ?_⟩
    have q := r_sign_of k he (wl_ok w hw) x st hf
    simp [cElt, q, sgD]
  have E := comp_ok (st := st) (fi := iOne itemsD (eCall (tbl dfs (k + 50)) "all_worlds" [])) (rh := [V (bkD es), V (.str (S [x])), none, none, none, none, none]) (vs := [3]) (iOne_ok (t := .d (.lst (wl27.map wdD))) (d := .lst (wl27.map wdD)) (st1 := st) (by simp [wl]) rfl rfl rfl) (by rw [List.length_map, wl_len]; exact sz (by decide)) comp
  have hn : (st ++ [O.dcT false (kv27 (sgD es x))])[st.length]? = some (.dcT false (kv27 (sgD es x))) := by simp
  obtain ⟨v5, v6, L⟩ := hang_loop (k + 49) x st.length (st ++ [O.dcT false (kv27 (sgD es x))]) hn (V (bkD es)) (V (.str (S [x]))) none cl3 [] none none (by decide) (by decide)
  rw [show k + 49 + 1 = k + 50 from rfl] at L
  have ct : cut st.length (.tup ((hangL es x).map nmD)) (st ++ [O.dcT false (kv27 (sgD es x))]) = st := cut_app rfl (belows_map _ _ (nm_below _) _) hf
  have D1 := dictD27 (sgD es x) st
  have D2 := dictT27 (sgD es x)
  have e0 : fnR 7 (m_hangs_on (tbl dfs (k + 50))) [bkD es, .str (S [x])] st = fin st.length (m_hangs_on (tbl dfs (k + 50)) [V (bkD es), V (.str (S [x])), none, none, none, none, none] st) := rfl
  rw [e0]
  simp only [m_hangs_on, sSeq_ev, sAsg_ev, eDict_ev, E, R.bind_ok, view_fr, Option.bind_some, D1, D2, onR_ok, asg_d, List.set_cons_succ, List.set_cons_zero, onN_nx, eLst_ev, eArgs_nil, asg_fr_t, sFor_ev]
  have i1 : ∀ rh st, iOneP enmD (eC (.str "abc")) rh st = .ok (cl3.map fun c => .raw [.int ((c - 97 : Nat) : Int), nmD c]) st := fun rh st => by
    simp only [iOneP_ev, eC_ev, R.bind_ok, notLoc_str, if_true, toDv_d, Option.bind_some, enm_cl, oR_some]
  simp only [i1]
  simp only [List.map_nil] at L
  rw [L]
  simp only [onN_nx, sRet_ev, eB1_ev, eOp1_ev, eVar_ev, List.getElem?_cons_zero, List.getElem?_cons_succ, R.bind_ok, view_o, List.nil_append]
  have tp : ∀ st d, Bi.f .tuple st d = dV (tupD d) := fun _ _ => rfl
  simp only [tp, tup_lst, dV_some', onR_ok, ret_d, fin_rt]
  show R.ok (D.tup ((hangL es x).map nmD)) (cut st.length (.tup ((hangL es x).map nmD)) _) = _
  rw [ct]
end KW

namespace KW
open PySem L2 KL KU
/-! ### what hangs on a cell, by numbers -/
def wN (n : Nat) : Wd := ⟨(n : Int) / 9, (n : Int) / 3 % 3, (n : Int) % 3⟩
theorem wl27_wN : wl27 = (List.range 27).map wN := rfl
def stepOf (c : Nat) : Nat := if c = 97 then 9 else if c = 98 then 3 else 1
/-- the numbers at which the next one is unlike -/
def jumps (f : Nat → Nat) (s : Nat) : List Nat := (List.range 27).filter fun n => decide (n / s % 3 < 2) && !decide (f n = f (n + s))
theorem any_iff {f : Wd → Nat} {c : Nat} (hc : c ∈ [97, 98, 99]) : (wl27.any fun w => !decide (f w = f (w.put c 0))) = !(jumps (fun n => f (wN n)) (stepOf c)).isEmpty := by
  have key : ∀ g : Nat → Nat, ∀ s ∈ [9, 3, 1], ((List.range 27).any fun n => !decide (g n = g (n - s * (n / s % 3)))) = !(jumps g s).isEmpty := by
    intro g s hs
    rw [Bool.eq_iff_iff]
    simp only [List.any_eq_true, List.mem_range, Bool.not_eq_true', decide_eq_false_iff_not, List.isEmpty_eq_false_iff, ne_eq, jumps, List.filter_eq_nil_iff, Bool.and_eq_true, decide_eq_true_eq]
    constructor
    · rintro ⟨n, hn, h⟩
      intro hc
      have hc' : ∀ m, m < 27 → m / s % 3 < 2 → g m = g (m + s) := fun m hm h1 => Classical.byContradiction fun h2 => hc m hm ⟨h1, h2⟩
      apply h
      have a1 := hc' (n - s * (n / s % 3))
      have a2 := hc' (n - s * (n / s % 3) + s)
      simp only [List.mem_cons, List.not_mem_nil, or_false] at hs
      rcases hs with q | q | q <;> subst q
      · have : n / 9 % 3 = 0 ∨ n / 9 % 3 = 1 ∨ n / 9 % 3 = 2 := by omega
        rcases this with t | t | t <;> rw [t] at a1 a2 ⊢
        · rfl
        · rw [a1 (by omega) (by omega)]; congr 1; omega
        · rw [a1 (by omega) (by omega), a2 (by omega) (by omega)]; congr 1; omega
      · have : n / 3 % 3 = 0 ∨ n / 3 % 3 = 1 ∨ n / 3 % 3 = 2 := by omega
        rcases this with t | t | t <;> rw [t] at a1 a2 ⊢
        · rfl
        · rw [a1 (by omega) (by omega)]; congr 1; omega
        · rw [a1 (by omega) (by omega), a2 (by omega) (by omega)]; congr 1; omega
      · have : n / 1 % 3 = 0 ∨ n / 1 % 3 = 1 ∨ n / 1 % 3 = 2 := by omega
        rcases this with t | t | t <;> rw [t] at a1 a2 ⊢
        · rfl
        · rw [a1 (by omega) (by omega)]; congr 1; omega
        · rw [a1 (by omega) (by omega), a2 (by omega) (by omega)]; congr 1; omega
    · intro hall
      refine Classical.byContradiction fun hc => hall fun n hn ⟨h1, h2⟩ => ?_
      have hc' : ∀ m, m < 27 → g m = g (m - s * (m / s % 3)) := fun m hm => Classical.byContradiction fun h2 => hc ⟨m, hm, h2⟩
      apply h2
      have a1 := hc' n hn
      have a2 := hc' (n + s)
      simp only [List.mem_cons, List.not_mem_nil, or_false] at hs
      rcases hs with q | q | q <;> subst q
      · rw [a1, a2 (by omega)]; congr 1; omega
      · rw [a1, a2 (by omega)]; congr 1; omega
      · rw [a1, a2 (by omega)]; congr 1; omega
  have put : ∀ c ∈ [97, 98, 99], ∀ n ∈ List.range 27, (((wN n).put c 0).a, ((wN n).put c 0).b, ((wN n).put c 0).c) = ((wN (n - stepOf c * (n / stepOf c % 3))).a, (wN (n - stepOf c * (n / stepOf c % 3))).b, (wN (n - stepOf c * (n / stepOf c % 3))).c) := by decide +kernel
  have hs : stepOf c ∈ [9, 3, 1] := by
    simp only [List.mem_cons, List.not_mem_nil, or_false] at hc
    rcases hc with q | q | q <;> subst q <;> decide
  rw [← key (fun n => f (wN n)) (stepOf c) hs, wl27_wN, List.any_map]
  rw [Bool.eq_iff_iff]
  simp only [List.any_eq_true, Function.comp_apply]
  have pe : ∀ n ∈ List.range 27, (wN n).put c 0 = wN (n - stepOf c * (n / stepOf c % 3)) := fun n hn => by
    have := put c hc n hn
    simp only [Prod.mk.injEq] at this
    obtain ⟨p1, p2, p3⟩ := this
    cases e1 : (wN n).put c 0
    cases e2 : wN (n - stepOf c * (n / stepOf c % 3))
    rw [e1, e2] at p1 p2 p3
    simp only at p1 p2 p3
    rw [p1, p2, p3]
  constructor
  · rintro ⟨n, hn, h⟩
    exact ⟨n, hn, by rw [pe n hn] at h; exact h⟩
  · rintro ⟨n, hn, h⟩
    exact ⟨n, hn, by rw [pe n hn]; exact h⟩
end KW

namespace KW
open PySem L2 KL KU
/-! ### lists of signs, by their values -/
def cP (c : Nat) : PyData := .str (S [c])
theorem cs_pys : ∀ l : List Nat, toPys (l.map nmD) = some (l.map cP)
  | [] => rfl
  | c :: l => by
    rw [List.map_cons]
    unfold toPys
    rw [cs_pys l]
    rfl
theorem cs_eqv : ∀ l m : List Nat, PyData.eqvAll (l.map cP) (m.map cP) = decide (l = m)
  | [], [] => by simp [PyData.eqvAll]
  | [], _ :: _ => by simp [PyData.eqvAll]
  | _ :: _, [] => by simp [PyData.eqvAll]
  | a :: l, b :: m => by
    have e : (S [a] == S [b]) = decide (S [a] = S [b]) := rfl
    simp [PyData.eqvAll, cP, PyData.eqv, e, cs_eqv l m]
theorem cs_lay : ∀ l : List Nat, (∀ c ∈ l, c < 200) → PyData.canLayAll0 (l.map cP) = true
  | [], _ => rfl
  | c :: l, h => by
    have hc := h c List.mem_cons_self
    have e : PyData.strOk (S [c]) = true := by
      simp [PyData.strOk, S]
      omega
    simp [PyData.canLayAll0, cP, PyData.canLay0, e, cs_lay l fun d hd => h d (List.mem_cons_of_mem _ hd)]
theorem cs_dep : ∀ l : List Nat, PyData.depthAll (l.map cP) = 0
  | [] => by simp [PyData.depthAll]
  | c :: l => by simp [PyData.depthAll, cP, PyData.depth, cs_dep l]
theorem eq_cs {st : Sto} {l m : List Nat} (hl : ∀ c ∈ l, c < 200) (hm : ∀ c ∈ m, c < 200) : cmpD st .Eq (.lst (l.map nmD)) (.lst (m.map nmD)) = some (decide (l = m)) := by
  have e : cmpD st .Eq (.lst (l.map nmD)) (.lst (m.map nmD)) = eqG (.lst (l.map nmD)) (.lst (m.map nmD)) := rfl
  have s : ∀ l : List Nat, (∀ c ∈ l, c < 200) → SeqAt.shaped (.list (l.map cP)) = true := fun l h => by
    simp [SeqAt.shaped, PyData.canLay0, cs_lay l h, PyData.depth, cs_dep]
  rw [e]
  unfold eqG
  simp only [toPy, cs_pys, Option.map_some, Option.bind_some, s l hl, s m hm, Bool.and_self, if_true, PyData.eqv, cs_eqv]
end KW

namespace KW
open PySem L2 KL KU
abbrev G : Tbl := tbl dfs 60
def fN (es : Bk) (x n : Nat) : Nat := sgc (ask0 es (wN n) x)
theorem cs27_at (es : Bk) (x : Nat) {n : Nat} (h : n < 27) : (cs27 es x)[n]? = some (fN es x n) := by
  unfold cs27 fN
  rw [wl27_wN, List.map_map, List.getElem?_map, List.getElem?_range h]
  rfl
theorem cs27_w (es : Bk) (x : Nat) {n : Nat} {w : Wd} (h : wl27[n]? = some w) : (cs27 es x)[n]? = some (sgc (ask0 es w x)) := by
  unfold cs27
  rw [List.getElem?_map, h]
  rfl
theorem sgc_lt {es : Bk} (he : BkOk es) {w : Wd} (hw : w.ok) (x : Nat) : sgc (ask0 es w x) < 200 := by
  have ok := ask0_ok he hw x
  cases q : ask0 es w x with
  | ok v s =>
    rw [q] at ok
    have hv : V3 v := ok.2.2
    rcases hv with h | h | h <;> subst h <;> simp [sgc]
  | er e s => cases e <;> simp [sgc]
theorem cs27_lt {es : Bk} (he : BkOk es) (x : Nat) : ∀ c ∈ cs27 es x, c < 200 := fun c hc => by
  obtain ⟨w, hw, rfl⟩ := List.mem_map.mp hc
  exact sgc_lt he (wl_ok w hw) x
theorem sg27_nm (es : Bk) (x : Nat) : (sg27 es x).map D.str = (cs27 es x).map nmD := by
  rw [sg27_c, List.map_map]
  rfl
theorem unl_comp {es es' : Bk} (x : Nat) (rh : Rho) (st : Sto) (h7 : rh[7]? = some (V (.lst ((cs27 es x).map nmD)))) (h8 : rh[8]? = some (V (.lst ((cs27 es' x).map nmD)))) (hl : rh.length = 16) :
    eComp [10, 11] (.tup [10, 11]) (iOne enmD (eCall G "_law_worlds" [])) (some (eCmp .NotEq (eIdx (eVar 7) (eVar 10)) (eIdx (eVar 8) (eVar 10)))) (eVar 11) rh st = .ok (.fr ((wl27.filter (unl es es' x)).map wdD)) st := by
  have wl := r_worlds 59 st
  rw [show 59 + 1 = 60 from rfl] at wl
  have q : cLoop (.tup [10, 11]) (some (eCmp .NotEq (eIdx (eVar 7) (eVar 10)) (eIdx (eVar 8) (eVar 10)))) (eVar 11) (wipeR rh [10, 11]) ((wl27.zipIdx).map fun q => .raw [.int (q.2 : Nat), wdD q.1]) st = .ok (((wl27.zipIdx).filter fun q => unl es es' x q.1).map fun q => wdD q.1) st := by
    refine cLoop_fm (fun q : Wd × Nat => .raw [.int (q.2 : Nat), wdD q.1]) _ (fun q => wdD q.1) _ fun q hq => ⟨((wipeR rh [10, 11]).set 10 (V (.int (q.2 : Nat)))).set 11 (V (wdD q.1)), rfl, ?_, fun _ => ?_⟩
    · have a7 : (((wipeR rh [10, 11]).set 10 (V (.int (q.2 : Nat)))).set 11 (V (wdD q.1)))[7]? = some (V (.lst ((cs27 es x).map nmD))) := by simp [wipeR, h7, List.getElem?_set]
      have a8 : (((wipeR rh [10, 11]).set 10 (V (.int (q.2 : Nat)))).set 11 (V (wdD q.1)))[8]? = some (V (.lst ((cs27 es' x).map nmD))) := by simp [wipeR, h8, List.getElem?_set]
      have a10 : (((wipeR rh [10, 11]).set 10 (V (.int (q.2 : Nat)))).set 11 (V (wdD q.1)))[10]? = some (V (.int (q.2 : Nat))) := by simp [wipeR, hl]
      have hz := List.mem_zipIdx_iff_getElem?.mp hq
      have i1 : ∀ es : Bk, atI ((cs27 es x).map nmD) (q.2 : Int) = some (nmD (sgc (ask0 es q.1 x))) := fun es => by
        rw [at_nat, List.getElem?_map, cs27_w es x hz]
        rfl
      simp only [eCmp_ev, eOp2_ev, eIdx_ev, eVar_ev, a7, a8, a10, R.bind_ok, view_lst, view_int, idx_lst, i1, dV_some', show ∀ c, nmD c = .str (S [c]) from fun _ => rfl, view_str, ne_str, bV_some]
      unfold unl
      rw [sgn_c, sgn_c]
    · have a11 : (((wipeR rh [10, 11]).set 10 (V (.int (q.2 : Nat)))).set 11 (V (wdD q.1)))[11]? = some (V (wdD q.1)) := by simp [wipeR, hl]
      simp only [cElt, eVar_ev, a11]
      rfl
  rw [zip_filter (unl es es' x) wdD wl27 0] at q
  refine comp_ok (iOne_ok (t := .d (.lst (wl27.map wdD))) (d := .lst (wl27.map wdD)) (by simp [wl]) rfl rfl ?_) (by rw [List.length_map, List.length_zipIdx, wl_len]; exact sz (by decide)) q
  show some (numFrom 0 (wl27.map wdD)) = _
  rw [num_zip]
theorem head_find (p : Wd → Bool) (ws : List Wd) : ((ws.filter p).map wdD ++ [.non])[0]? = some (optW (ws.find? p)) := by
  rw [← List.head?_filter]
  cases ws.filter p <;> rfl
/-! lists of numbers, none -/
theorem ints_pys : ∀ l : List Nat, toPys (l.map fun n : Nat => .int (n : Int)) = some (l.map fun n : Nat => PyData.int (n : Int))
  | [] => rfl
  | c :: l => by
    rw [List.map_cons]
    unfold toPys
    rw [ints_pys l]
    rfl
theorem ints_lay : ∀ l : List Nat, PyData.canLayAll0 (l.map fun n : Nat => PyData.int (n : Int)) = true
  | [] => rfl
  | c :: l => by
    simp [PyData.canLayAll0, PyData.canLay0, ints_lay l]
theorem ints_dep : ∀ l : List Nat, PyData.depthAll (l.map fun n : Nat => PyData.int (n : Int)) = 0
  | [] => by simp [PyData.depthAll]
  | c :: l => by simp [PyData.depthAll, PyData.depth, ints_dep l]
theorem ne_ints {st : Sto} (l : List Nat) : cmpD st .NotEq (.lst (l.map fun n : Nat => .int (n : Int))) (.lst []) = some (!l.isEmpty) := by
  have e : cmpD st .NotEq (.lst (l.map fun n : Nat => .int (n : Int))) (.lst []) = (eqG (.lst (l.map fun n : Nat => .int (n : Int))) (.lst [])).map (!·) := rfl
  have s : ∀ l : List Nat, SeqAt.shaped (.list (l.map fun n : Nat => PyData.int (n : Int))) = true := fun l => by
    simp [SeqAt.shaped, PyData.canLay0, ints_lay l, PyData.depth, ints_dep]
  have s0 : SeqAt.shaped (.list []) = true := s []
  rw [e]
  unfold eqG
  have p0 : toPys [] = some [] := rfl
  simp only [toPy, ints_pys, p0, Option.map_some, Option.bind_some, s, s0, Bool.and_self, if_true, PyData.eqv]
  cases l <;> simp [PyData.eqvAll]
theorem jump_comp {es : Bk} (x : Nat) {s : Nat} (hs : s ∈ [9, 3, 1]) (rh : Rho) (st : Sto) (h7 : rh[7]? = some (V (.lst ((cs27 es x).map nmD)))) (h14 : rh[14]? = some (V (.int (s : Nat)))) (hl : rh.length = 16) :
    eComp [15] (.name 15) (iOne rng1 (eC (.int 27))) (some (eAnd (eCmp .Lt (eBin .Mod (eBin .FloorDiv (eVar 15) (eVar 14)) (eC (.int 3))) (eC (.int 2))) (eCmp .NotEq (eIdx (eVar 7) (eVar 15)) (eIdx (eVar 7) (eBin .Add (eVar 15) (eVar 14)))))) (eVar 15) rh st = .ok (.fr ((jumps (fN es x) s).map fun n : Nat => .int (n : Int))) st := by
  have q : cLoop (.name 15) (some (eAnd (eCmp .Lt (eBin .Mod (eBin .FloorDiv (eVar 15) (eVar 14)) (eC (.int 3))) (eC (.int 2))) (eCmp .NotEq (eIdx (eVar 7) (eVar 15)) (eIdx (eVar 7) (eBin .Add (eVar 15) (eVar 14)))))) (eVar 15) (wipeR rh [15]) ((List.range 27).map fun n : Nat => .int (n : Int)) st = .ok ((jumps (fN es x) s).map fun n : Nat => .int (n : Int)) st := by
    refine cLoop_fm (fun n : Nat => .int (n : Int)) _ (fun n : Nat => .int (n : Int)) _ fun n hn => ⟨(wipeR rh [15]).set 15 (V (.int (n : Nat))), rfl, ?_, fun _ => ?_⟩
    · have a7 : ((wipeR rh [15]).set 15 (V (.int (n : Nat))))[7]? = some (V (.lst ((cs27 es x).map nmD))) := by simp [wipeR, h7, List.getElem?_set]
      have a14 : ((wipeR rh [15]).set 15 (V (.int (n : Nat))))[14]? = some (V (.int (s : Nat))) := by simp [wipeR, h14, List.getElem?_set]
      have a15 : ((wipeR rh [15]).set 15 (V (.int (n : Nat))))[15]? = some (V (.int (n : Nat))) := by simp [wipeR, hl]
      have hn : n < 27 := List.mem_range.mp hn
      have hs9 : 0 < s ∧ s ≤ 9 := by
        simp only [List.mem_cons, List.not_mem_nil, or_false] at hs
        omega
      have dv := bin_div (i := (n : Int)) (j := (s : Int)) ⟨by omega, by omega⟩
      have md := fun z => bin_mod (i := z) (j := 3) (by decide)
      have dl : decide ((n : Int) / (s : Int) % 3 < 2) = decide (n / s % 3 < 2) := by
        rw [show (n : Int) / (s : Int) % 3 = ((n / s % 3 : Nat) : Int) from by simp]
        simp only [decide_eq_decide]
        omega
      simp only [eAnd_ev, eCmp_ev, eOp2_ev, eBin_ev, eIdx_ev, eVar_ev, a7, a14, a15, R.bind_ok, view_int, dv, md, eC_ev, lt_int, bV_some, onB_bl, view_lst, bin_add_int, idx_lst, dl]
      by_cases h : n / s % 3 < 2
      · have hb : n + s < 27 := by
          simp only [List.mem_cons, List.not_mem_nil, or_false] at hs
          rcases hs with q | q | q <;> subst q <;> omega
        have i1 : atI ((cs27 es x).map nmD) (n : Int) = some (nmD (fN es x n)) := by
          rw [at_nat, List.getElem?_map, cs27_at es x hn]
          rfl
        have i2 : atI ((cs27 es x).map nmD) ((n : Int) + (s : Int)) = some (nmD (fN es x (n + s))) := by
          rw [show (n : Int) + (s : Int) = ((n + s : Nat) : Int) from by simp, at_nat, List.getElem?_map, cs27_at es x hb]
          rfl
        simp [h, i1, i2, show ∀ c, nmD c = .str (S [c]) from fun _ => rfl]
      · simp [h]
    · have a15 : ((wipeR rh [15]).set 15 (V (.int (n : Nat))))[15]? = some (V (.int (n : Nat))) := by simp [wipeR, hl]
      simp only [cElt, eVar_ev, a15]
      rfl
  exact comp_ok (rng_ev (n := 27) (by decide) st rh) (by simp; exact sz (by decide)) q
theorem hang_jump (es : Bk) (x : Nat) {c : Nat} (hc : c ∈ [97, 98, 99]) : hangF es x c = !(jumps (fN es x) (stepOf c)).isEmpty := by
  have := any_iff (f := fun w => sgc (ask0 es w x)) hc
  unfold hangF
  unfold fN
  rw [← this]
  congr 1
  funext w
  rw [sgn_c, sgn_c]
  simp
end KW

namespace KW
open PySem L2 KL KU
/-! ### two worlds, two books: only what is seen and gone through counts -/
def Go.st : Go → Fs
  | .ok _ _ s => s
  | .er _ _ s => s
def Gr (s t : Fs) : Prop := (∃ m, t.seen = s.seen ++ m) ∧ ∃ m, t.begun = s.begun ++ m
theorem Gr.refl (s : Fs) : Gr s s := ⟨⟨[], by simp⟩, ⟨[], by simp⟩⟩
theorem Gr.trans {s t u : Fs} (a : Gr s t) (b : Gr t u) : Gr s u := by
  obtain ⟨⟨m1, e1⟩, m2, e2⟩ := a
  obtain ⟨⟨n1, f1⟩, n2, f2⟩ := b
  exact ⟨⟨m1 ++ n1, by rw [f1, e1, List.append_assoc]⟩, m2 ++ n2, by rw [f2, e2, List.append_assoc]⟩
theorem Gr.see (c : Nat) (s : Fs) : Gr s (seeF c s) := by
  unfold seeF
  split
  · exact Gr.refl s
  · exact ⟨⟨[c], rfl⟩, [], by simp⟩
theorem Gr.beg (x : Nat) (s : Fs) : Gr s (begF x s) := ⟨⟨[], by simp [begF]⟩, [x], rfl⟩
theorem Gr.fin (x : Nat) (v : Int) (o : Own) (s : Fs) : Gr s (endF x v o s) := ⟨⟨[], by simp [endF]⟩, [], by simp [endF]⟩
theorem Gr.bind {s : Fs} {g : Go} {k : Int → Own → Fs → Go} (h : Gr s g.st) (hk : ∀ v o t, Gr t (k v o t).st) : Gr s (g.bind k).st := by
  cases g with
  | ok v o t => exact h.trans (hk v o t)
  | er e o t => exact h
theorem lookF_gr {A : Nat → Fs → An} (hA : ∀ x s, Gr s (A x s).s) (w : Wd) (c : Nat) (o : Own) (s : Fs) : Gr s (lookF A w c o s).st := by
  unfold lookF
  cases o.lookup c with
  | some v => exact Gr.refl s
  | none =>
    simp only
    split
    · exact Gr.see c s
    · have a := hA c s
      cases z : A c s with
      | ok v t => rw [z] at a; exact a
      | er e t => rw [z] at a; exact a
theorem goR_gr {A : Nat → Fs → An} (hA : ∀ x s, Gr s (A x s).s) (w : Wd) : ∀ (r : Ru) (o : Own) (s : Fs), Gr s (goR A w r o s).st
  | .w i, o, s => Gr.refl s
  | .l c, o, s => lookF_gr hA w c o s
  | .two q a b, o, s => (goR_gr hA w a o s).bind fun x o s => (goR_gr hA w b o s).bind fun y o s => Gr.refl s
  | .iff t a b, o, s => (goR_gr hA w t o s).bind fun x o s => by
    split
    · exact goR_gr hA w b o s
    · exact goR_gr hA w a o s
theorem askF_gr (es : Bk) (w : Wd) : ∀ (n x : Nat) (s : Fs), Gr s (askF es w n x s).s
  | 0, x, s => Gr.refl s
  | n + 1, x, s => by
    unfold askF
    cases es.lookup x with
    | none => exact Gr.refl s
    | some r =>
      simp only
      split
      · exact Gr.refl s
      · cases s.rows.lookup x with
        | some v => exact Gr.refl s
        | none =>
          simp only
          have g := (Gr.beg x s).trans (goR_gr (askF_gr es w n) w r [] (begF x s))
          cases z : goR (askF es w n) w r [] (begF x s) with
          | ok v o t => rw [z] at g; exact g.trans (Gr.fin x v o t)
          | er e o t => rw [z] at g; exact g
def Dv (P : Nat → Prop) (l l' : List Nat) : Prop := ∃ p c m m', (∀ x ∈ p, P x) ∧ ¬ P c ∧ l = p ++ c :: m ∧ l' = p ++ c :: m'
theorem Dv.mono {P : Nat → Prop} {l l' n n' : List Nat} (h : Dv P l l') (a : ∃ m, n = l ++ m) (b : ∃ m, n' = l' ++ m) : Dv P n n' := by
  obtain ⟨p, c, m, m', h1, h2, rfl, rfl⟩ := h
  obtain ⟨q, rfl⟩ := a
  obtain ⟨q', rfl⟩ := b
  exact ⟨p, c, m ++ q, m' ++ q', h1, h2, by simp, by simp⟩
section
variable (K B : Nat → Prop)
def DvF (s s' : Fs) : Prop := Dv K s.seen s'.seen ∨ Dv B s.begun s'.begun
theorem DvF.mono {s s' t t' : Fs} (h : DvF K B s s') (a : Gr s t) (b : Gr s' t') : DvF K B t t' := h.elim (fun h => .inl (h.mono a.1 b.1)) fun h => .inr (h.mono a.2 b.2)
def In2 (s : Fs) : Prop := (∀ x ∈ s.seen, K x) ∧ ∀ x ∈ s.begun, B x
def SimA (a a' : An) : Prop := (a = a' ∧ In2 K B a.s) ∨ DvF K B a.s a'.s
def SimG (g g' : Go) : Prop := (g = g' ∧ In2 K B g.st) ∨ DvF K B g.st g'.st
variable {K B} {es es' : Bk} {w w' : Wd}
theorem SimG.bind {g g' : Go} {k k' : Int → Own → Fs → Go} (h : SimG K B g g') (g1 : ∀ v o t, Gr t (k v o t).st) (g2 : ∀ v o t, Gr t (k' v o t).st) (hk : ∀ v o t, In2 K B t → SimG K B (k v o t) (k' v o t)) : SimG K B (g.bind k) (g'.bind k') := by
  rcases h with ⟨rfl, hi⟩ | h
  · cases g with
    | ok v o t => exact hk v o t hi
    | er e o t => exact .inl ⟨rfl, hi⟩
  · exact .inr (h.mono K B ((Gr.refl _).bind g1) ((Gr.refl _).bind g2))
theorem lookF_sim {A A' : Nat → Fs → An} (hA : ∀ x s, In2 K B s → SimA K B (A x s) (A' x s)) (hw : ∀ c, isCell c = true → K c → w.at c = w'.at c) (c : Nat) (o : Own) (s : Fs) (hs : In2 K B s) : SimG K B (lookF A w c o s) (lookF A' w' c o s) := by
  unfold lookF
  cases o.lookup c with
  | some v => exact .inl ⟨rfl, hs⟩
  | none =>
    simp only
    by_cases hc : isCell c = true
    · rw [if_pos hc, if_pos hc]
      by_cases hk : K c
      · rw [hw c hc hk]
        refine .inl ⟨rfl, ?_⟩
        show In2 K B (seeF c s)
        unfold seeF
        split
        · exact hs
        · refine ⟨fun x hx => ?_, hs.2⟩
          rcases List.mem_append.mp hx with z | z
          · exact hs.1 x z
          · rw [List.mem_singleton.mp z]; exact hk
      · refine .inr (.inl ?_)
        show Dv K (seeF c s).seen (seeF c s).seen
        have : c ∉ s.seen := fun z => hk (hs.1 c z)
        unfold seeF
        rw [if_neg this]
        exact ⟨s.seen, c, [], [], hs.1, hk, rfl, rfl⟩
    · rw [if_neg hc, if_neg hc]
      have a := hA c s hs
      rcases a with ⟨e, hi⟩ | d
      · rw [← e]
        cases z : A c s with
        | ok v t => rw [z] at hi; exact .inl ⟨rfl, hi⟩
        | er q t => rw [z] at hi; exact .inl ⟨rfl, hi⟩
      · refine .inr ?_
        cases z : A c s <;> cases z' : A' c s <;> rw [z, z'] at d <;> exact d
theorem goR_sim {A A' : Nat → Fs → An} (hA : ∀ x s, In2 K B s → SimA K B (A x s) (A' x s)) (g1 : ∀ x s, Gr s (A x s).s) (g2 : ∀ x s, Gr s (A' x s).s) (hw : ∀ c, isCell c = true → K c → w.at c = w'.at c) : ∀ (r : Ru) (o : Own) (s : Fs), In2 K B s → SimG K B (goR A w r o s) (goR A' w' r o s)
  | .w i, o, s, hs => .inl ⟨rfl, hs⟩
  | .l c, o, s, hs => lookF_sim hA hw c o s hs
  | .two q a b, o, s, hs => (goR_sim hA g1 g2 hw a o s hs).bind (fun x o s => (goR_gr g1 w b o s).bind fun y o s => Gr.refl s) (fun x o s => (goR_gr g2 w' b o s).bind fun y o s => Gr.refl s) fun x o s hs => (goR_sim hA g1 g2 hw b o s hs).bind (fun y o s => Gr.refl s) (fun y o s => Gr.refl s) fun y o s hs => .inl ⟨rfl, hs⟩
  | .iff t a b, o, s, hs => (goR_sim hA g1 g2 hw t o s hs).bind (fun x o s => by
      split
      · exact goR_gr g1 w b o s
      · exact goR_gr g1 w a o s) (fun x o s => by
      split
      · exact goR_gr g2 w' b o s
      · exact goR_gr g2 w' a o s) fun x o s hs => by
      split
      · exact goR_sim hA g1 g2 hw b o s hs
      · exact goR_sim hA g1 g2 hw a o s hs
theorem askF_sim (hw : ∀ c, isCell c = true → K c → w.at c = w'.at c) (hB : ∀ x, B x → es.lookup x = es'.lookup x) (hN : ∀ x, (es.lookup x).isSome = (es'.lookup x).isSome) : ∀ (n x : Nat) (s : Fs), In2 K B s → SimA K B (askF es w n x s) (askF es' w' n x s)
  | 0, x, s, hs => .inl ⟨rfl, hs⟩
  | n + 1, x, s, hs => by
    have nn := hN x
    unfold askF
    cases q : es.lookup x with
    | none =>
      rw [q] at nn
      cases q' : es'.lookup x with
      | some r => rw [q'] at nn; cases nn
      | none => exact .inl ⟨rfl, hs⟩
    | some r =>
      rw [q] at nn
      cases q' : es'.lookup x with
      | none => rw [q'] at nn; cases nn
      | some r' =>
        simp only
        by_cases hp : x ∈ s.path
        · rw [if_pos hp, if_pos hp]
          exact .inl ⟨rfl, hs⟩
        · rw [if_neg hp, if_neg hp]
          cases s.rows.lookup x with
          | some v => exact .inl ⟨rfl, hs⟩
          | none =>
            simp only
            have ga := goR_gr (askF_gr es w n) w r [] (begF x s)
            have gb := goR_gr (askF_gr es' w' n) w' r' [] (begF x s)
            by_cases hb : B x
            · have e := hB x hb
              rw [q, q'] at e
              cases e
              have hs' : In2 K B (begF x s) := ⟨hs.1, fun y hy => by
                rcases List.mem_append.mp hy with z | z
                · exact hs.2 y z
                · rw [List.mem_singleton.mp z]; exact hb⟩
              have g := goR_sim (askF_sim hw hB hN n) (askF_gr es w n) (askF_gr es' w' n) hw r [] (begF x s) hs'
              rcases g with ⟨e, hi⟩ | d
              · rw [← e]
                cases z : goR (askF es w n) w r [] (begF x s) with
                | ok v o t => rw [z] at hi; exact .inl ⟨rfl, hi⟩
                | er er o t => rw [z] at hi; exact .inl ⟨rfl, hi⟩
              · refine .inr ?_
                cases z : goR (askF es w n) w r [] (begF x s) <;> cases z' : goR (askF es' w' n) w' r [] (begF x s) <;> rw [z, z'] at d <;> exact d
            · refine .inr (.inr ?_)
              have d : Dv B (begF x s).begun (begF x s).begun := ⟨s.begun, x, [], [], hs.2, hb, rfl, rfl⟩
              cases z : goR (askF es w n) w r [] (begF x s) <;> cases z' : goR (askF es' w' n) w' r' [] (begF x s) <;> rw [z] at ga <;> rw [z'] at gb <;> exact d.mono ga.2 gb.2
end
/-- the same cells seen: the same run -/
theorem ask0_same {es : Bk} {w w' : Wd} {x : Nat} (h : ∀ c ∈ (ask0 es w x).s.seen, w.at c = w'.at c) : ask0 es w' x = ask0 es w x := by
  have s := askF_sim (es := es) (es' := es) (K := fun c => c ∈ (ask0 es w x).s.seen) (B := fun _ => True) (w := w) (w' := w') (fun c _ hc => h c hc) (fun _ _ => rfl) (fun _ => rfl) 6 x fs0 ⟨by simp [fs0], fun _ _ => trivial⟩
  rcases s with ⟨e, _⟩ | d
  · exact e.symm
  · rcases d with ⟨p, c, m, m', h1, h2, h3, _⟩ | ⟨p, c, m, m', h1, h2, h3, _⟩
    · exfalso
      apply h2
      show c ∈ (askF es w 6 x fs0).s.seen
      rw [h3]
      simp
    · exact absurd trivial h2
end KW

namespace KW
open PySem L2 KL KU
/-! ### trees -/
inductive Tr where
  | fin (s : Str) | cell (c : Nat) (x y z : Tr)
  deriving DecidableEq
def Tr.d : Tr → D
  | .fin s => .tup [.str "end", .str s]
  | .cell c x y z => .tup [.str "cell", .str (S [c]), .tup [x.d, y.d, z.d]]
def sgs : List Str := ["0", "1", "2", "?", "o"]
def cel3 : List Nat := [97, 98, 99]
def Tr.ok : Nat → Tr → Prop
  | 0, _ => False
  | _ + 1, .fin s => s ∈ sgs
  | n + 1, .cell c x y z => c ∈ cel3 ∧ x.ok n ∧ y.ok n ∧ z.ok n
theorem tr_up : ∀ {n m : Nat} {t : Tr}, n ≤ m → t.ok n → t.ok m
  | 0, _, _, _, h => h.elim
  | n + 1, 0, _, h, _ => by omega
  | n + 1, m + 1, .fin _, _, h => h
  | n + 1, m + 1, .cell _ _ _ _, hm, h => ⟨h.1, tr_up (by omega) h.2.1, tr_up (by omega) h.2.2.1, tr_up (by omega) h.2.2.2⟩
@[simp] theorem tr_cell (r : Tr) : cellD r.d = .val r.d := by cases r <;> rfl
@[simp] theorem tr_view (r : Tr) (rh : Rho) (st : Sto) : view rh st (.d r.d) = some r.d := by cases r <;> rfl
@[simp] theorem tr_below (n : Nat) : ∀ r : Tr, below n r.d = true
  | .fin _ => rfl
  | .cell c x y z => by simp [Tr.d, below, belows, tr_below n x, tr_below n y, tr_below n z]
theorem sm_tr : ∀ {n : Nat} {t : Tr}, t.ok n → smD (2 * n) t.d = true
  | 0, _, h => h.elim
  | n + 1, .fin s, _ => by
    rw [show 2 * (n + 1) = (2 * n + 1) + 1 by omega]
    rfl
  | n + 1, .cell c x y z, h => by
    rw [show 2 * (n + 1) = (2 * n + 1) + 1 by omega]
    have e : smD (2 * n + 1) (.str "cell") = true := rfl
    have e' : smD (2 * n + 1) (.str (S [c])) = true := rfl
    simp [Tr.d, smD, e, e', sm_tr h.2.1, sm_tr h.2.2.1, sm_tr h.2.2.2]
/-! by their values -/
def Tr.p : Tr → PyData
  | .fin s => .tuple [.str "end", .str s]
  | .cell c x y z => .tuple [.str "cell", .str (S [c]), .tuple [x.p, y.p, z.p]]
theorem tr_py : ∀ t : Tr, toPy t.d = some t.p
  | .fin s => by simp [Tr.d, Tr.p, toPy, toPys]
  | .cell c x y z => by simp [Tr.d, Tr.p, toPy, toPys, tr_py x, tr_py y, tr_py z]
theorem str_beq (s s' : Str) : (s == s') = decide (s = s') := rfl
theorem tr_eqv : ∀ a b : Tr, PyData.eqv a.p b.p = decide (a = b)
  | .fin s, .fin s' => by simp [Tr.p, PyData.eqv, PyData.eqvAll, str_beq]
  | .fin s, .cell c x y z => by simp [Tr.p, PyData.eqv, PyData.eqvAll]
  | .cell c x y z, .fin s => by simp [Tr.p, PyData.eqv, PyData.eqvAll]
  | .cell c x y z, .cell c' x' y' z' => by
    simp [Tr.p, PyData.eqv, PyData.eqvAll, tr_eqv x x', tr_eqv y y', tr_eqv z z', Bool.decide_and, str_beq]
theorem ok_sgs : ∀ s ∈ sgs, PyData.strOk s = true := by decide +kernel
theorem ok_cel : ∀ c ∈ cel3, PyData.strOk (S [c]) = true := by decide +kernel
theorem ok_end : PyData.strOk "end" = true := by decide +kernel
theorem ok_cellw : PyData.strOk "cell" = true := by decide +kernel
theorem tr_lay : ∀ {n : Nat} {t : Tr}, t.ok n → t.p.canLay0 = true
  | 0, _, h => h.elim
  | n + 1, .fin s, h => by simp [Tr.p, PyData.canLay0, PyData.canLayAll0, ok_end, ok_sgs s h]
  | n + 1, .cell c x y z, h => by simp [Tr.p, PyData.canLay0, PyData.canLayAll0, ok_cellw, ok_cel c h.1, tr_lay h.2.1, tr_lay h.2.2.1, tr_lay h.2.2.2]
theorem tr_depth : ∀ {n : Nat} {t : Tr}, t.ok n → t.p.depth ≤ 2 * n
  | 0, _, h => h.elim
  | n + 1, .fin s, h => by simp [Tr.p, PyData.depth, PyData.depthAll]; omega
  | n + 1, .cell c x y z, h => by
    have h1 := tr_depth h.2.1
    have h2 := tr_depth h.2.2.1
    have h3 := tr_depth h.2.2.2
    simp [Tr.p, PyData.depth, PyData.depthAll]
    omega
theorem tr_shape {n : Nat} {t : Tr} (h : t.ok n) (hn : n ≤ 20) : SeqAt.shaped t.p = true := by
  have := tr_depth h
  have hd : t.p.depth ≤ 64 := by omega
  simp [SeqAt.shaped, tr_lay h, hd]
theorem tr_eq {st : Sto} {n : Nat} {a b : Tr} (ha : a.ok n) (hb : b.ok n) (hn : n ≤ 20) : cmpD st .Eq a.d b.d = some (decide (a = b)) := by
  have e : cmpD st .Eq a.d b.d = eqG a.d b.d := by cases a <;> cases b <;> rfl
  rw [e]
  unfold eqG
  rw [tr_py, tr_py]
  simp [tr_shape ha hn, tr_shape hb hn, tr_eqv]
theorem tr_eq3 {st : Sto} {n : Nat} {x y z : Tr} (hx : x.ok n) (hy : y.ok n) (hz : z.ok n) (hn : n ≤ 20) : cmpD st .Eq (.tup [x.d, y.d, z.d]) (.raw [x.d, x.d, x.d]) = some (decide (x = y ∧ y = z)) := by
  have e : cmpD st .Eq (.tup [x.d, y.d, z.d]) (.raw [x.d, x.d, x.d]) = eqG (.tup [x.d, y.d, z.d]) (.raw [x.d, x.d, x.d]) := rfl
  have d1 := tr_depth hx
  have d2 := tr_depth hy
  have d3 := tr_depth hz
  have s1 : SeqAt.shaped (.tuple [x.p, y.p, z.p]) = true := by
    simp [SeqAt.shaped, PyData.canLay0, PyData.canLayAll0, tr_lay hx, tr_lay hy, tr_lay hz, PyData.depth, PyData.depthAll]
    omega
  have s2 : SeqAt.shaped (.tuple [x.p, x.p, x.p]) = true := by
    simp [SeqAt.shaped, PyData.canLay0, PyData.canLayAll0, tr_lay hx, PyData.depth, PyData.depthAll]
    omega
  rw [e]
  unfold eqG
  simp only [toPy, toPys, tr_py, Option.bind_some, Option.map_some, s1, s2, Bool.and_self, if_true, PyData.eqv, PyData.eqvAll, tr_eqv]
  congr 1
  by_cases h1 : x = y
  · subst h1
    by_cases h2 : x = z
    · subst h2; simp
    · simp [h2, Ne.symm h2]
  · simp [h1, Ne.symm h1]
/-! what is told of trees -/
def jnF : Tr → Tr
  | .fin s => .fin s
  | .cell c x y z => if jnF x = jnF y ∧ jnF y = jnF z then jnF x else .cell c (jnF x) (jnF y) (jnF z)
theorem jn_ok : ∀ {n : Nat} {t : Tr}, t.ok n → (jnF t).ok n
  | 0, _, h => h.elim
  | n + 1, .fin s, h => h
  | n + 1, .cell c x y z, h => by
    unfold jnF
    split
    · exact tr_up (by omega) (jn_ok h.2.1)
    · exact ⟨h.1, jn_ok h.2.1, jn_ok h.2.2.1, jn_ok h.2.2.2⟩
def mxZ (a b c : Int) : Int := [b, c].foldl (fun a b => if a < b then b else a) a
def dpF : Tr → Int
  | .fin _ => 0
  | .cell _ x y z => 1 + mxZ (dpF x) (dpF y) (dpF z)
def goF (w : Wd) : Tr → Str
  | .fin s => s
  | .cell c x y z => if w.at c = 0 then goF w x else if w.at c = 1 then goF w y else goF w z
/-! the tree of looks -/
def newL (es : Bk) (x : Nat) (w : Wd) (kn : List Nat) : List Nat := (ask0 es w x).s.seen.filter fun c => !decide (c ∈ kn)
def treeF (es : Bk) (x : Nat) : Nat → Wd → List Nat → Tr
  | 0, _, _ => .fin "?"
  | n + 1, w, kn => match newL es x w kn with
    | [] => .fin (sgn (ask0 es w x))
    | c :: _ => .cell c (treeF es x n (w.put c 0) (kn ++ [c])) (treeF es x n (w.put c 1) (kn ++ [c])) (treeF es x n (w.put c 2) (kn ++ [c]))
structure Kn (kn : List Nat) : Prop where
  nd : kn.Nodup
  sub : ∀ c ∈ kn, c ∈ [97, 98, 99]
theorem Kn.nil : Kn [] := ⟨List.nodup_nil, fun c h => by cases h⟩
theorem Kn.len {kn : List Nat} (h : Kn kn) : kn.length ≤ 3 := by
  have := nd_len h.nd h.sub
  simpa using this
theorem Kn.add {kn : List Nat} (h : Kn kn) {c : Nat} (hc : c ∈ [97, 98, 99]) (hn : c ∉ kn) : Kn (kn ++ [c]) := by
  refine ⟨List.nodup_append.mpr ⟨h.nd, by simp, fun a ha b hb => ?_⟩, fun a ha => ?_⟩
  · rw [List.mem_singleton.mp hb]
    intro e
    subst e
    exact hn ha
  · rcases List.mem_append.mp ha with q | q
    · exact h.sub a q
    · rw [List.mem_singleton.mp q]; exact hc
theorem new_mem {es : Bk} (he : BkOk es) {w : Wd} (hw : w.ok) {x : Nat} {kn : List Nat} {c : Nat} (h : c ∈ newL es x w kn) : c ∈ [97, 98, 99] ∧ c ∉ kn := by
  have fi := ask0_fi he hw x
  have h := List.mem_filter.mp h
  exact ⟨fi.sns c h.1, by simpa using h.2⟩
theorem sgn_mem {es : Bk} (he : BkOk es) {w : Wd} (hw : w.ok) (x : Nat) : sgn (ask0 es w x) ∈ sgs := by
  have ok := ask0_ok he hw x
  cases q : ask0 es w x with
  | ok v s =>
    rw [q] at ok
    have hv : V3 v := ok.2.2
    rcases hv with h | h | h <;> subst h <;> simp only [sgn] <;> decide +kernel
  | er e s => cases e <;> simp [sgn, sgs]
theorem tree_ok {es : Bk} (he : BkOk es) (x : Nat) : ∀ (n : Nat) {w : Wd} {kn : List Nat}, w.ok → Kn kn → n + kn.length = 4 → (treeF es x n w kn).ok n
  | 0, w, kn, hw, hk, h => by have := hk.len; omega
  | n + 1, w, kn, hw, hk, h => by
    unfold treeF
    cases q : newL es x w kn with
    | nil => exact sgn_mem he hw x
    | cons c l =>
      obtain ⟨h1, h2⟩ := new_mem he hw (c := c) (by rw [q]; exact List.mem_cons_self)
      have k2 := hk.add h1 h2
      have hl : n + (kn ++ [c]).length = 4 := by simp; omega
      exact ⟨h1, tree_ok he x n (Wd.put_ok hw (.inl rfl) c) k2 hl, tree_ok he x n (Wd.put_ok hw (.inr (.inl rfl)) c) k2 hl, tree_ok he x n (Wd.put_ok hw (.inr (.inr rfl)) c) k2 hl⟩
end KW

namespace KW
open PySem L2 KL KU
theorem end_ne : ("cell" : Str) ≠ "end" := by decide
theorem end_ne' : ("end" : Str) ≠ "cell" := by decide
theorem tr_i0 {st : Sto} (c : Nat) (x y z : Tr) : idxD st (Tr.cell c x y z).d (.int 0) = some (.str "cell") := rfl
theorem tr_i1 {st : Sto} (c : Nat) (x y z : Tr) : idxD st (Tr.cell c x y z).d (.int 1) = some (.str (S [c])) := rfl
theorem tr_i2 {st : Sto} (c : Nat) (x y z : Tr) : idxD st (Tr.cell c x y z).d (.int 2) = some (.tup ([x, y, z].map Tr.d)) := rfl
theorem tr_f0 {st : Sto} (s : Str) : idxD st (Tr.fin s).d (.int 0) = some (.str "end") := rfl
theorem tr_f1 {st : Sto} (s : Str) : idxD st (Tr.fin s).d (.int 1) = some (.str s) := rfl
theorem comp3 {vs : List Nat} {i : Nat} {fi : Im} {fe : Sm} {rh : Rho} {st : Sto} (x y z : Tr) (f : Tr → D) (hi : fi rh st = .ok ([x, y, z].map Tr.d) st) (h : ∀ t ∈ [x, y, z], cElt fe ((wipeR rh vs).set i (some (.val t.d))) st = .ok (f t) st) : eComp vs (.name i) fi none fe rh st = .ok (.fr [f x, f y, f z]) st := by
  refine comp_ok (ys := [x, y, z].map f) hi (by simp; exact sz (by decide)) ?_
  exact cLoop_mm Tr.d f [x, y, z] fun t ht => ⟨_, rfl, h t ht⟩
theorem max3 (a b c : Int) : maxD (.lst [.int a, .int b, .int c]) = some (.d (.int (mxZ a b c))) := rfl
theorem r_deepest : ∀ (n k : Nat) (t : Tr) (st : Sto), t.ok n → tbl dfs (k + n) "deepest" [t.d] st = .ok (.int (dpF t)) st
  | 0, _, _, _, h => h.elim
  | n + 1, k, .fin s, st, h => by
    rw [show k + (n + 1) = (k + n) + 1 from rfl, t_deepest]
    simp [fnR, rho0, m_deepest, tr_f0, dpF]
  | n + 1, k, .cell c x y z, st, h => by
    rw [show k + (n + 1) = (k + n) + 1 from rfl, t_deepest]
    have E := comp3 (vs := [1]) (i := 1) (fi := iOne itemsD (eIdx (eVar 0) (eC (.int 2)))) (fe := eCall (tbl dfs (k + n)) "deepest" [.e (eVar 1)]) (rh := [some (.val (Tr.cell c x y z).d), none]) (st := st) x y z (fun t => .int (dpF t)) (iOne_ok (t := .d (.tup ([x, y, z].map Tr.d))) (d := .tup ([x, y, z].map Tr.d)) (by simp [tr_i2]) rfl rfl rfl) (by
      intro t ht
      have hk : t.ok n := by
        simp at ht
        rcases ht with q | q | q <;> subst q
        · exact h.2.1
        · exact h.2.2.1
        · exact h.2.2.2
      have q := r_deepest n k t st hk
      simp [cElt, q])
    simp [-eComp_ev, fnR, rho0, m_deepest, tr_i0, E, max3, dpF, end_ne]
theorem r_joined : ∀ (n k : Nat) (t : Tr) (st : Sto), n ≤ 20 → t.ok n → tbl dfs (k + n) "joined" [t.d] st = .ok (jnF t).d st
  | 0, _, _, _, _, h => h.elim
  | n + 1, k, .fin s, st, hn, h => by
    rw [show k + (n + 1) = (k + n) + 1 from rfl, t_joined]
    simp [fnR, rho0, m_joined, tr_f0, jnF]
  | n + 1, k, .cell c x y z, st, hn, h => by
    rw [show k + (n + 1) = (k + n) + 1 from rfl, t_joined]
    have E := comp3 (vs := [2]) (i := 2) (fi := iOne itemsD (eIdx (eVar 0) (eC (.int 2)))) (fe := eCall (tbl dfs (k + n)) "joined" [.e (eVar 2)]) (rh := [some (.val (Tr.cell c x y z).d), none, none]) (st := st) x y z (fun t => (jnF t).d) (iOne_ok (t := .d (.tup ([x, y, z].map Tr.d))) (d := .tup ([x, y, z].map Tr.d)) (by simp [tr_i2]) rfl rfl rfl) (by
      intro t ht
      have hk : t.ok n := by
        simp at ht
        rcases ht with q | q | q <;> subst q
        · exact h.2.1
        · exact h.2.2.1
        · exact h.2.2.2
      have q := r_joined n k t st (by omega) hk
      simp [cElt, q])
    have e1 := tr_eq (st := st) (jn_ok h.2.1) (jn_ok h.2.2.1) (by omega)
    have e2 := tr_eq (st := st) (jn_ok h.2.2.1) (jn_ok h.2.2.2) (by omega)
    have a0 : ∀ a b c : D, atI [a, b, c] 0 = some a := fun _ _ _ => rfl
    have a1 : ∀ a b c : D, atI [a, b, c] 1 = some b := fun _ _ _ => rfl
    have a2 : ∀ a b c : D, atI [a, b, c] 2 = some c := fun _ _ _ => rfl
    have er : (Tr.cell c (jnF x) (jnF y) (jnF z)).d = .tup [.str "cell", .str (S [c]), .tup [(jnF x).d, (jnF y).d, (jnF z).d]] := rfl
    unfold jnF
    by_cases h1 : jnF x = jnF y
    · rw [decide_eq_true h1] at e1
      by_cases h2 : jnF y = jnF z
      · rw [decide_eq_true h2] at e2
        rw [if_pos ⟨h1, h2⟩]
        simp [-eComp_ev, fnR, rho0, m_joined, tr_i0, end_ne, E, e1, e2, a0, a1, a2]
      · rw [decide_eq_false h2] at e2
        rw [if_neg (fun q => h2 q.2), er]
        simp [-eComp_ev, fnR, rho0, m_joined, tr_i0, tr_i1, end_ne, E, e1, e2, a0, a1, a2]
    · rw [decide_eq_false h1] at e1
      rw [if_neg (fun q => h1 q.1), er]
      simp [-eComp_ev, fnR, rho0, m_joined, tr_i0, tr_i1, end_ne, E, e1, a0, a1, a2]
theorem cut1 (a b c : D) : cutD [a, b, c] none (some 1) = [a] := by rw [show (1 : Int) = ((1 : Nat) : Int) from rfl, cut_to]; rfl
/-! down a tree -/
theorem w_tree {i j : Nat} (hij : i ≠ j) {w : Wd} (hw : w.ok) (st : Sto) : ∀ (n m : Nat) (t : Tr) (rh : Rho), t.ok n → n ≤ m → i < rh.length → rh[i]? = some (V t.d) → rh[j]? = some (V (wdD w)) →
    wLoop (eCmp .Eq (eIdx (eVar i) (eC (.int 0))) (eC (.str "cell"))) (sAsg false i (eIdx (eIdx (eVar i) (eC (.int 2))) (eIdx (eVar j) (eIndex (eC (.str "abc")) (eIdx (eVar i) (eC (.int 1))))))) m rh st = .nx (rh.set i (V (Tr.fin (goF w t)).d)) st
  | 0, _, _, _, h, _, _, _, _ => h.elim
  | n + 1, 0, _, _, _, h, _, _, _ => by omega
  | n + 1, m + 1, .fin s, rh, h, hm, hl, hi, hj => by
    rw [wLoop_succ]
    have e : rh.set i (V (Tr.fin s).d) = rh := by
      have := (List.getElem?_eq_some_iff.mp hi).2
      rw [← this]
      simp
    simp [hi, tr_f0, end_ne', goF, e]
  | n + 1, m + 1, .cell c x y z, rh, h, hm, hl, hi, hj => by
    rw [wLoop_succ]
    have hs := six_abc c h.1
    obtain ⟨t, ht, hg, hd⟩ : ∃ t : Tr, t.ok n ∧ goF w t = goF w (.cell c x y z) ∧ (∀ st, (idxD st (wdD w) (.int ((c - 97 : Nat) : Int))).bind (fun v => idxD st (.tup ([x, y, z].map Tr.d)) v) = some t.d) := by
      have hc := h.1
      have a0 : ∀ a b c : D, atI [a, b, c] 0 = some a := fun _ _ _ => rfl
      have a1 : ∀ a b c : D, atI [a, b, c] 1 = some b := fun _ _ _ => rfl
      have a2 : ∀ a b c : D, atI [a, b, c] 2 = some c := fun _ _ _ => rfl
      obtain ⟨w1, w2, w3⟩ := hw
      simp only [cel3, List.mem_cons, List.not_mem_nil, or_false] at hc
      rcases hc with q | q | q <;> subst q
      · rcases w1 with q | q | q
        · exact ⟨x, h.2.1, by simp [goF, Wd.at, q], fun st => by simp [wdD, a0, q]⟩
        · exact ⟨y, h.2.2.1, by simp [goF, Wd.at, q], fun st => by simp [wdD, a0, a1, q]⟩
        · exact ⟨z, h.2.2.2, by simp [goF, Wd.at, q], fun st => by simp [wdD, a0, a2, q]⟩
      · rcases w2 with q | q | q
        · exact ⟨x, h.2.1, by simp [goF, Wd.at, q], fun st => by simp [wdD, a0, a1, q]⟩
        · exact ⟨y, h.2.2.1, by simp [goF, Wd.at, q], fun st => by simp [wdD, a1, q]⟩
        · exact ⟨z, h.2.2.2, by simp [goF, Wd.at, q], fun st => by simp [wdD, a1, a2, q]⟩
      · rcases w3 with q | q | q
        · exact ⟨x, h.2.1, by simp [goF, Wd.at, q], fun st => by simp [wdD, a0, a2, q]⟩
        · exact ⟨y, h.2.2.1, by simp [goF, Wd.at, q], fun st => by simp [wdD, a1, a2, q]⟩
        · exact ⟨z, h.2.2.2, by simp [goF, Wd.at, q], fun st => by simp [wdD, a2, q]⟩
    have ih := w_tree hij hw st n m t (rh.set i (V t.d)) ht (by omega) (by simpa using hl) (by simp [hl]) (by rw [List.getElem?_set_ne hij]; exact hj)
    have hd := hd st
    rw [Option.bind_eq_some_iff] at hd
    obtain ⟨v, hv, hd⟩ := hd
    have hvi : ∃ u : Int, v = .int u := by
      have : idxD st (wdD w) (.int ((c - 97 : Nat) : Int)) = atI [.int w.a, .int w.b, .int w.c] ((c - 97 : Nat) : Int) := rfl
      rw [this, at_nat] at hv
      have hm := List.mem_of_getElem? hv
      simp at hm
      rcases hm with q | q | q <;> exact ⟨_, q⟩
    obtain ⟨u, rfl⟩ := hvi
    rw [List.set_set, hg] at ih
    simp only [eCmp_ev, eOp2_ev, eIdx_ev, eVar_ev, hi, hj, R.bind_ok, eC_ev, tr_view, view_int, tr_i0, dV_some', view_str, eq_str, decide_true, bV_some, onR_ok, onT_bl, if_true, sAsg_ev, tr_i2, eIndex_ev', eIndex_ev, eOp1_ev, tr_i1, hs, wd_view, hv, view_tup, hd, asg_d]
    exact ih
theorem r_sign_by (n k : Nat) (t : Tr) {w : Wd} (hw : w.ok) (st : Sto) (hn : n ≤ 400) (h : t.ok n) : tbl dfs (k + 1) "sign_by" [t.d, wdD w] st = .ok (.str (goF w t)) st := by
  rw [t_sign_by]
  have q := w_tree (i := 0) (j := 1) (by decide) hw st n 400 t [V t.d, V (wdD w)] h hn (by simp) rfl rfl
  have e0 : fnR 2 (m_sign_by (tbl dfs k)) [t.d, wdD w] st = fin st.length (onN (wLoop (eCmp .Eq (eIdx (eVar 0) (eC (.int 0))) (eC (.str "cell"))) (sAsg false 0 (eIdx (eIdx (eVar 0) (eC (.int 2))) (eIdx (eVar 1) (eIndex (eC (.str "abc")) (eIdx (eVar 0) (eC (.int 1))))))) 400 [some (cellD t.d), some (cellD (wdD w))] st) (sRet (eIdx (eVar 0) (eC (.int 1))))) := rfl
  rw [e0, tr_cell, wd_cell]
  rw [q]
  simp [tr_f1]
end KW

namespace KW
open PySem L2 KL KU
theorem lk_new {st : Sto} {n m : Nat} {C : Str} {fs : List (Str × D)} {l kn : List Nat} (hn : st[n]? = some (.ins C fs)) (hf : fs.lookup ("seen" : Str) = some (.loc m)) (hm : st[m]? = some (.lst (l.map nmD))) (hl : l.length ≤ 1000) {rh : Rho} {f2 : Sm} (h4 : rh[4]? = some (V (.loc n))) (h3 : rh[3]? = some (V (.lst (kn.map nmD)))) (hr : rh.length = 11) :
    eLk (eFld "seen" (eVar 4)) (eComp [7] (.name 7) (iLk (eFld "seen" (eVar 4))) (some (eCmp .NotIn (eVar 7) (eVar 3))) (eVar 7)) f2 rh st = .ok (.fr ((l.filter fun c => !decide (c ∈ kn)).map nmD)) st := by
  have hnm : m ≠ n := by
    intro e
    subst e
    rw [hn] at hm
    cases hm
  have hml : m < st.length := (List.getElem?_eq_some_iff.mp hm).1
  have hs : (st.set m (.lsk (l.map nmD)))[m]? = some (.lsk (l.map nmD)) := by simp [hml]
  have hn' : (st.set m (.lsk (l.map nmD)))[n]? = some (.ins C fs) := by rw [List.getElem?_set_ne hnm]; exact hn
  have ev : ∀ s : Sto, s[n]? = some (.ins C fs) → eFld "seen" (eVar 4) rh s = .ok (.d (.loc m)) s := fun s q => by
    have v : view rh s (.d (.loc n)) = some (.loc n) := by rw [view_loc, q]
    simp only [eFld_ev, eOp1_ev, eVar_ev, h4, R.bind_ok, v, fldD_loc, q, hf, dV_some']
  have comp : cLoop (.name 7) (some (eCmp .NotIn (eVar 7) (eVar 3))) (eVar 7) (wipeR rh [7]) (l.map nmD) (st.set m (.lsk (l.map nmD))) = .ok ((l.filter fun c => !decide (c ∈ kn)).map nmD) (st.set m (.lsk (l.map nmD))) := by
    refine cLoop_fm nmD _ nmD _ fun c hc => ⟨(wipeR rh [7]).set 7 (V (nmD c)), rfl, ?_, fun _ => ?_⟩
    · have a7 : ((wipeR rh [7]).set 7 (V (nmD c)))[7]? = some (V (nmD c)) := by simp [wipeR, hr]
      have a3 : ((wipeR rh [7]).set 7 (V (nmD c)))[3]? = some (V (.lst (kn.map nmD))) := by simp [wipeR, h3, List.getElem?_set]
      have i2 := in_lst (st := st.set m (.lsk (l.map nmD))) c kn
      simp only [eCmp_ev, eOp2_ev, eVar_ev, a7, a3, R.bind_ok, view_lst]
      simp only [show nmD c = .str (S [c]) from rfl, view_str, nin_ev, i2]
      rfl
    · have a7 : ((wipeR rh [7]).set 7 (V (nmD c)))[7]? = some (V (nmD c)) := by simp [wipeR, hr]
      simp only [cElt, eVar_ev, a7]
      rfl
  have e1 : eComp [7] (.name 7) (iLk (eFld "seen" (eVar 4))) (some (eCmp .NotIn (eVar 7) (eVar 3))) (eVar 7) rh (st.set m (.lsk (l.map nmD))) = .ok (.fr ((l.filter fun c => !decide (c ∈ kn)).map nmD)) (st.set m (.lsk (l.map nmD))) := by
    refine comp_ok ?_ (by simp; exact sz hl) comp
    show (eFld "seen" (eVar 4) rh (st.set m (.lsk (l.map nmD)))).bind _ = _
    rw [ev _ hn', R.bind_ok]
    simp only [hs]
    rfl
  unfold eLk
  rw [ev _ hn]
  simp only [hm, isT, Bool.false_eq_true, if_false, lockO, e1, hs, Option.bind_some, unlockO]
  rw [List.set_set]
  congr 1
  have : st[m] = .lst (l.map nmD) := by rw [List.getElem?_eq_some_iff] at hm; exact hm.2
  rw [← this]
  simp
theorem sUnp_ev (is : List Nat) (fe : Sm) (rh : Rho) (st : Sto) : sUnp is fe rh st = onR (fe rh st) rh fun t st => (match toDv t with
  | some d => (match tgSet (.tup is) d rh with
    | some rh' => .nx rh' st
    | none => .no)
  | none => .no) := rfl
theorem w3 : itemsD (Kc.d (.tI [0, 1, 2])) = some (([0, 1, 2] : List Int).map D.int) := rfl
theorem r_tree_from {es : Bk} (he : BkOk es) (x : Nat) : ∀ (n k : Nat) (w : Wd) (kn : List Nat) (st : Sto), Fit st → w.ok → Kn kn → n + kn.length = 4 →
    tbl dfs (k + 49 + n) "tree_from" [bkD es, .str (S [x]), wdD w, .lst (kn.map nmD)] st = .ok (treeF es x n w kn).d st
  | 0, _, _, kn, _, _, _, hk, h => by have := hk.len; omega
  | n + 1, k, w, kn, st, hf, hw, hk, h => by
    rw [show k + 49 + (n + 1) = (k + 49 + n) + 1 from rfl, t_tree_from]
    have a := r_run_of (k + n) he hw x st hf
    rw [show k + n + 49 = k + 49 + n by omega] at a
    have fi := ask0_fi he hw x
    have sl := fi.seen
    have L := lk_new (st := rst st es w (toRn (ask0 es w x).s (ask0 es w x).g) []) (n := st.length) (m := st.length + 4) (C := "Run") (fs := rnF st.length w (ask0 es w x).g) (l := (ask0 es w x).s.seen) (kn := kn) rst_0 rn5 rst_4 (by omega) (f2 := eComp [7] (.name 7) (iOne itemsD (eFld "seen" (eVar 4))) (some (eCmp .NotIn (eVar 7) (eVar 3))) (eVar 7)) (rh := [V (bkD es), V (.str (S [x])), V (wdD w), V (.lst (kn.map nmD)), V (.loc st.length), V (.str (sgn (ask0 es w x))), none, none, none, none, none]) rfl rfl rfl
    change _ = R.ok (TV.fr ((newL es x w kn).map nmD)) _ at L
    have ct : ∀ t : Tr, cut st.length t.d (rst st es w (toRn (ask0 es w x).s (ask0 es w x).g) []) = st := fun t => cut_rst hf (tr_below _ _)
    unfold treeF
    cases q : newL es x w kn with
    | nil =>
      rw [q] at L
      have c0 := ct (.fin (sgn (ask0 es w x)))
      simp only [Tr.d] at c0
      simp only [fnR, rho0, m_tree_from, sSeq_ev, sUnp_ev]
      simp [-eComp_ev, a, L, Tr.d, c0]
    | cons c l =>
      rw [q] at L
      obtain ⟨h1, h2⟩ := new_mem he hw (c := c) (by rw [q]; exact List.mem_cons_self)
      have k2 := hk.add h1 h2
      have hlen : n + (kn ++ [c]).length = 4 := by simp; omega
      have hf2 : Fit (rst st es w (toRn (ask0 es w x).s (ask0 es w x).g) []) := fit_rst hf (fun m => An.g_below m _)
      have hs := six_abc c h1
      have kl := hk.len
      have i0 : ∀ ds : List D, atI (nmD c :: ds) 0 = some (nmD c) := fun ds => (at_nat (nmD c :: ds) 0).trans rfl
      have ad : binD .Add (.lst (kn.map nmD)) (.lst [nmD c]) = some (.fr (kn.map nmD ++ [nmD c])) := bin_add_lst (by simp; exact sz (by omega))
      have ea : kn.map nmD ++ [nmD c] = (kn ++ [c]).map nmD := by simp
      rw [ea] at ad
      have comp : cLoop (.name 10) none (eCall (tbl dfs (k + 49 + n)) "tree_from" [.e (eVar 0), .e (eVar 1), .e (eCall (tbl dfs (k + 49 + n)) "with_cell" [.e (eVar 2), .e (eVar 8), .e (eVar 10)]), .e (eBin .Add (eVar 3) (eLst [(eIdx (eVar 6) (eC (.int 0)))]))]) [V (bkD es), V (.str (S [x])), V (wdD w), V (.lst (kn.map nmD)), V (.loc st.length), V (.str (sgn (ask0 es w x))), V (.lst ((c :: l).map nmD)), none, V (.int ((c - 97 : Nat) : Int)), none, none] (([0, 1, 2] : List Int).map D.int) (rst st es w (toRn (ask0 es w x).s (ask0 es w x).g) []) = .ok (([0, 1, 2] : List Int).map fun v => (treeF es x n (w.put c v) (kn ++ [c])).d) (rst st es w (toRn (ask0 es w x).s (ask0 es w x).g) []) := by
        refine cLoop_mm D.int _ _ fun v hv => ⟨_, rfl, ?_⟩
        have hv' : V3 v := by simp at hv; exact hv
        have g1 := r_with_cell (k + 48 + n) w v (rst st es w (toRn (ask0 es w x).s (ask0 es w x).g) []) c h1
        rw [show k + 48 + n + 1 = k + 49 + n by omega] at g1
        have g2 := r_tree_from he x n k (w.put c v) (kn ++ [c]) (rst st es w (toRn (ask0 es w x).s (ask0 es w x).g) []) hf2 (Wd.put_ok hw hv' c) k2 hlen
        simp only [cElt, eCall_ev, eArgsC_e, eArgsC_nil, eVar_ev, List.set_cons_succ, List.set_cons_zero, List.getElem?_cons_zero, List.getElem?_cons_succ, R.bind_ok, toDv_d, g1, eBin_ev, eOp2_ev, eLst_ev, eArgs_cons, eArgs_nil, eIdx_ev, eC_ev, view_lst, view_int, view_fr, idx_lst, List.map_cons, i0, dV_some', ad, toDv_fr, g2, oR_some]
      have E := comp_ok (fi := iOne itemsD (eC (Kc.d (.tI [0, 1, 2])))) (rh := [V (bkD es), V (.str (S [x])), V (wdD w), V (.lst (kn.map nmD)), V (.loc st.length), V (.str (sgn (ask0 es w x))), V (.lst ((c :: l).map nmD)), none, V (.int ((c - 97 : Nat) : Int)), none, none]) (vs := [10]) (iOne_ok (d := Kc.d (.tI [0, 1, 2])) rfl rfl rfl w3) (by simp; exact sz (by decide)) comp
      have c0 := ct (.cell c (treeF es x n (w.put c 0) (kn ++ [c])) (treeF es x n (w.put c 1) (kn ++ [c])) (treeF es x n (w.put c 2) (kn ++ [c])))
      simp only [Tr.d] at c0
      simp only [fnR, rho0, m_tree_from, sSeq_ev, sUnp_ev]
      have hs' : sixS "abc" (nmD c) = some (.d (.int ((c - 97 : Nat) : Int))) := hs
      simp only [List.map_cons, List.map_nil] at L E
      have nv : ∀ (rh : Rho) (st : Sto), view rh st (.d (nmD c)) = some (nmD c) := fun _ _ => rfl
      have kd : Kc.d (.str "abc") = .str "abc" := rfl
      have c0 : cut st.length (.tup [.str "cell", nmD c, .tup [(treeF es x n (w.put c 0) (kn ++ [c])).d, (treeF es x n (w.put c 1) (kn ++ [c])).d, (treeF es x n (w.put c 2) (kn ++ [c])).d]]) (rst st es w (toRn (ask0 es w x).s (ask0 es w x).g) []) = st := c0
      show _ = R.ok (D.tup [.str "cell", nmD c, .tup [(treeF es x n (w.put c 0) (kn ++ [c])).d, (treeF es x n (w.put c 1) (kn ++ [c])).d, (treeF es x n (w.put c 2) (kn ++ [c])).d]]) st
      simp [-eComp_ev, a, L, i0, nv, kd, hs', E, c0]
theorem r_tree {es : Bk} (he : BkOk es) (x k : Nat) (st : Sto) (hf : Fit st) : tbl dfs (k + 54) "tree" [bkD es, .str (S [x])] st = .ok (treeF es x 4 ⟨0, 0, 0⟩ []).d st := by
  rw [show k + 54 = (k + 49 + 4) + 1 from rfl, t_tree]
  have q := r_tree_from he x 4 k ⟨0, 0, 0⟩ [] st hf ⟨.inl rfl, .inl rfl, .inl rfl⟩ Kn.nil rfl
  have q : tbl dfs (k + 49 + 4) "tree_from" [bkD es, .str (S [x]), .tup [.int 0, .int 0, .int 0], .lst []] st = .ok (treeF es x 4 ⟨0, 0, 0⟩ []).d st := q
  simp [fnR, rho0, m_tree, q]
end KW

namespace KW
open PySem L2 KL KU
/-! ### trees lead where the table leads -/
def asF (w : Wd) : Tr → List Nat
  | .fin _ => []
  | .cell c x y z => c :: (if w.at c = 0 then asF w x else if w.at c = 1 then asF w y else asF w z)
theorem put_at {w : Wd} {c d : Nat} (hc : c ∈ [97, 98, 99]) (hd : d ∈ [97, 98, 99]) (v : Int) : (w.put c v).at d = if d = c then v else w.at d := by
  simp only [List.mem_cons, List.not_mem_nil, or_false] at hc hd
  rcases hc with q | q | q <;> subst q <;> rcases hd with q | q | q <;> subst q <;> simp [Wd.put, Wd.at]
theorem ask0_dv {es : Bk} {w u : Wd} {x : Nat} {kn : List Nat} (hk : ∀ c ∈ kn, w.at c = u.at c) : (ask0 es w x = ask0 es u x ∧ ∀ c ∈ (ask0 es w x).s.seen, c ∈ kn) ∨ ∃ p c m m', (∀ d ∈ p, d ∈ kn) ∧ c ∉ kn ∧ (ask0 es w x).s.seen = p ++ c :: m ∧ (ask0 es u x).s.seen = p ++ c :: m' := by
  have s := askF_sim (es := es) (es' := es) (K := fun c => c ∈ kn) (B := fun _ => True) (w := w) (w' := u) (fun c _ hc => hk c hc) (fun _ _ => rfl) (fun _ => rfl) 6 x fs0 ⟨by simp [fs0], fun _ _ => trivial⟩
  rcases s with ⟨e, h⟩ | d
  · exact .inl ⟨e, h.1⟩
  · rcases d with ⟨p, c, m, m', h1, h2, h3, h4⟩ | ⟨p, c, m, m', h1, h2, h3, _⟩
    · exact .inr ⟨p, c, m, m', h1, h2, h3, h4⟩
    · exact absurd trivial h2
theorem pre_eq {kn rest p m : List Nat} {c : Nat} (nd : (kn ++ rest).Nodup) (e : kn ++ rest = p ++ c :: m) (hp : ∀ d ∈ p, d ∈ kn) (hc : c ∉ kn) : p = kn := by
  rcases List.append_eq_append_iff.mp e with ⟨a, h1, h2⟩ | ⟨a, h1, h2⟩
  · cases a with
    | nil => simpa using h1
    | cons d a =>
      exfalso
      have h3 : d ∈ kn := hp d (by rw [h1]; simp)
      rw [List.nodup_append] at nd
      exact nd.2.2 d h3 d (by rw [h2]; simp) rfl
  · cases a with
    | nil => simpa using h1.symm
    | cons d a =>
      exfalso
      simp only [List.cons_append, List.cons.injEq] at h2
      exact hc (by rw [h1, h2.1]; simp)
theorem tree_walk {es : Bk} (he : BkOk es) (x : Nat) {u : Wd} (hu : u.ok) : ∀ (n : Nat) {w : Wd} {kn rest : List Nat}, w.ok → Kn kn → n + kn.length = 4 → (∀ c ∈ kn, w.at c = u.at c) → (ask0 es u x).s.seen = kn ++ rest →
    goF u (treeF es x n w kn) = sgn (ask0 es u x) ∧ kn ++ asF u (treeF es x n w kn) = (ask0 es u x).s.seen
  | 0, w, kn, rest, hw, hk, h, ha, hr => by have := hk.len; omega
  | n + 1, w, kn, rest, hw, hk, h, ha, hr => by
    have nd := (ask0_fi he hu x).snd
    have d := ask0_dv (es := es) (x := x) ha
    unfold treeF
    cases q : newL es x w kn with
    | nil =>
      have hs : ∀ c ∈ (ask0 es w x).s.seen, c ∈ kn := fun c hc => by
        apply Classical.byContradiction
        intro hn
        have : c ∈ newL es x w kn := List.mem_filter.mpr ⟨hc, by simpa using hn⟩
        rw [q] at this
        cases this
      rcases d with ⟨e, _⟩ | ⟨p, c, m, m', h1, h2, h3, h4⟩
      · refine ⟨by rw [← e]; rfl, ?_⟩
        have hn : rest = [] := by
          cases rest with
          | nil => rfl
          | cons c l =>
            exfalso
            have hc : c ∈ (ask0 es w x).s.seen := by rw [e, hr]; simp
            have hc := hs c hc
            rw [hr, List.nodup_append] at nd
            exact nd.2.2 c hc c (by simp) rfl
        rw [hr, hn]
        rfl
      · exact absurd (hs c (by rw [h3]; simp)) h2
    | cons c l =>
      obtain ⟨c1, c2⟩ := new_mem he hw (c := c) (by rw [q]; exact List.mem_cons_self)
      have cs : c ∈ (ask0 es w x).s.seen := (List.mem_filter.mp (show c ∈ newL es x w kn by rw [q]; exact List.mem_cons_self)).1
      rcases d with ⟨e, hs⟩ | ⟨p, c', m, m', h1, h2, h3, h4⟩
      · exact absurd (hs c cs) c2
      · have ec : c' = c := by
          have e : newL es x w kn = (p ++ c' :: m).filter fun c => !decide (c ∈ kn) := by unfold newL; rw [h3]
          have e2 : p.filter (fun c => !decide (c ∈ kn)) = [] := List.filter_eq_nil_iff.mpr fun d hd => by simp [h1 d hd]
          rw [q, List.filter_append, e2, List.nil_append, List.filter_cons_of_pos (by simp [h2])] at e
          simp only [List.cons.injEq] at e
          exact e.1.symm
        subst ec
        have ep := pre_eq (by rw [← hr]; exact nd) (by rw [← hr, h4]) h1 h2
        subst ep
        have hv := V3.cell hu c'
        have k2 := hk.add c1 h2
        have hl : n + (p ++ [c']).length = 4 := by simp; omega
        have ag : ∀ d ∈ p ++ [c'], (w.put c' (u.at c')).at d = u.at d := fun d hd => by
          rw [put_at c1 (k2.sub d hd)]
          split
          · rename_i e; rw [e]
          · rename_i e
            rcases List.mem_append.mp hd with z | z
            · exact ha d z
            · exact absurd (List.mem_singleton.mp z) e
        have ih := tree_walk he x hu n (Wd.put_ok hw hv c') k2 hl ag (rest := m') (by rw [h4]; simp)
        rw [List.append_assoc, List.singleton_append] at ih
        rcases hv with z | z | z <;> rw [z] at ih <;> simp only [goF, asF, z] <;> simpa using ih
theorem tree_goes {es : Bk} (he : BkOk es) (x : Nat) {u : Wd} (hu : u.ok) : goF u (treeF es x 4 ⟨0, 0, 0⟩ []) = sgn (ask0 es u x) ∧ asF u (treeF es x 4 ⟨0, 0, 0⟩ []) = (ask0 es u x).s.seen :=
  tree_walk he x hu 4 (w := ⟨0, 0, 0⟩) (kn := []) ⟨.inl rfl, .inl rfl, .inl rfl⟩ Kn.nil rfl (fun c h => by cases h) (rest := (ask0 es u x).s.seen) rfl
/-! ### joined -/
theorem jn_go (w : Wd) : ∀ t : Tr, goF w (jnF t) = goF w t
  | .fin s => rfl
  | .cell c x y z => by
    unfold jnF
    have hx := jn_go w x
    have hy := jn_go w y
    have hz := jn_go w z
    split
    · rename_i h
      rw [← h.2] at hz
      rw [← h.1] at hy hz
      simp only [goF, ← hx, ← hy, ← hz]
      simp
    · simp only [goF, hx, hy, hz]
theorem jn_jn : ∀ t : Tr, jnF (jnF t) = jnF t
  | .fin s => rfl
  | .cell c x y z => by
    have e : jnF (.cell c x y z) = if jnF x = jnF y ∧ jnF y = jnF z then jnF x else .cell c (jnF x) (jnF y) (jnF z) := rfl
    rw [e]
    split
    · exact jn_jn x
    · rename_i h
      have e : jnF (.cell c (jnF x) (jnF y) (jnF z)) = if jnF (jnF x) = jnF (jnF y) ∧ jnF (jnF y) = jnF (jnF z) then jnF (jnF x) else .cell c (jnF (jnF x)) (jnF (jnF y)) (jnF (jnF z)) := rfl
      rw [e, jn_jn x, jn_jn y, jn_jn z, if_neg h]
theorem mx_le {a b c a' b' c' : Int} (h1 : a ≤ a') (h2 : b ≤ b') (h3 : c ≤ c') : mxZ a b c ≤ mxZ a' b' c' := by
  simp only [mxZ, List.foldl_cons, List.foldl_nil]
  split <;> split <;> split <;> split <;> omega
theorem mx_ge {a b c : Int} : a ≤ mxZ a b c ∧ b ≤ mxZ a b c ∧ c ≤ mxZ a b c := by
  simp only [mxZ, List.foldl_cons, List.foldl_nil]
  split <;> split <;> omega
theorem mx_lt {a b c n : Int} (h1 : a ≤ n) (h2 : b ≤ n) (h3 : c ≤ n) : mxZ a b c ≤ n := by
  simp only [mxZ, List.foldl_cons, List.foldl_nil]
  split <;> split <;> omega
theorem dp_0 : ∀ t : Tr, 0 ≤ dpF t
  | .fin s => Int.le_refl _
  | .cell c x y z => by
    have := dp_0 x
    have := mx_ge (a := dpF x) (b := dpF y) (c := dpF z)
    simp only [dpF]
    omega
theorem jn_dp : ∀ t : Tr, dpF (jnF t) ≤ dpF t
  | .fin s => Int.le_refl _
  | .cell c x y z => by
    have hx := jn_dp x
    have hy := jn_dp y
    have hz := jn_dp z
    have g := mx_ge (a := dpF x) (b := dpF y) (c := dpF z)
    unfold jnF
    split
    · simp only [dpF]; omega
    · have := mx_le hx hy hz
      simp only [dpF]; omega
theorem dp_n : ∀ (n : Nat) (t : Tr), t.ok (n + 1) → dpF t ≤ n
  | n, .fin s, _ => by simp only [dpF]; omega
  | 0, .cell c x y z, h => h.2.1.elim
  | n + 1, .cell c x y z, h => by
    have := mx_lt (dp_n n x h.2.1) (dp_n n y h.2.2.1) (dp_n n z h.2.2.2)
    simp only [dpF]
    omega
theorem dp_fin {t : Tr} (h : dpF t = 0) : ∃ s, t = .fin s := by
  cases t with
  | fin s => exact ⟨s, rfl⟩
  | cell c x y z =>
    exfalso
    have := dp_0 x
    have := mx_ge (a := dpF x) (b := dpF y) (c := dpF z)
    simp only [dpF] at h
    omega
theorem one_sign {es : Bk} (he : BkOk es) (x : Nat) (s : Str) : ∀ (n : Nat) {w : Wd} {kn : List Nat}, w.ok → Kn kn → n + kn.length = 4 → (∀ u : Wd, u.ok → (∀ c ∈ kn, w.at c = u.at c) → goF u (treeF es x n w kn) = s) → jnF (treeF es x n w kn) = .fin s
  | 0, w, kn, hw, hk, h, hs => by have := hk.len; omega
  | n + 1, w, kn, hw, hk, h, hs => by
    unfold treeF at hs ⊢
    cases q : newL es x w kn with
    | nil =>
      rw [q] at hs
      have := hs w hw fun _ _ => rfl
      simp only [goF] at this
      simp only [jnF, this]
    | cons c l =>
      rw [q] at hs
      simp only at hs ⊢
      obtain ⟨c1, c2⟩ := new_mem he hw (c := c) (by rw [q]; exact List.mem_cons_self)
      have k2 := hk.add c1 c2
      have hl : n + (kn ++ [c]).length = 4 := by simp; omega
      have sub : ∀ v, V3 v → jnF (treeF es x n (w.put c v) (kn ++ [c])) = .fin s := fun v hv => by
        refine one_sign he x s n (Wd.put_ok hw hv c) k2 hl fun u hu ag => ?_
        have uc : u.at c = v := by
          have := ag c (by simp)
          rw [put_at c1 c1, if_pos rfl] at this
          exact this.symm
        have g := hs u hu fun d hd => by
          have := ag d (List.mem_append_left _ hd)
          rw [put_at c1 (hk.sub d hd), if_neg (fun e => c2 (by rw [← e]; exact hd))] at this
          exact this
        rcases hv with z | z | z <;> subst z <;> simp only [goF, uc] at g <;> simpa using g
      have s0 := sub 0 (.inl rfl)
      have s1 := sub 1 (.inr (.inl rfl))
      have s2 := sub 2 (.inr (.inr rfl))
      simp only [jnF, s0, s1, s2, and_self, if_true]
theorem wl_mem {u : Wd} (hu : u.ok) : u ∈ wl27 := by
  obtain ⟨a, b, c⟩ := u
  obtain ⟨h1, h2, h3⟩ := hu
  simp only at h1 h2 h3
  have e : ∀ a ∈ ([0, 1, 2] : List Int), ∀ b ∈ ([0, 1, 2] : List Int), ∀ c ∈ ([0, 1, 2] : List Int), (wl27.any fun w => w.a == a && w.b == b && w.c == c) = true := by decide +kernel
  have := e a (by simpa using h1) b (by simpa using h2) c (by simpa using h3)
  rw [List.any_eq_true] at this
  obtain ⟨w, hw, q⟩ := this
  simp only [Bool.and_eq_true, beq_iff_eq] at q
  obtain ⟨⟨rfl, rfl⟩, rfl⟩ := q
  exact hw
theorem hang_none {es : Bk} {x : Nat} : hangL es x = [] ↔ ∀ u : Wd, u.ok → sgn (ask0 es u x) = sgn (ask0 es ⟨0, 0, 0⟩ x) := by
  have f : hangL es x = [] ↔ ∀ c ∈ cl3, hangF es x c = false := by
    unfold hangL
    rw [List.filter_eq_nil_iff]
    simp
  have g : ∀ c, hangF es x c = false ↔ ∀ w ∈ wl27, sgn (ask0 es w x) = sgn (ask0 es (w.put c 0) x) := fun c => by
    unfold hangF
    rw [List.any_eq_false]
    simp
  rw [f]
  constructor
  · intro h u hu
    have ha := (g 97).mp (h 97 (by decide)) u (wl_mem hu)
    have u1 := Wd.put_ok hu (v := 0) (.inl rfl) 97
    have hb := (g 98).mp (h 98 (by decide)) _ (wl_mem u1)
    have u2 := Wd.put_ok u1 (v := 0) (.inl rfl) 98
    have hc := (g 99).mp (h 99 (by decide)) _ (wl_mem u2)
    rw [ha, hb, hc]
    rfl
  · intro h c hc
    rw [g c]
    intro w hw
    have hw := wl_ok w hw
    rw [h w hw, h _ (Wd.put_ok hw (.inl rfl) c)]
theorem deep_hang {es : Bk} (he : BkOk es) (x : Nat) : dpF (jnF (treeF es x 4 ⟨0, 0, 0⟩ [])) = 0 ↔ hangL es x = [] := by
  have w0 : Wd.ok ⟨0, 0, 0⟩ := ⟨.inl rfl, .inl rfl, .inl rfl⟩
  rw [hang_none]
  constructor
  · intro h u hu
    obtain ⟨s, e⟩ := dp_fin h
    have q : ∀ u : Wd, u.ok → sgn (ask0 es u x) = s := fun u hu => by
      rw [← (tree_goes he x hu).1, ← jn_go, e]
      rfl
    rw [q u hu, q _ w0]
  · intro h
    rw [one_sign he x (sgn (ask0 es ⟨0, 0, 0⟩ x)) 4 w0 Kn.nil rfl fun u hu _ => by rw [(tree_goes he x hu).1, h u hu]]
    rfl
end KW

namespace KW
open PySem L2 KL KU
/-! ### what a tree asks for -/
theorem br {w : Wd} (hw : w.ok) {c : Nat} {x y z : Tr} {n : Nat} (h : (Tr.cell c x y z).ok (n + 1)) : ∃ t : Tr, t.ok n ∧ asF w (.cell c x y z) = c :: asF w t ∧ ∃ u : Int, (∀ st, idxD st (wdD w) (.int ((c - 97 : Nat) : Int)) = some (.int u)) ∧ ∀ st, idxD st (.tup ([x, y, z].map Tr.d)) (.int u) = some t.d := by
  have hv := V3.cell hw c
  have i := fun st => wd_idx (st := st) w c h.1
  rcases hv with q | q | q
  · exact ⟨x, h.2.1, by simp [asF, q], 0, fun st => by rw [i, q], fun st => rfl⟩
  · exact ⟨y, h.2.2.1, by simp [asF, q], 1, fun st => by rw [i, q], fun st => rfl⟩
  · exact ⟨z, h.2.2.2, by simp [asF, q], 2, fun st => by rw [i, q], fun st => rfl⟩
theorem w_asked {w : Wd} (hw : w.ok) (st : Sto) (T : Tbl) : ∀ (n m : Nat) (t : Tr) (fs : List Nat), t.ok n → n ≤ m → fs.length + n ≤ 500 →
    ∃ s, wLoop (eCmp .Eq (eIdx (eVar 0) (eC (.int 0))) (eC (.str "cell"))) (b_law_asked_1 T) m [V t.d, V (wdD w), some (.own (fs.map nmD))] st = .nx [V (Tr.fin s).d, V (wdD w), some (.own ((fs ++ asF w t).map nmD))] st
  | 0, _, _, _, h, _, _ => h.elim
  | n + 1, 0, _, _, _, h, _ => by omega
  | n + 1, m + 1, .fin s, fs, h, hm, hl => by
    refine ⟨s, ?_⟩
    rw [wLoop_succ]
    simp [tr_f0, end_ne', asF]
  | n + 1, m + 1, .cell c x y z, fs, h, hm, hl => by
    obtain ⟨t, ht, ea, u, hv, hd⟩ := br hw h
    obtain ⟨s, ih⟩ := w_asked hw st T n m t (fs ++ [c]) ht (by omega) (by simp; omega)
    refine ⟨s, ?_⟩
    have hs := six_abc c h.1
    have ap : appD (.str (S [c])) (fs.map nmD) = some ((fs ++ [c]).map nmD) := by rw [app_ev (szL (by simp; omega))]; simp [nmD]
    rw [wLoop_succ, ea]
    rw [List.append_assoc, List.singleton_append] at ih
    have vt : ∀ rh st, view rh st (.d t.d) = some t.d := fun rh st => tr_view t rh st
    simp only [b_law_asked_1, sSeq_ev, sApp_ev, eCmp_ev, eOp2_ev, eIdx_ev, eVar_ev, List.getElem?_cons_zero, List.getElem?_cons_succ, R.bind_ok, eC_ev, tr_view, view_int, tr_i0, dV_some', view_str, eq_str, decide_true, bV_some, onR_ok, onT_bl, if_true, isL_o, tr_i1, toDv_d, updL_o, ap, List.set_cons_succ, List.set_cons_zero, onN_nx, sAsg_ev, tr_i2, eIndex_ev', eIndex_ev, eOp1_ev, hs, wd_view, hv, view_tup, hd, asg_d]
    exact ih
theorem r_asked (n k : Nat) (t : Tr) {w : Wd} (hw : w.ok) (st : Sto) (hn : n ≤ 400) (h : t.ok n) : tbl dfs (k + 1) "_law_asked" [t.d, wdD w] st = .ok (.lst ((asF w t).map nmD)) st := by
  rw [t_law_asked]
  obtain ⟨s, q⟩ := w_asked hw st (tbl dfs k) n 400 t [] h hn (by simp; omega)
  have e0 : fnR 3 (m_law_asked (tbl dfs k)) [t.d, wdD w] st = fin st.length (onN (wLoop (eCmp .Eq (eIdx (eVar 0) (eC (.int 0))) (eC (.str "cell"))) (b_law_asked_1 (tbl dfs k)) 400 [some (cellD t.d), some (cellD (wdD w)), some (.own [])] st) (sRet (eVar 2))) := rfl
  rw [e0, tr_cell, wd_cell]
  have q : wLoop (eCmp .Eq (eIdx (eVar 0) (eC (.int 0))) (eC (.str "cell"))) (b_law_asked_1 (tbl dfs k)) 400 [some (.val t.d), some (.val (wdD w)), some (.own [])] st = _ := q
  rw [q]
  simp
/-! ### sets, sorted lists -/
theorem insS_len' : ∀ (xs ks : List Str), (∀ x ∈ xs, x ∉ ks) → xs.Nodup → (xs.foldl insS ks).length = xs.length + ks.length
  | [], ks, _, _ => by simp
  | x :: xs, ks, h, nd => by
    have nd' := List.nodup_cons.mp nd
    have hx : insS ks x = x :: ks := by unfold insS; rw [if_neg (h x List.mem_cons_self)]
    rw [List.foldl_cons, hx, insS_len' xs (x :: ks) (fun y hy hm => by
      rcases List.mem_cons.mp hm with z | z
      · exact nd'.1 (z ▸ hy)
      · exact h y (List.mem_cons_of_mem _ hy) z) nd'.2]
    simp only [List.length_cons]
    omega
theorem lenSet_nm {l : List Nat} (nd : l.Nodup) (hl : l.length ≤ 100) : lenSD (.lst (l.map nmD)) = some (.int (l.length : Nat)) := by
  have e : l.map nmD = (l.map fun c => S [c]).map D.str := by rw [List.map_map]; rfl
  have nd' : (l.map fun c => S [c]).Nodup := by
    rw [List.nodup_iff_pairwise_ne, List.pairwise_map] at *
    exact nd.imp fun h => by simpa using h
  unfold lenSD
  rw [e]
  simp only [strs_map, Option.bind_some]
  rw [if_pos (by simp; omega), insS_len' _ [] (by simp) nd']
  simp
def sn16 : List (List Nat) := [[], [97], [98], [99], [97, 98], [97, 99], [98, 97], [98, 99], [99, 97], [99, 98], [97, 98, 99], [97, 99, 98], [98, 97, 99], [98, 99, 97], [99, 97, 98], [99, 98, 97]]
theorem seen_cases {l : List Nat} (nd : l.Nodup) (hs : ∀ c ∈ l, c ∈ [97, 98, 99]) : l ∈ sn16 := by
  have hl := nd_len nd hs
  match l, nd, hs, hl with
  | [], _, _, _ => decide
  | [a], nd, hs, _ =>
    have ha := hs a (by simp)
    simp only [List.mem_cons, List.not_mem_nil, or_false] at ha
    rcases ha with q | q | q <;> subst q <;> decide
  | [a, b], nd, hs, _ =>
    have ha := hs a (by simp)
    have hb := hs b (by simp)
    simp only [List.mem_cons, List.not_mem_nil, or_false] at ha hb
    rcases ha with q | q | q <;> subst q <;> rcases hb with q | q | q <;> subst q <;> first | decide | exact absurd nd (by decide)
  | [a, b, c], nd, hs, _ =>
    have ha := hs a (by simp)
    have hb := hs b (by simp)
    have hc := hs c (by simp)
    simp only [List.mem_cons, List.not_mem_nil, or_false] at ha hb hc
    rcases ha with q | q | q <;> subst q <;> rcases hb with q | q | q <;> subst q <;> rcases hc with q | q | q <;> subst q <;> first | decide | exact absurd nd (by decide)
  | a :: b :: c :: d :: r, _, _, hl => simp at hl
theorem srt_free {st : Sto} : ∀ l ∈ sn16, srtA st (.lst ((l ++ freeL l).map nmD)) = some (.fr [.str "a", .str "b", .str "c"]) := by
  intro l hl
  simp only [sn16, List.mem_cons, List.not_mem_nil, or_false] at hl
  rcases hl with h | h | h | h | h | h | h | h | h | h | h | h | h | h | h | h <;> subst h <;> kernel_rfl
theorem ne_abc {st : Sto} : cmpD st .NotEq (.lst [.str "a", .str "b", .str "c"]) (.lst [.str "a", .str "b", .str "c"]) = some false := by kernel_rfl
/-! ### the place of a world -/
theorem ix27 : ∀ n ∈ List.range 27, ixG (wl27.map wdD) (wdD (wN n)) = some n := by decide +kernel
theorem lix27 {n : Nat} (h : n < 27) : lixD (wl27.map wdD) (wdD (wN n)) = some (.d (.int (n : Nat))) := by
  have e : lixD (wl27.map wdD) (wdD (wN n)) = (ixG (wl27.map wdD) (wdD (wN n))).map fun j => .d (.int (j : Nat)) := rfl
  rw [e, ix27 n (List.mem_range.mpr h)]
  rfl
theorem unl_c (es es' : Bk) (x : Nat) (w : Wd) : unl es es' x w = !decide (sgc (ask0 es w x) = sgc (ask0 es' w x)) := by
  unfold unl
  rw [sgn_c, sgn_c]
  simp
theorem unl_comm (es es' : Bk) (x : Nat) : unl es es' x = unl es' es x := by
  funext w
  unfold unl
  congr 1
  exact decide_eq_decide.mpr eq_comm
theorem find_none {es es' : Bk} {x : Nat} (h : wl27.find? (unl es es' x) = none) : cs27 es x = cs27 es' x := by
  rw [List.find?_eq_none] at h
  unfold cs27
  refine List.map_congr_left fun w hw => ?_
  have := h w hw
  rw [unl_c] at this
  simpa using this
theorem find_some {es es' : Bk} {x : Nat} {w : Wd} (h : wl27.find? (unl es es' x) = some w) : ∃ n, n < 27 ∧ w = wN n ∧ (cs27 es x).take n = (cs27 es' x).take n ∧ (fN es x n ≠ fN es' x n) := by
  obtain ⟨hw, as, bs, e, ha⟩ := List.find?_eq_some_iff_append.mp h
  have hn : as.length < 27 := by
    have := wl_len
    rw [e] at this
    simp at this
    omega
  have hg : wl27[as.length]? = some w := by rw [e]; simp
  have hg2 : wl27[as.length]? = some (wN as.length) := by rw [wl27_wN, List.getElem?_map, List.getElem?_range hn]; rfl
  rw [hg] at hg2
  cases hg2
  refine ⟨as.length, hn, rfl, ?_, ?_⟩
  · unfold cs27
    rw [e]
    simp only [List.map_append]
    rw [List.take_append_of_le_length (by simp), List.take_append_of_le_length (by simp), List.take_of_length_le (by simp), List.take_of_length_le (by simp)]
    refine List.map_congr_left fun u hu => ?_
    have := ha u hu
    rw [unl_c] at this
    simpa using this
  · rw [unl_c] at hw
    simpa [fN] using hw
theorem cs_ne {es es' : Bk} {x n : Nat} (hn : n < 27) (h : fN es x n ≠ fN es' x n) : cs27 es x ≠ cs27 es' x := fun e => by
  have a := cs27_at es x hn
  rw [e, cs27_at es' x hn] at a
  simp only [Option.some.injEq] at a
  exact h a.symm
theorem cut_S0 (t : List Nat) (q : Nat) : cutS (S t) none (some (q : Int)) = S (t.take q) := by
  unfold cutS
  simp only [HT.sIx_nat, HT.sIx_none, S_cps, S_len]
  show S _ = S _
  congr 1
  simp only [List.drop_zero, Nat.sub_zero]
  by_cases h : q ≤ t.length
  · rw [Nat.min_eq_left h]
  · rw [Nat.min_eq_right (by omega), List.take_of_length_le (Nat.le_refl _), List.take_of_length_le (by omega)]
theorem tab_ix {st : Sto} (es : Bk) (x : Nat) {n : Nat} (h : n < 27) : idxD st (.str (S (cs27 es x))) (.int (n : Nat)) = some (.str (S [fN es x n])) := by
  rw [idx_str (by rw [S_len, cs27_len]; exact sz (by decide)), S_cps, at_nat, cs27_at es x h]
  rfl
theorem ne_bl {st : Sto} (b : Bool) : cmpD st .NotEq (.bl b) (.bl b) = some false := by cases b <;> kernel_rfl
theorem hang_eq {st : Sto} (es : Bk) (x : Nat) : cmpD st .Eq (.tup ((hangL es x).map nmD)) (.tup []) = some (decide (hangL es x = [])) := by
  have h : hangL es x = (if hangF es x 97 then [97] else []) ++ (if hangF es x 98 then [98] else []) ++ (if hangF es x 99 then [99] else []) := by
    unfold hangL cl3
    generalize hangF es x = f
    simp only [List.filter_cons, List.filter_nil]
    cases f 97 <;> cases f 98 <;> cases f 99 <;> rfl
  rw [h]
  cases hangF es x 97 <;> cases hangF es x 98 <;> cases hangF es x 99 <;> kernel_rfl
theorem wd_eqv (w : Wd) : PyData.eqv (.tuple [.int w.a, .int w.b, .int w.c]) (.tuple [.int w.a, .int w.b, .int w.c]) = true := by simp [PyData.eqv, PyData.eqvAll]
theorem ne_opt {st : Sto} (o : Option Wd) : cmpD st .NotEq (optW o) (optW o) = some false := by
  cases o with
  | none => kernel_rfl
  | some w =>
    have e : cmpD st .NotEq (wdD w) (wdD w) = (eqG (wdD w) (wdD w)).map (!·) := rfl
    have p : toPy (wdD w) = some (.tuple [.int w.a, .int w.b, .int w.c]) := rfl
    have s : SeqAt.shaped (.tuple [.int w.a, .int w.b, .int w.c]) = true := by
      simp [SeqAt.shaped, PyData.canLay0, PyData.canLayAll0, PyData.depth, PyData.depthAll]
    show cmpD st .NotEq (wdD w) (wdD w) = _
    rw [e]
    unfold eqG
    simp only [p, Option.bind_some, s, Bool.and_self, if_true, wd_eqv]
    rfl
theorem tr_ne {st : Sto} {n : Nat} {a : Tr} (ha : a.ok n) (hn : n ≤ 20) : cmpD st .NotEq a.d a.d = some false := by
  have e : cmpD st .NotEq a.d a.d = (cmpD st .Eq a.d a.d).map (!·) := rfl
  rw [e, tr_eq ha ha hn]
  simp
end KW

namespace KW
open PySem L2 KL KU
def abd : List Nat := [65, 66, 68]
theorem items_abd : itemsD (.str "ABD") = some (abd.map nmD) := by kernel_rfl
/-- what is known of a tree of looks -/
structure TrOf (es : Bk) (x : Nat) (t : Tr) : Prop where
  ok : t.ok 4
  go : ∀ u : Wd, u.ok → goF u t = sgn (ask0 es u x)
  asks : ∀ u : Wd, u.ok → asF u t = (ask0 es u x).s.seen
  deep : dpF (jnF t) = 0 ↔ hangL es x = []
theorem tr_of {es : Bk} (he : BkOk es) (x : Nat) : TrOf es x (treeF es x 4 ⟨0, 0, 0⟩ []) :=
  ⟨tree_ok he x 4 ⟨.inl rfl, .inl rfl, .inl rfl⟩ Kn.nil rfl, fun u hu => (tree_goes he x hu).1, fun u hu => (tree_goes he x hu).2, deep_hang he x⟩
theorem step3 (v0 v1 v3 v10 v11 : Option Cell) {es : Bk} (he : BkOk es) (x : Nat) {t : Tr} (ht : TrOf es x t) {u : Wd} {n : Nat} (hu : wl27[n]? = some u) (st : Sto) (hf : Fit st) :
    ∃ v10', b_law_3 G [v0, v1, V (bkD es), v3, V (nmD x), V t.d, V (.str (S (cs27 es x))), V (jnF t).d, V (.int (n : Nat)), V (wdD u), v10, v11] st = .nx [v0, v1, V (bkD es), v3, V (nmD x), V t.d, V (.str (S (cs27 es x))), V (jnF t).d, V (.int (n : Nat)), V (wdD u), v10', v11] st := by
  have hn : n < 27 := by
    have := (List.getElem?_eq_some_iff.mp hu).1
    rw [wl_len] at this
    exact this
  have hok := wl_ok u (List.mem_of_getElem? hu)
  have fi := ask0_fi he hok x
  have q1 := r_asked 4 59 t hok st (by decide) ht.ok
  rw [ht.asks u hok] at q1
  have q2 := r_sign_by 4 59 t hok st (by decide) ht.ok
  have q3 := r_sign_by 4 59 (jnF t) hok st (by decide) (jn_ok ht.ok)
  rw [jn_go] at q3
  rw [ht.go u hok, sgn_c] at q2 q3
  have q4 := r_free 10 he hok x st hf
  rw [show 59 + 1 = 60 from rfl] at q1 q2 q3
  rw [show 10 + 50 = 60 from rfl] at q4
  have ix : idxD st (.str (S (cs27 es x))) (.int (n : Nat)) = some (.str (S [sgc (ask0 es u x)])) := by
    rw [tab_ix es x hn]
    have a := cs27_at es x hn
    rw [cs27_w es x hu] at a
    simp only [Option.some.injEq] at a
    rw [← a]
  have hl3 := fi.seen
  have ls := lenSet_nm fi.snd (by omega)
  have hmem := seen_cases fi.snd fi.sns
  have hfl : (freeL (ask0 es u x).s.seen).length ≤ 3 := by
    have := List.length_filter_le (fun c => !decide (c ∈ (ask0 es u x).s.seen)) cells3
    exact this
  have sr := srt_free (st := st) _ hmem
  have ad := bin_add_lst (ds := (ask0 es u x).s.seen.map nmD) (es := (freeL (ask0 es u x).s.seen).map nmD) (sz (by rw [List.length_map, List.length_map]; omega))
  rw [← List.map_append] at ad
  refine ⟨V (.lst ((ask0 es u x).s.seen.map nmD)), ?_⟩
  have nx1 : nmD x = .str (S [x]) := rfl
  have llen : lenD st (.lst ((ask0 es u x).s.seen.map nmD)) = some (.int ((ask0 es u x).s.seen.length : Nat)) := by rw [len_lst, List.length_map]
  generalize hA : (ask0 es u x).s.seen = A at *
  simp only [nx1]
  simp only [b_law_3, sSeq_ev, sAsg_ev, eCall_ev, eArgsC_e, eArgsC_nil, eVar_ev, List.getElem?_cons_zero, List.getElem?_cons_succ, R.bind_ok, toDv_d, q1, onR_ok, asg_d, List.set_cons_succ, List.set_cons_zero, onN_nx, sIf_ev, eOr_ev, eCmp_ev, eOp2_ev, q2, q3, eIdx_ev, view_str, view_int, ix, dV_some', ne_str, decide_true, Bool.not_true, bV_some, onB_bl, Bool.false_eq_true, if_false, eLenSet_ev, eOp1_ev, view_lst, ls, eB1_ev, len_ev, llen, ne_int, onT_bl, sNil_ev]
  simp only [eSrtI_ev, eOp1_ev, eBin_ev, eOp2_ev, eVar_ev, List.getElem?_cons_zero, List.getElem?_cons_succ, R.bind_ok, eB1_ev, eCall_ev, eArgsC_e, eArgsC_nil, toDv_d, q4, view_tup, list_ev, lis_tup, view_lst, view_fr, ad, sr, eLst_ev, eArgs_cons, eArgs_nil, eC_ev, ne_abc, bV_some, onR_ok, onT_bl, Bool.false_eq_true, if_false]
theorem loop3 (v0 v1 v3 : Option Cell) {es : Bk} (he : BkOk es) (x : Nat) {t : Tr} (ht : TrOf es x t) (st : Sto) (hf : Fit st) (v8 v9 v10 v11 : Option Cell) :
    ∃ v8' v9' v10', sLoop (.tup [8, 9]) (b_law_3 G) ((wl27.zipIdx).map fun q => .raw [.int (q.2 : Nat), wdD q.1]) [v0, v1, V (bkD es), v3, V (nmD x), V t.d, V (.str (S (cs27 es x))), V (jnF t).d, v8, v9, v10, v11] st = .nx [v0, v1, V (bkD es), v3, V (nmD x), V t.d, V (.str (S (cs27 es x))), V (jnF t).d, v8', v9', v10', v11] st := by
  obtain ⟨rh', st', e, v8', v9', v10', rfl, rfl⟩ := sLoop_inv (tg := .tup [8, 9]) (body := b_law_3 G) (fun q : Wd × Nat => .raw [.int (q.2 : Nat), wdD q.1]) (fun rh st' => ∃ v8 v9 v10, st' = st ∧ rh = [v0, v1, V (bkD es), v3, V (nmD x), V t.d, V (.str (S (cs27 es x))), V (jnF t).d, v8, v9, v10, v11]) wl27.zipIdx _ st ⟨v8, v9, v10, rfl, rfl⟩ (by
    intro q hq rh st' hI
    obtain ⟨v8, v9, v10, rfl, rfl⟩ := hI
    have hz := List.mem_zipIdx_iff_getElem?.mp hq
    obtain ⟨v10', e⟩ := step3 v0 v1 v3 v10 v11 he x ht hz st' hf
    exact ⟨_, _, _, rfl, e, _, _, _, rfl, rfl⟩)
  exact ⟨v8', v9', v10', e⟩
theorem step2 {es es' : Bk} (he : BkOk es) (he' : BkOk es') (x : Nat) (st : Sto) (hf : Fit st) (v0 v1 v5 v6 v7 v8 v9 v10 v11 : Option Cell) :
    ∃ v5' v6' v7' v8' v9' v10' v11', b_law_2 G [v0, v1, V (bkD es), V (bkD es'), V (nmD x), v5, v6, v7, v8, v9, v10, v11] st = .nx [v0, v1, V (bkD es), V (bkD es'), V (nmD x), v5', v6', v7', v8', v9', v10', v11'] st := by
  have q1 := r_tree he x 6 st hf
  have ht := tr_of he x
  generalize treeF es x 4 ⟨0, 0, 0⟩ [] = t at q1 ht
  have q2 := r_table 9 he x st hf
  have q2' := r_table 9 he' x st hf
  rw [tabS_eq] at q2 q2'
  have q3 := r_joined 4 56 t st (by decide) ht.ok
  have q3' := r_joined 4 56 (jnF t) st (by decide) (jn_ok ht.ok)
  rw [jn_jn] at q3'
  have q4 := r_deepest 4 56 t st ht.ok
  have q4' := r_deepest 4 56 (jnF t) st (jn_ok ht.ok)
  have q5 := r_hangs_on 9 he x st hf
  have q6 := r_parting 9 he he' x st hf
  have q6' := r_parting 9 he' he x st hf
  rw [unl_comm es' es] at q6'
  have q7 := r_worlds 59 st
  rw [show 6 + 54 = 60 from rfl] at q1
  rw [show 9 + 51 = 60 from rfl] at q2 q2' q5 q6 q6'
  rw [show 56 + 4 = 60 from rfl] at q3 q3' q4 q4'
  rw [show 59 + 1 = 60 from rfl] at q7
  have d1 := jn_dp t
  have d2 := dp_n 3 t ht.ok
  have d1' : decide (dpF t < dpF (jnF t)) = false := decide_eq_false (by omega)
  have d2' : decide (3 < dpF t) = false := decide_eq_false (by omega)
  have tn := tr_ne (st := st) (jn_ok ht.ok) (by decide)
  have hg := hang_eq (st := st) es x
  have hdp : decide (dpF (jnF t) = 0) = decide (hangL es x = []) := decide_eq_decide.mpr ht.deep
  have nb := fun b => ne_bl (st := st) b
  have no := ne_opt (st := st) (wl27.find? (unl es es' x))
  obtain ⟨v8', v9', v10', L⟩ := loop3 v0 v1 (V (bkD es')) he x ht st hf v8 v9 v10 v11
  have en : enmD (.lst (wl27.map wdD)) = some ((wl27.zipIdx).map fun q => .raw [.int (q.2 : Nat), wdD q.1]) := by
    show some (numFrom 0 (wl27.map wdD)) = _
    rw [num_zip]
  have nx1 : nmD x = .str (S [x]) := rfl
  have s1 := @slc_str (S (cs27 es x))
  have l1 : (S (cs27 es x)).length ≤ sizeLine := by rw [S_len, cs27_len]; exact sz (by decide)
  have l2 : (S (cs27 es' x)).length ≤ sizeLine := by rw [S_len, cs27_len]; exact sz (by decide)
  have ix := fun n (h : n < 27) => tab_ix (st := st) es x h
  have ix' := fun n (h : n < 27) => tab_ix (st := st) es' x h
  simp only [nx1] at L ⊢
  cases hfd : wl27.find? (unl es es' x) with
  | none =>
    rw [hfd] at q6 q6' no
    have eq := find_none hfd
    refine ⟨V t.d, V (.str (S (cs27 es x))), V (jnF t).d, v8', V .non, v10', v11, ?_⟩
    have on : optW none = .non := rfl
    rw [on] at q6 q6' no
    rw [← eq] at q2'
    generalize hA : S (cs27 es x) = A at *
    simp only [b_law_2, sSeq_ev, sAsg_ev, eCall_ev, eArgsC_e, eArgsC_nil, eVar_ev, List.getElem?_cons_zero, List.getElem?_cons_succ, R.bind_ok, toDv_d, q1, onR_ok, asg_d, List.set_cons_succ, List.set_cons_zero, onN_nx, q2, q3, sFor_ev, iOneP_ev, q7, notLoc_lst, if_true, Option.bind_some, en, oR_some]
    rw [L]
    simp only [onN_nx, sSeq_ev, sAsg_ev, sIf_ev, eOr_ev, eCmp_ev, eOp2_ev, eCall_ev, eArgsC_e, eArgsC_nil, eVar_ev, List.getElem?_cons_zero, List.getElem?_cons_succ, R.bind_ok, toDv_d, q4, q4', view_int, gt_int, d1', bV_some, onB_bl, Bool.false_eq_true, if_false, eC_ev, d2', q3', tr_view, tn, onR_ok, onT_bl, sNil_ev, eq_int, hdp, view_bl, q5, eTup_ev, eArgs_nil, view_tup, hg, nb, q6, asg_d, List.set_cons_succ, List.set_cons_zero, is_ev, view_non, is_non_non, q2', view_str, eq_str, decide_true, q6', no, isn_ev, Option.map_some, Bool.not_true]
  | some w =>
    rw [hfd] at q6 q6' no
    obtain ⟨n, hn, rfl, tk, ne⟩ := find_some hfd
    have cne := cs_ne hn ne
    have eb : decide (S (cs27 es' x) = S (cs27 es x)) = false := decide_eq_false (fun e => cne (S_inj.mp e).symm)
    have on : optW (some (wN n)) = wdD (wN n) := rfl
    rw [on] at q6 q6' no
    have li := lix27 hn
    have c1 : slcD none (some (n : Int)) (.str (S (cs27 es x))) = some (.d (.str (S ((cs27 es x).take n)))) := by rw [slc_str none _ l1, cut_S0]
    have c2 : slcD none (some (n : Int)) (.str (S (cs27 es' x))) = some (.d (.str (S ((cs27 es x).take n)))) := by rw [slc_str none _ l2, cut_S0, tk]
    have i1 := ix n hn
    have i2 := ix' n hn
    have nf : decide (S [fN es' x n] = S [fN es x n]) = false := decide_eq_false (fun e => ne (by simpa using (S_inj.mp e).symm))
    have isw : isD (wdD (wN n)) .non = some false := rfl
    have il : ∀ rh st, isL rh st (.d (.lst (wl27.map wdD))) = true := fun _ _ => rfl
    refine ⟨V t.d, V (.str (S (cs27 es x))), V (jnF t).d, v8', V (wdD (wN n)), v10', V (.int (n : Nat)), ?_⟩
    generalize hT : S ((cs27 es x).take n) = TK at *
    generalize hA : S (cs27 es x) = A at *
    generalize hB : S (cs27 es' x) = B at *
    generalize hW : wl27.map wdD = WL at *
    simp only [b_law_2, sSeq_ev, sAsg_ev, eCall_ev, eArgsC_e, eArgsC_nil, eVar_ev, List.getElem?_cons_zero, List.getElem?_cons_succ, R.bind_ok, toDv_d, q1, onR_ok, asg_d, List.set_cons_succ, List.set_cons_zero, onN_nx, q2, q3, sFor_ev, iOneP_ev, q7, notLoc_lst, if_true, Option.bind_some, en, oR_some]
    rw [L]
    simp only [onN_nx, sSeq_ev, sAsg_ev, sIf_ev, eOr_ev, eCmp_ev, eOp2_ev, eCall_ev, eArgsC_e, eArgsC_nil, eVar_ev, List.getElem?_cons_zero, List.getElem?_cons_succ, R.bind_ok, toDv_d, q4, q4', view_int, gt_int, d1', bV_some, onB_bl, Bool.false_eq_true, if_false, eC_ev, d2', q3', tr_view, tn, onR_ok, onT_bl, sNil_ev, eq_int, hdp, view_bl, q5, eTup_ev, eArgs_nil, view_tup, hg, nb, q6, asg_d, List.set_cons_succ, List.set_cons_zero, is_ev, view_non, wd_view, isw, q2', view_str, eq_str, eb, q6', no, isn_ev, Option.map_some, Bool.not_false, if_true, eIndex_ev', eLix_ev, q7, il, view_lst, li, eSlc_ev, ePart_none, ePart_some, c1, c2, ne_str, decide_true, Bool.not_true, eIdx_ev, dV_some', i1, i2, nf]
theorem step1 (ns : List Int) (j : Nat) (v2 v3 v4 v5 v6 v7 v8 v9 v10 v11 : Option Cell) (st : Sto) (hf : Fit st) :
    ∃ v2' v3' v4' v5' v6' v7' v8' v9' v10' v11', b_law_1 G [V (.scr ns), V (.int (j : Nat)), v2, v3, v4, v5, v6, v7, v8, v9, v10, v11] st = .nx [V (.scr ns), V (.int (j : Nat)), v2', v3', v4', v5', v6', v7', v8', v9', v10', v11'] st := by
  obtain ⟨c, qc⟩ := r_cell 59 ns (j : Int) st (by omega)
  obtain ⟨c2, qc2⟩ := r_cell 59 ns 6 st (by decide)
  obtain ⟨es, he, qb⟩ := r_lawbook 54 (c + 3 * (j : Int)) st
  obtain ⟨es', he', qb'⟩ := r_lawbook 54 (c2 + 5 * (j : Int)) st
  have mu := bin_mul_l (i := 3) (j := (j : Int)) (by decide)
  have mu2 := bin_mul_l (i := 5) (j := (j : Int)) (by decide)
  obtain ⟨rh3, st3, e3, v4', v5', v6', v7', v8', v9', v10', v11', rfl, rfl⟩ := sLoop_inv (tg := .name 4) (body := b_law_2 G) nmD (fun rh st' => ∃ v4 v5 v6 v7 v8 v9 v10 v11, st' = st ∧ rh = [V (.scr ns), V (.int (j : Nat)), V (bkD es), V (bkD es'), v4, v5, v6, v7, v8, v9, v10, v11]) abd _ st ⟨v4, v5, v6, v7, v8, v9, v10, v11, rfl, rfl⟩ (by
    intro x hx rh st' hI
    obtain ⟨v4, v5, v6, v7, v8, v9, v10, v11, rfl, rfl⟩ := hI
    obtain ⟨v5', v6', v7', v8', v9', v10', v11', q⟩ := step2 he he' x st' hf (V (.scr ns)) (V (.int (j : Nat))) v5 v6 v7 v8 v9 v10 v11
    exact ⟨_, _, _, rfl, q, _, _, _, _, _, _, _, _, rfl, rfl⟩)
  refine ⟨V (bkD es), V (bkD es'), v4', v5', v6', v7', v8', v9', v10', v11', ?_⟩
  rw [show 59 + 1 = 60 from rfl] at qc qc2
  rw [show 54 + 6 = 60 from rfl] at qb qb'
  simp only [b_law_1, sSeq_ev, sAsg_ev, eCall_ev, eArgsC_e, eArgsC_nil, eBin_ev, eOp2_ev, eVar_ev, List.getElem?_cons_zero, List.getElem?_cons_succ, R.bind_ok, toDv_d, eC_ev, view_int, qc, mu, bin_add_int, qb, onR_ok, asg_d, List.set_cons_succ, List.set_cons_zero, onN_nx, qc2, mu2, qb', sFor_ev, iOneP_ev, notLoc_str, if_true, Option.bind_some, items_abd, oR_some]
  exact e3
theorem plain : ∀ ns : List Int, ns.length ≤ 63 → ∃ st, tbl dfs 61 "law" [.scr ns] [] = .ok (.bl true) st := by
  intro ns _
  obtain ⟨rh1, st1, e1, v1, v2, v3, v4, v5, v6, v7, v8, v9, v10, v11, f1, rfl⟩ := sLoop_inv (tg := .name 1) (body := b_law_1 G) (fun i : Nat => .int (i : Nat)) (fun rh st => ∃ v1 v2 v3 v4 v5 v6 v7 v8 v9 v10 v11, Fit st ∧ rh = [V (.scr ns), v1, v2, v3, v4, v5, v6, v7, v8, v9, v10, v11]) (List.range 6) [V (.scr ns), none, none, none, none, none, none, none, none, none, none, none] [] ⟨none, none, none, none, none, none, none, none, none, none, none, Fit.nil, rfl⟩ (by
    intro i hi rh st hI
    obtain ⟨v1, v2, v3, v4, v5, v6, v7, v8, v9, v10, v11, hf, rfl⟩ := hI
    obtain ⟨v2', v3', v4', v5', v6', v7', v8', v9', v10', v11', q⟩ := step1 ns i v2 v3 v4 v5 v6 v7 v8 v9 v10 v11 st hf
    exact ⟨_, _, _, rfl, q, _, _, _, _, _, _, _, _, _, _, _, hf, rfl⟩)
  have rg := rng_ev (n := 6) (by decide) [] [V (.scr ns), none, none, none, none, none, none, none, none, none, none, none]
  refine ⟨cut 0 (.bl true) st1, (t_law 60 _ _).trans ?_⟩
  have e0 : fnR 12 (m_law G) [.scr ns] [] = fin 0 (m_law G [V (.scr ns), none, none, none, none, none, none, none, none, none, none, none] []) := rfl
  rw [e0]
  simp only [m_law, sSeq_ev, sFor_ev]
  have rg : iOne rng1 (eC (.int 6)) [V (.scr ns), none, none, none, none, none, none, none, none, none, none, none] [] = .ok ((List.range 6).map fun i : Nat => .int (i : Nat)) [] := rg
  rw [rg]
  simp only [e1, onN_nx, sRet_ev, eC_ev, onR_ok, ret_d, fin_rt]
end KW

namespace KW
open PySem PySem.W PySem.Calls PyProof.Rows KL
abbrev R : PySem.W.OpenRow := PySem.W.OpenLaw.row PySem.Challenge.rw_keptlooks_k09_whole_trees_and_tables
abbrev hk : PySem.W.Hook := hkOf pg
def ob (s : PySem.W.SharedT) : He.AlX := He.obsX 4 (faOf2 pg) (defsOf pg) [] (pg.lms.map (·.by_)) (exOf pg) (HandSHeadRun.getT s)
theorem ob_eq (s : PySem.W.SharedT) : ob s = hk.obs s.abs := He.obsX_eq (HandSHeadRun.getT_eq s)
theorem run (w : World) : HandSHeadRun.RunEq R (PySem.W.view R.prog [35]) hk ob 6000 ["__name__", "LookError", "NoAsk", "Ring", "CELLS", "of_two", "worth_of", "Run", "run_of", "WORTHS", "all_worlds", "sign_of", "table", "parting", "with_cell", "hangs_on", "tree_from", "tree", "sign_by", "deepest", "joined", "free", "_law_cell", "_law_mix", "_law_rule", "_law_book", "_law_later", "_law_worlds", "_law_asked"] w := by
  intro os
  kernel_rfl
theorem holds_of (plain : ∀ ns : List Int, ns.length ≤ 63 → ∃ st, tbl dfs 61 "law" [.scr ns] [] = .ok (.bl true) st) : PySem.Challenge.rw_keptlooks_k09_whole_trees_and_tables.Holds := by
  w_on; o_law
  refine HandSHeadRun.head_any (r := R) (q := view R.prog [35]) (H := hk) (ob := ob) (M := 6000) (loose := ["__name__", "LookError", "NoAsk", "Ring", "CELLS", "of_two", "worth_of", "Run", "run_of", "WORTHS", "all_worlds", "sign_of", "table", "parting", "with_cell", "hangs_on", "tree_from", "tree", "sign_by", "deepest", "joined", "free", "_law_cell", "_law_mix", "_law_rule", "_law_book", "_law_later", "_law_worlds", "_law_asked"]) (d := HandSHeadRun.topDef R.prog 35) (kwd := []) ob_eq
    (by kernel_rfl) (fun s => by kernel_rfl) run (by kernel_rfl) (by kernel_rfl) (by kernel_rfl) (by rfl) (by first | assumption | decide +kernel) (by decide +kernel) ⟨rfl, rfl, rfl, rfl, rfl, by decide +kernel⟩ ?hw ?hc
  case hw => w_witness2
  case hc =>
    exact walk_row (l := PySem.Challenge.rw_keptlooks_k09_whole_trees_and_tables) (dl := f_law) (x := "script") rfl (by kernel_rfl) ⟨rfl, by decide, by decide⟩ (by kernel_rfl) pg_ok wd_ok ok_all okl_all (by kernel_rfl) rfl rfl rfl plain
end KW
theorem PySem.Challenge.cw_keptlooks_k09_whole_trees_and_tables_holds : PySem.Challenge.rw_keptlooks_k09_whole_trees_and_tables.Holds :=
  KW.holds_of KW.plain
